import PyProof.Rows.All
import Wide.All
import OpenK.AllK
import Wide.FinOn
import PySem.Challenge.RW_tg0013_01
open PySem PySem.W PySem.Calls PyProof.Rows
set_option Elab.async false
set_option maxRecDepth 100000
namespace Mine
set_option maxHeartbeats 8000000 in
open_top hd for PySem.Challenge.rw_tg0013_01
local macro_rules | `(tactic| walk_at $s:str) => `(tactic| k_extra $s)
local macro_rules | `(tactic| tb_start) => `(tactic| k_extra "tb_start")
local macro_rules | `(tactic| tb_rel) => `(tactic| k_extra "tb_rel")
local macro_rules | `(tactic| k_ne) => `(tactic| k_extra "k_ne")
local macro_rules | `(tactic| k_mem) => `(tactic| k_extra "k_mem")
local macro_rules | `(tactic| k_all) => `(tactic| k_extra "k_all")
local macro_rules | `(tactic| ktr_unf) => `(tactic| k_extra "ktr_unf")
local macro_rules | `(tactic| ktr_units) => `(tactic| k_extra "ktr_units")
local macro_rules | `(tactic| ktr_room) => `(tactic| k_extra "ktr_room")
local macro_rules | `(tactic| k_room) => `(tactic| k_extra "k_room")
local macro_rules | `(tactic| k_steps) => `(tactic| k_extra "k_steps")

abbrev PG : Program := PySem.Challenge.rw_tg0013_01.row.toRowW.prog

/-- what a body must end in: a value that V takes, the base heap kept -/
def EndV (V : Heap → Value → Heap → Prop) (g : Heap) (L : Addr) (s₁ : Shared) (fl : Flow) (s' : Shared) : Prop :=
  ∃ h' tk' m', s' = { s₁ with heap := h', toks := tk' } ∧ Fr g L h' m' ∧ V g (match fl with | .ret v => v | _ => .none) h'

/-- the value is as V says -/
def Got (V : Heap → Value → Heap → Prop) (g : Heap) (r : Value) (h' : Heap) : Prop := V g r h'
/-- a call of f with vs hands back a value that V takes; all that stood stays -/
def Says (f : Addr) (dk : Nat) (G : Heap → Prop) (vs : List Value) (V : Heap → Value → Heap → Prop) : Prop :=
  ∀ (w : World) (p : Program) (loose : List Str) (mean : ExcName → Option Value) (mg mb : Str → Option Value) (dp un : Nat) (gd : Option (List Code)) (cn : Str) (cs : Scope) (a : Addr) (ccd : Value) (cl : List (Str × Addr)) (outer : List Env) (A₀ : Around) (base h₀ : Heap) (L : Addr) (m : Str → Option Value) (s : Shared) (Q E : Value → Shared → Prop),
    Below A₀ base outer h₀ → Fr h₀ L s.heap m → (hd.heap_39 w.params).In h₀ → Top p loose mean mg mb h₀ → cs.kind = .function → G s.heap → dp + dk < recursionLimit → un + 8 * dk < cLine →
    (∀ r h' tk', s.heap.StaysIn h' → Fr h₀ L h' m → Got V s.heap r h' → Q r { s with heap := h', toks := tk' }) →
    wpAny (model PG w) (ktrTop dp un gd cn cs L a ccd cl outer) (call (.ref f) vs) Q E s

section
variable {prog : Program} {w : World} {p : Program} {loose : List Str} {mean : ExcName → Option Value} {mg mb : Str → Option Value} {dp un : Nat} {gd : Option (List Code)} {cn : Str} {cs : Scope} {a : Addr} {ccd : Value} {cl : List (Str × Addr)} {outer : List Env} {A₀ : Around} {base h₀ : Heap} {L : Addr} {m : Str → Option Value} {s : Shared} {Q E : Value → Shared → Prop}
  {K : Frag} {f : Addr} {vs : List Value} {V : Heap → Value → Heap → Prop}
  {name qual : Str} {params : Arguments} {body : List Stmt} {scope : Scope} {dV kV doc pm cdv ct oc : Value} {an od : Option Addr} {osl : Array (Option Value)}

theorem enter_ro (B : Below A₀ base outer h₀) (F : Fr h₀ L s.heap m) (X : K.In h₀) (T : Top p loose mean mg mb h₀) (hk : cs.kind = .function)
    (hret : ∀ r h' tk', s.heap.StaysIn h' → Fr h₀ L h' m → Got V s.heap r h' → Q r { s with heap := h', toks := tk' })
    (ho : K.lookup f = some ⟨oc, od, .func (fnOf name qual params body scope dV kV doc pm an cdv ct), osl⟩) (hcd : codeIn K cdv qual = true) (hroom : dp < recursionLimit)
    (hbind : BindsTo s (fnOf name qual params body scope dV kV doc pm an cdv ct) ⟨vs, []⟩ ((params.args.map (·.arg)).zip vs)) (hloc : ∀ y ∈ (params.args.map (·.arg)).zip vs, scope.names.lookup y.1 = some .local)
    (h : ∀ L' h₁ tk₁, Fr s.heap L' h₁ (fun y => ((params.args.map (·.arg)).zip vs).reverse.lookup y) → News s.heap L' h₁ [] → Below (ktrTop dp un gd cn cs L a ccd cl outer) base (envX cn cs L a ccd cl :: outer) s.heap → K.In s.heap → Top p loose mean mg mb s.heap →
      wpAny (model prog w) ((ktrTop dp un gd cn cs L a ccd cl outer).deeper (envOf qual scope L' f cdv)) (execs body (envOf qual scope L' f cdv))
        (EndV V s.heap L' s) (fun _ _ => False) { s with heap := h₁, toks := tk₁ })
    (hco : scope.isCoroutine = false) (hgen : scope.isGenerator = false) (hkf : scope.kind = .function)
    (hcell : ∀ x ∈ scope.names, x.2 ≠ .cell) : wpAny (model prog w) (ktrTop dp un gd cn cs L a ccd cl outer) (call (.ref f) vs) Q E s := by
  refine wpAny_call ?_
  have X' := X.keeps F.keep
  have hA : (ktrTop dp un gd cn cs L a ccd cl outer).frames = some (envX cn cs L a ccd cl :: outer) := rfl
  obtain ⟨FG, BG, st, lv⟩ := groundX (A := ktrTop dp un gd cn cs L a ccd cl outer) (env := envX cn cs L a ccd cl) (R := fun r s' => match r with | .ok (.ret v) => Q v s' | .ok _ => False | .error e => E e s') B F (News.nil) hA rfl hk
  refine codeAny_call_def (fd := fnOf name qual params body scope dV kV doc pm an cdv ct) (body := body) (binds := (params.args.map (·.arg)).zip vs) hroom (X' _ _ ho) rfl (T.nolimit.keeps F.keep) (codeRec_of X' hcd) rfl hbind hcell hloc (fun h₁ hns hk₁ => ?_) hco hgen hkf
  have F₁ : Fr s.heap s.heap.objs.size h₁ (fun y => ((params.args.map (·.arg)).zip vs).reverse.lookup y) := ⟨hns, hk₁, Nat.le_refl _⟩
  refine wpAny_mono (h s.heap.objs.size h₁ _ F₁ News.nil BG X' (T.keeps F.keep)) (fun fl s' hl => ?_) fun _ _ y => y.elim
  obtain ⟨h', tk', m', rfl, F', hv⟩ := hl
  refine lv _ _ (leaveK_ F' News.nil fun kF _ => ?_)
  exact hret _ _ _ F'.keep kF hv

theorem news_on {news : List (Addr × Obj)} {h h' : Heap} (N : News h₀ L h news) (k : h.StaysIn h') : News h₀ L h' news := fun p hp => ⟨k _ _ (N p hp).1, (N p hp).2⟩

theorem says_use {dk : Nat} {G : Heap → Prop} {news : List (Addr × Obj)} (S : Says f dk G vs V) (B : Below A₀ base outer h₀) (F : Fr h₀ L s.heap m) (X : (hd.heap_39 w.params).In h₀) (N : News h₀ L s.heap news) (T : Top p loose mean mg mb h₀) (hk : cs.kind = .function)
    (hG : G s.heap) (hd : dp + dk < recursionLimit) (hu : un + 8 * dk < cLine)
    (h : ∀ r h' tk', V s.heap r h' → Fr h₀ L h' m → News h₀ L h' news → s.heap.StaysIn h' → Q r { s with heap := h', toks := tk' }) :
    wpAny (model PG w) (ktrTop dp un gd cn cs L a ccd cl outer) (call (.ref f) vs) Q E s :=
  S _ _ _ _ _ _ _ _ _ _ _ _ _ _ _ _ _ _ _ _ _ _ _ B F X T hk hG hd hu fun r h' tk' k F' v => h r h' tk' v F' (news_on N k) k

/-- an int comes back -/
theorem says_int {dk : Nat} {G : Heap → Prop} {v : Int} {news : List (Addr × Obj)} (S : Says f dk G vs (fun _ r _ => ∃ t, r = .int v t)) (B : Below A₀ base outer h₀) (F : Fr h₀ L s.heap m) (X : (hd.heap_39 w.params).In h₀) (N : News h₀ L s.heap news) (T : Top p loose mean mg mb h₀) (hk : cs.kind = .function)
    (hG : G s.heap) (hd : dp + dk < recursionLimit) (hu : un + 8 * dk < cLine)
    (h : ∀ t h' tk', Fr h₀ L h' m → News h₀ L h' news → Q (.int v t) { s with heap := h', toks := tk' }) :
    wpAny (model PG w) (ktrTop dp un gd cn cs L a ccd cl outer) (call (.ref f) vs) Q E s :=
  says_use S B F X N T hk hG hd hu fun r h' tk' v F' N' _ => by
    obtain ⟨t, rfl⟩ := v
    exact h t h' tk' F' N'
theorem new_on {news : List (Addr × Obj)} {h h' : Heap} {r : Addr} {o : Obj} (F : Fr h₀ L h m) (N : News h₀ L h' news) (hf : h.get? r = none) (ho : h'.get? r = some o) : News h₀ L h' ((r, o) :: news) := by
  intro p hp
  rcases List.mem_cons.mp hp with rfl | hp
  · refine ⟨ho, ?_, ?_⟩
    · rintro rfl
      obtain ⟨oL, _, _, hL, _⟩ := F.ns
      rw [hf] at hL; cases hL
    · cases hq : h₀.get? r with
      | none => rfl
      | some o' => rw [F.keep _ _ hq] at hf; cases hf
  · exact N p hp
/-- a new list of ints comes back -/
def ListV (ns : List Int) (g : Heap) (r : Value) (h' : Heap) : Prop := ∃ a vs n, r = .ref a ∧ g.get? a = none ∧ h'.get? a = some (listOf (List.toArray vs) n) ∧ IntsAre vs ns
theorem says_list {dk : Nat} {G : Heap → Prop} {ns : List Int} {news : List (Addr × Obj)} (S : Says f dk G vs (ListV ns)) (B : Below A₀ base outer h₀) (F : Fr h₀ L s.heap m) (X : (hd.heap_39 w.params).In h₀) (N : News h₀ L s.heap news) (T : Top p loose mean mg mb h₀) (hk : cs.kind = .function)
    (hG : G s.heap) (hd : dp + dk < recursionLimit) (hu : un + 8 * dk < cLine)
    (h : ∀ a vs n h' tk', Fr h₀ L h' m → News h₀ L h' ((a, listOf (List.toArray vs) n) :: news) → (∀ p ∈ news, p.1 ≠ a) → IntsAre vs ns → Q (.ref a) { s with heap := h', toks := tk' }) :
    wpAny (model PG w) (ktrTop dp un gd cn cs L a ccd cl outer) (call (.ref f) vs) Q E s :=
  says_use S B F X N T hk hG hd hu fun r h' tk' v F' N' _ => by
    obtain ⟨a, vs, n, rfl, h1, h2, h3⟩ := v
    exact h a vs n h' tk' F' (new_on F N' h1 h2) (fun p hp e => by have := (N p hp).1; rw [e, h1] at this; cases this) h3
theorem says_bool {dk : Nat} {G : Heap → Prop} {v : Bool} {news : List (Addr × Obj)} (S : Says f dk G vs (fun _ r _ => r = .bool v)) (B : Below A₀ base outer h₀) (F : Fr h₀ L s.heap m) (X : (hd.heap_39 w.params).In h₀) (N : News h₀ L s.heap news) (T : Top p loose mean mg mb h₀) (hk : cs.kind = .function)
    (hG : G s.heap) (hd : dp + dk < recursionLimit) (hu : un + 8 * dk < cLine)
    (h : ∀ h' tk', Fr h₀ L h' m → News h₀ L h' news → Q (.bool v) { s with heap := h', toks := tk' }) :
    wpAny (model PG w) (ktrTop dp un gd cn cs L a ccd cl outer) (call (.ref f) vs) Q E s :=
  says_use S B F X N T hk hG hd hu fun r h' tk' v F' N' _ => by
    subst v
    exact h h' tk' F' N'
end

/-- the plain geometry -/
structure GeoD where
  files : Nat
  ranks : Nat
  size : Nat
  rays : List (List Int)
  knight : List Int

structure GeoEs (g : GeoD) (es : List DictEntry) (h : Heap) : Prop where
  files : ∃ t, getL "files" es = some (some (.int g.files t))
  ranks : ∃ t, getL "ranks" es = some (some (.int g.ranks t))
  size : ∃ t, getL "size" es = some (some (.int g.size t))
  rays : ∃ a rs, getL "rays" es = some (some (.ref a)) ∧ h.IsList a (List.map Value.ref rs).toArray ∧ rs.length = 8 ∧ ∀ i, i < 8 → ∃ vs, h.IsList (rs.getD i 0) (List.toArray vs) ∧ IntsAre vs (g.rays.getD i [])
  knight : ∃ a vs, getL "knight" es = some (some (.ref a)) ∧ h.IsList a (List.toArray vs) ∧ IntsAre vs g.knight
def GeoH (g : GeoD) (x : Addr) (h : Heap) : Prop := ∃ dx es n, h.get? x = some (instObj 53 dx) ∧ h.get? dx = some (dictOf es n) ∧ GeoEs g es h

theorem GeoH.keeps {g : GeoD} {x : Addr} {h h' : Heap} (G : GeoH g x h) (k : h.StaysIn h') : GeoH g x h' := by
  obtain ⟨dx, es, n, h1, h2, e⟩ := G
  refine ⟨dx, es, n, k _ _ h1, k _ _ h2, e.files, e.ranks, e.size, ?_, ?_⟩
  · obtain ⟨a, rs, e1, e2, e3, e4⟩ := e.rays
    refine ⟨a, rs, e1, stays_list k e2, e3, fun i hi => ?_⟩
    obtain ⟨vs, e5, e6⟩ := e4 i hi
    exact ⟨vs, stays_list k e5, e6⟩
  · obtain ⟨a, vs, e1, e2, e3⟩ := e.knight
    exact ⟨a, vs, e1, stays_list k e2, e3⟩

section
variable {w : World} {A : Around} {E : Value → Shared → Prop} {s : Shared} {x L : Addr} {h₀ : Heap} {m : Str → Option Value}
theorem geo_get {K : Frag} {dx : Addr} {es : List DictEntry} {n : Nat} {name : Str} {v : Value} {expr : Bool} {Q : Value → Shared → Prop} {attr : Option Value}
    (F : Fr h₀ L s.heap m) (X : K.In h₀) (h1 : h₀.get? x = some (instObj 53 dx)) (h2 : h₀.get? dx = some (dictOf es n))
    (hg : plainGet K 53 name = true) (hh : hasDictIn K 53 = true) (ha : findIn K (.ref 53) name = some attr) (hn : noGet K attr = true) (hl : getL name es = some (some v)) (hv : handedIn v = true)
    (h : Q v { s with toks := s.toks + 1 }) : wpAny (model PG w) A (getAttr (.ref x) name expr) Q E s :=
  get_own F X ⟨F.keep _ _ h1, rfl, rfl, F.keep _ _ h2⟩ hg hh ha hn hl hv h
theorem sub_ints {l : Addr} {vs : List Value} {ns : List Int} {k : Int} {u : Tok} {value slice : PySem.Expr} {Q : Value → Shared → Prop} (F : Fr h₀ L s.heap m) (hl : h₀.IsList l vs.toArray) (hi : IntsAre vs ns) (h0 : 0 ≤ k) (h1 : k < ns.length) (hfit : k < 2 ^ 63) (h : ∀ t, Q (.int (ns.getD k.toNat 0) t) s)
    (hs : subscripted slice false (.ref l) (.int k u) = operate [.ref l, .int k u] (getItem (.ref l) (.int k u)) := by with_unfolding_all rfl) :
    wpAny (model PG w) A (subscriptTail value slice (.ref l) (.int k u)) Q E s := item_anyK (hl.at fun o e => F.keep l o e) hi h0 h1 hfit h hs
theorem sub_refs {l : Addr} {rs : List Addr} {k : Int} {u : Tok} {value slice : PySem.Expr} {Q : Value → Shared → Prop} (F : Fr h₀ L s.heap m) (hl : h₀.IsList l (List.map Value.ref rs).toArray) (h0 : 0 ≤ k) (h1 : k < rs.length) (hfit : k < 2 ^ 63) (h : Q (.ref (rs.getD k.toNat 0)) s)
    (hs : subscripted slice false (.ref l) (.int k u) = operate [.ref l, .int k u] (getItem (.ref l) (.int k u)) := by with_unfolding_all rfl) (hg : ∀ r, letTemporaryGo value (.ref l) r = pure () := by intro _; with_unfolding_all rfl) :
    wpAny (model PG w) A (subscriptTail value slice (.ref l) (.int k u)) Q E s :=
  item_listL (hl.at fun o e => F.keep l o e) h0 hfit (by
    have hj : k.toNat < rs.length := by omega
    rw [List.getElem?_map, List.getElem?_eq_getElem hj, List.getD_eq_getElem?_getD, List.getElem?_eq_getElem hj]
    rfl) h hs hg
end

section
variable {prog : Program} {w : World} {A : Around} {E : Value → Shared → Prop} {s : Shared} {env : Env} {h₀ : Heap} {x : Str} {body : List Stmt} {Q : Flow → Shared → Prop}
abbrev SearchEnd (news : List (Addr × Obj)) (x : Str) (stored : List Str) (m₀ : Str → Option Value) : (Str → Option Value) → List (Addr × Obj) → Prop := KstS (fun _ : Unit => news) (fun _ => []) (fun _ => True) x stored m₀ (fun _ _ => True) []
/-- a loop over range(n) that keeps nothing -/
theorem loop_search {r : Addr} {n : Nat} {t₀ u₀ v₀ : Tok} {m₀ : Str → Option Value} {news : List (Addr × Obj)} (stored : List Str)
    (hh : A.handled = none) (hr : IsRange s.heap r 0 (n : Int) 1 t₀ u₀ v₀) (hn : n ≤ 1000000) (F : Fr h₀ env.locals s.heap m₀) (N : News h₀ env.locals s.heap news)
    (turn : ∀ (k : Int) t (u : Str → Option Value) h tk own, 0 ≤ k → k < n → OwnOff own (news.map (·.1)) → Fr h₀ env.locals h (fun y => if y = x then some (.int k t) else if stored.contains y then u y else m₀ y) → News h₀ env.locals h (news ++ own) →
      wpAny (model prog w) A (execs body env) (InvPostN h₀ env.locals (SearchEnd news x stored m₀) own (news.map (·.1)) { s with heap := h, toks := tk } Q) E { s with heap := h, toks := tk })
    (done : ∀ (u : Str → Option Value) h tk, Fr h₀ env.locals h (fun y => if y = x then u y else if stored.contains y then u y else m₀ y) → News h₀ env.locals h news → Q .next { s with heap := h, toks := tk }) :
    wpAny (model prog w) A (pyIter (.ref r)) (fun it s₂ => LoopAtV prog w A h₀ env x body Q E it s₂) E s := by
  have hz : ((n : Int) - 0).toNat = n := by omega
  refine kst_range (fun _ : Unit => news) (fun _ => []) (fun _ => True) stored (fun _ _ => True) () hh hr (small_one (by omega) (by omega) (by omega) (by omega)) (by rw [rangeSize_nat, hz]) F N True.intro (List.forall_mem_nil _) True.intro ?_ ?_
  · intro c pre k t u h tk own hk hl ho _ _ F' N'
    exact turn k t u h tk own (by omega) (by omega) ho F' N'
  · intro c u h tk _ _ F' N'
    exact done u h tk F' N'
end

theorem search_end {h₀ : Heap} {L : Addr} {x : Str} {stored : List Str} {m₀ m' : Str → Option Value} {news news' own : List (Addr × Obj)} {s₁ : Shared} {h' : Heap} {tk : Nat} (F : Fr h₀ L h' m') (N : News h₀ L h' news') (hn : ∀ p ∈ news, p ∈ news') (ho : ∀ p ∈ own, p ∈ news')
    (hr : ∀ z, z ≠ x → stored.contains z = false → m' z = m₀ z) : InvEndN h₀ L (SearchEnd news x stored m₀) own (news.map (·.1)) s₁ { s₁ with heap := h', toks := tk } :=
  kst_end () F N hn ho rfl True.intro (List.forall_mem_nil _) (fun z h1 _ h3 => hr z h1 h3) True.intro
theorem words_M0_0 : True := by
  k_with_none
  k_with "InvEndN" => (refine' search_end ?F ?N ?a ?b ?c; (case F => assumption); (case N => assumption); (case a => (intro zzp zzhp; first | (exact absurd zzhp List.not_mem_nil) | (simp only [List.mem_append, List.mem_cons] at *; simp_all))); (case b => (intro zzp zzhp; first | assumption | (simp only [List.nil_append, List.mem_append, List.mem_cons]; simp [zzhp]))); (case c => (intro zzz zzh1 zzh2; walk_at "frame end")))
  exact True.intro
theorem fr_let {g h : Heap} {L : Addr} {m : Str → Option Value} {P : Prop} (F : Fr g L h m) (k : let m' := m; Fr g L h m' → P) : P := k F
theorem tok_any {α : Type} {prog : Program} {w : World} {A : Around} {act : Sem α} {Q : α → Shared → Prop} {E : Value → Shared → Prop} {h : Heap} {g} {d} {t : Nat} {o} (k : ∀ t', wpAny (model prog w) A act Q E ⟨h, g, d, t', o⟩) : wpAny (model prog w) A act Q E ⟨h, g, d, t, o⟩ := k t
theorem tok_next {α : Type} {prog : Program} {w : World} {A : Around} {act : Sem α} {Q : α → Shared → Prop} {E : Value → Shared → Prop} {h : Heap} {g} {d} {t : Nat} {o} (k : ∀ t', wpAny (model prog w) A act Q E ⟨h, g, d, t', o⟩) : wpAny (model prog w) A act Q E ⟨h, g, d, t + 1, o⟩ := k (t + 1)
theorem skip_ne {α : Type} {z x : Str} {a b c : α} (h : z ≠ x) (k : b = c) : (if z = x then a else b) = c := (if_neg h).trans k
theorem skip_in {α : Type} {z x : Str} {st : List Str} {a b c : α} (h : st.contains z = false) (hx : x ∈ st) (k : b = c) : (if z = x then a else b) = c := skip_ne (fun e => by subst e; rw [List.contains_iff_mem.mpr hx] at h; cases h) k
theorem skip_b {α : Type} {z : Str} {st : List Str} {a b c : α} (h : st.contains z = false) (k : b = c) : (if st.contains z = true then a else b) = c := (if_neg (by rw [h]; decide)).trans k
theorem words_M0_1 : True := by
  k_with "frame end" => repeat (first | exact rfl | refine skip_ne (by with_reducible assumption) ?_ | refine skip_in (by with_reducible assumption) (by repeat (first | exact List.Mem.head _ | refine List.Mem.tail _ ?_)) ?_ | refine skip_b (by with_reducible assumption) ?_)
  k_with "k_steps" => repeat' (first | (k_unfold; (try dsimp only)) | (k_end; wrow_close) | ((with_reducible show wpAny _ _ (exec _ _) _ _ _); (with_reducible refine tok_next ?_); intro _) | (walk1; (try dsimp only)) | (dsimp only; walk1) | (leave1; walk_say "STEP leave1"; try dsimp only) | fail "no step")
  k_with "storeName" => (k_here; k_dflt (refine' storeX_L ?F ?N ?_ ?a ?b; (case F => k_asm); (case N => k_asm); (case a => rfl); (case b => rfl); k_whole; intro zzhq zzFq zzNq; (try k_sweep); refine fr_let zzFq ?_; clear zzFq; intro zzmLq zzFq))
  exact True.intro
theorem cj0 {p q : Prop} (h : p ∧ q) : p := h.1
theorem cj1 {x0 p q : Prop} (h : x0 ∧ p ∧ q) : p := h.2.1
theorem cl1 {x0 p : Prop} (h : x0 ∧ p) : p := h.2
theorem cj2 {x0 x1 p q : Prop} (h : x0 ∧ x1 ∧ p ∧ q) : p := h.2.2.1
theorem cl2 {x0 x1 p : Prop} (h : x0 ∧ x1 ∧ p) : p := h.2.2
theorem cj3 {x0 x1 x2 p q : Prop} (h : x0 ∧ x1 ∧ x2 ∧ p ∧ q) : p := h.2.2.2.1
theorem cl3 {x0 x1 x2 p : Prop} (h : x0 ∧ x1 ∧ x2 ∧ p) : p := h.2.2.2
theorem cj4 {x0 x1 x2 x3 p q : Prop} (h : x0 ∧ x1 ∧ x2 ∧ x3 ∧ p ∧ q) : p := h.2.2.2.2.1
theorem cl4 {x0 x1 x2 x3 p : Prop} (h : x0 ∧ x1 ∧ x2 ∧ x3 ∧ p) : p := h.2.2.2.2
theorem cj5 {x0 x1 x2 x3 x4 p q : Prop} (h : x0 ∧ x1 ∧ x2 ∧ x3 ∧ x4 ∧ p ∧ q) : p := h.2.2.2.2.2.1
theorem cl5 {x0 x1 x2 x3 x4 p : Prop} (h : x0 ∧ x1 ∧ x2 ∧ x3 ∧ x4 ∧ p) : p := h.2.2.2.2.2
theorem cj6 {x0 x1 x2 x3 x4 x5 p q : Prop} (h : x0 ∧ x1 ∧ x2 ∧ x3 ∧ x4 ∧ x5 ∧ p ∧ q) : p := h.2.2.2.2.2.2.1
theorem cl6 {x0 x1 x2 x3 x4 x5 p : Prop} (h : x0 ∧ x1 ∧ x2 ∧ x3 ∧ x4 ∧ x5 ∧ p) : p := h.2.2.2.2.2.2
theorem cj7 {x0 x1 x2 x3 x4 x5 x6 p q : Prop} (h : x0 ∧ x1 ∧ x2 ∧ x3 ∧ x4 ∧ x5 ∧ x6 ∧ p ∧ q) : p := h.2.2.2.2.2.2.2.1
theorem cl7 {x0 x1 x2 x3 x4 x5 x6 p : Prop} (h : x0 ∧ x1 ∧ x2 ∧ x3 ∧ x4 ∧ x5 ∧ x6 ∧ p) : p := h.2.2.2.2.2.2.2
theorem cj8 {x0 x1 x2 x3 x4 x5 x6 x7 p q : Prop} (h : x0 ∧ x1 ∧ x2 ∧ x3 ∧ x4 ∧ x5 ∧ x6 ∧ x7 ∧ p ∧ q) : p := h.2.2.2.2.2.2.2.2.1
theorem cl8 {x0 x1 x2 x3 x4 x5 x6 x7 p : Prop} (h : x0 ∧ x1 ∧ x2 ∧ x3 ∧ x4 ∧ x5 ∧ x6 ∧ x7 ∧ p) : p := h.2.2.2.2.2.2.2.2
theorem cj9 {x0 x1 x2 x3 x4 x5 x6 x7 x8 p q : Prop} (h : x0 ∧ x1 ∧ x2 ∧ x3 ∧ x4 ∧ x5 ∧ x6 ∧ x7 ∧ x8 ∧ p ∧ q) : p := h.2.2.2.2.2.2.2.2.2.1
theorem cl9 {x0 x1 x2 x3 x4 x5 x6 x7 x8 p : Prop} (h : x0 ∧ x1 ∧ x2 ∧ x3 ∧ x4 ∧ x5 ∧ x6 ∧ x7 ∧ x8 ∧ p) : p := h.2.2.2.2.2.2.2.2.2
theorem cj10 {x0 x1 x2 x3 x4 x5 x6 x7 x8 x9 p q : Prop} (h : x0 ∧ x1 ∧ x2 ∧ x3 ∧ x4 ∧ x5 ∧ x6 ∧ x7 ∧ x8 ∧ x9 ∧ p ∧ q) : p := h.2.2.2.2.2.2.2.2.2.2.1
theorem cl10 {x0 x1 x2 x3 x4 x5 x6 x7 x8 x9 p : Prop} (h : x0 ∧ x1 ∧ x2 ∧ x3 ∧ x4 ∧ x5 ∧ x6 ∧ x7 ∧ x8 ∧ x9 ∧ p) : p := h.2.2.2.2.2.2.2.2.2.2
theorem cj11 {x0 x1 x2 x3 x4 x5 x6 x7 x8 x9 x10 p q : Prop} (h : x0 ∧ x1 ∧ x2 ∧ x3 ∧ x4 ∧ x5 ∧ x6 ∧ x7 ∧ x8 ∧ x9 ∧ x10 ∧ p ∧ q) : p := h.2.2.2.2.2.2.2.2.2.2.2.1
theorem cl11 {x0 x1 x2 x3 x4 x5 x6 x7 x8 x9 x10 p : Prop} (h : x0 ∧ x1 ∧ x2 ∧ x3 ∧ x4 ∧ x5 ∧ x6 ∧ x7 ∧ x8 ∧ x9 ∧ x10 ∧ p) : p := h.2.2.2.2.2.2.2.2.2.2.2
theorem cj12 {x0 x1 x2 x3 x4 x5 x6 x7 x8 x9 x10 x11 p q : Prop} (h : x0 ∧ x1 ∧ x2 ∧ x3 ∧ x4 ∧ x5 ∧ x6 ∧ x7 ∧ x8 ∧ x9 ∧ x10 ∧ x11 ∧ p ∧ q) : p := h.2.2.2.2.2.2.2.2.2.2.2.2.1
theorem cl12 {x0 x1 x2 x3 x4 x5 x6 x7 x8 x9 x10 x11 p : Prop} (h : x0 ∧ x1 ∧ x2 ∧ x3 ∧ x4 ∧ x5 ∧ x6 ∧ x7 ∧ x8 ∧ x9 ∧ x10 ∧ x11 ∧ p) : p := h.2.2.2.2.2.2.2.2.2.2.2.2
theorem words_M0_2 : True := by
  k_with "conj" => first | with_reducible assumption | with_reducible exact cj0 (by assumption) | with_reducible exact cj1 (by assumption) | with_reducible exact cj2 (by assumption) | with_reducible exact cj3 (by assumption) | with_reducible exact cj4 (by assumption) | with_reducible exact cj5 (by assumption) | with_reducible exact cj6 (by assumption) | with_reducible exact cj7 (by assumption) | with_reducible exact cj8 (by assumption) | with_reducible exact cj9 (by assumption) | with_reducible exact cj10 (by assumption) | with_reducible exact cj11 (by assumption) | with_reducible exact cj12 (by assumption) | with_reducible exact cl1 (by assumption) | with_reducible exact cl2 (by assumption) | with_reducible exact cl3 (by assumption) | with_reducible exact cl4 (by assumption) | with_reducible exact cl5 (by assumption) | with_reducible exact cl6 (by assumption) | with_reducible exact cl7 (by assumption) | with_reducible exact cl8 (by assumption) | with_reducible exact cl9 (by assumption) | with_reducible exact cl10 (by assumption) | with_reducible exact cl11 (by assumption) | with_reducible exact cl12 (by assumption)
  k_with "k_ne" => (refine neN ?_; (try dsimp only); first | (refine Nat.ne_of_gt ?_; walk_at "conj") | (refine Nat.ne_of_lt ?_; walk_at "conj") | walk_at "conj" | (refine Ne.symm ?_; walk_at "conj"))
  exact True.intro
local macro_rules | `(tactic| k_lt $h:ident) => `(tactic| (replace $h := allLt_of $h; dsimp only [AllLt] at $h:ident))
theorem units_of {un a b c : Nat} (h : un + a < cLine) (h2 : Nat.ble (b + c) a = true) : un + b + c < cLine := by have := Nat.le_of_ble_eq_true h2; omega
theorem room1 {dp a : Nat} (h : dp + a < recursionLimit) (h2 : Nat.ble 1 a = true) : dp + 1 < recursionLimit := by have := Nat.le_of_ble_eq_true h2; omega
theorem room2 {dp a : Nat} (h : dp + a < recursionLimit) (h2 : Nat.ble 2 a = true) : dp + 1 + 1 < recursionLimit := by have := Nat.le_of_ble_eq_true h2; omega
theorem room3 {dp a b : Nat} (h : dp + a < recursionLimit) (h2 : Nat.ble (1 + b) a = true) : dp + 1 + b < recursionLimit := by have := Nat.le_of_ble_eq_true h2; omega
theorem words_M0_3 : True := by
  k_with "ktr_units" => exact units_of (by assumption) rfl
  k_with "ktr_room" => first | exact room1 (by assumption) rfl | exact room2 (by assumption) rfl | exact room3 (by assumption) rfl
  exact True.intro
/-- the names that a Geometry bears -/
def attrs : List Str := ["files", "ranks", "size", "full", "rays", "king", "knight", "pawn", "file_masks", "rank_masks", "castles", "rights_lost", "has_castling"]
def AttrOk (K : Frag) (name : Str) : Prop := plainGet K 53 name = true ∧ hasDictIn K 53 = true ∧ ∃ a, findIn K (.ref 53) name = some a ∧ noGet K a = true
theorem attrOk_intro {K : Frag} {name : Str} {a : Option Value} (h1 : plainGet K 53 name = true) (h2 : hasDictIn K 53 = true) (h3 : findIn K (.ref 53) name = some a) (h4 : noGet K a = true) : AttrOk K name := ⟨h1, h2, a, h3, h4⟩
theorem attr_ok (w : World) : PySem.Challenge.rw_tg0013_01.foot = 6 → ∀ name ∈ attrs, AttrOk (hd.heap_39 w.params) name := by
  k_fill
  intro _ name hm
  simp only [attrs, List.mem_cons, List.not_mem_nil, or_false] at hm
  rcases hm with rfl | rfl | rfl | rfl | rfl | rfl | rfl | rfl | rfl | rfl | rfl | rfl | rfl
  all_goals (refine' attrOk_intro ?k5 ?k6 ?k7 ?k8; (case k5 => k_is); (case k6 => k_is); (case k7 => k_is); (case k8 => k_is))
theorem at_files : Str.ofString "files" ∈ attrs := .head _
theorem at_ranks : Str.ofString "ranks" ∈ attrs := .tail _ (.head _)
theorem at_size : Str.ofString "size" ∈ attrs := .tail _ (.tail _ (.head _))
theorem at_full : Str.ofString "full" ∈ attrs := .tail _ (.tail _ (.tail _ (.head _)))
theorem at_rays : Str.ofString "rays" ∈ attrs := .tail _ (.tail _ (.tail _ (.tail _ (.head _))))
theorem at_king : Str.ofString "king" ∈ attrs := .tail _ (.tail _ (.tail _ (.tail _ (.tail _ (.head _)))))
theorem at_knight : Str.ofString "knight" ∈ attrs := .tail _ (.tail _ (.tail _ (.tail _ (.tail _ (.tail _ (.head _))))))
theorem at_pawn : Str.ofString "pawn" ∈ attrs := .tail _ (.tail _ (.tail _ (.tail _ (.tail _ (.tail _ (.tail _ (.head _)))))))
theorem at_file_masks : Str.ofString "file_masks" ∈ attrs := .tail _ (.tail _ (.tail _ (.tail _ (.tail _ (.tail _ (.tail _ (.tail _ (.head _))))))))
theorem at_rank_masks : Str.ofString "rank_masks" ∈ attrs := .tail _ (.tail _ (.tail _ (.tail _ (.tail _ (.tail _ (.tail _ (.tail _ (.tail _ (.head _)))))))))
theorem at_castles : Str.ofString "castles" ∈ attrs := .tail _ (.tail _ (.tail _ (.tail _ (.tail _ (.tail _ (.tail _ (.tail _ (.tail _ (.tail _ (.head _))))))))))
theorem at_rights_lost : Str.ofString "rights_lost" ∈ attrs := .tail _ (.tail _ (.tail _ (.tail _ (.tail _ (.tail _ (.tail _ (.tail _ (.tail _ (.tail _ (.tail _ (.head _)))))))))))
theorem at_has_castling : Str.ofString "has_castling" ∈ attrs := .tail _ (.tail _ (.tail _ (.tail _ (.tail _ (.tail _ (.tail _ (.tail _ (.tail _ (.tail _ (.tail _ (.tail _ (.head _))))))))))))
theorem nth_ref {rs : List Addr} {k : Int} (h : k.toNat < rs.length) : (List.map Value.ref rs)[k.toNat]? = some (.ref (rs.getD k.toNat 0)) := by
  rw [List.getElem?_map, List.getElem?_eq_getElem h, List.getD_eq_getElem?_getD, List.getElem?_eq_getElem h]
  rfl
/-- a goal at which the walk shall stand still -/
def Hold (P : Prop) : Prop := P
theorem hold {P : Prop} (h : Hold P) : P := h
theorem unhold {P : Prop} (h : P) : Hold P := h
theorem words_M0_4 : True := by
  k_with "getAttr ref" => (k_here; k_dflt (refine' geo_get ?F ?X ?h1 ?h2 ?k5 ?k6 ?k7 ?k8 ?l ?h ?_; (case F => k_asm); (case h1 => assumption); (case h2 => assumption); (case X => k_asm); (case k5 => k_is); (case k6 => k_is); (case k7 => k_is); (case k8 => k_is); (case l => assumption); (case h => k_handed); k_whole))
  exact True.intro
/- the entry into a def, and the end of its body -/
theorem words_M0_5 : True := by
  k_with "tb_start" => (refine' enter_ro ?k1 ?k2 ?k3 ?k4 ?kK ?kR ?k6 ?k7 ?k8 ?k9 ?kB ?_ ?c2 ?c3 ?c4 ?c5; (case k1 => assumption); (case k2 => assumption); (case k3 => assumption); (case k4 => assumption); (case kK => assumption); (case kR => assumption); (case k6 => k_is); (case k7 => k_is); (case k8 => omega); (case k9 => exact BindsTo.of_eq rfl); (case c5 => decide); (case kB => exact locs rfl); (case c2 => exact rfl); (case c3 => exact rfl); (case c4 => exact rfl); k_whole; intro zzLq zzhq zztkq zzFq zzNq zzBq zzXq zzTq; (simp only [List.map_cons, List.map_nil, List.zip_cons_cons, List.zip_nil_left, List.reverse_cons, List.reverse_nil, List.nil_append, List.cons_append] at zzFq); (try dsimp only); (try k_fold))
  k_with "tb_rel" => ((try dsimp only); (try k_unfold); (show EndV _ _ _ _ _ _); refine ⟨_, _, _, rfl, (by assumption), ?_⟩; first | exact ⟨_, rfl⟩ | exact rfl)
  k_with "binaryOp FloorDiv int int" => ((with_reducible refine floordiv_int ?b ?_ (Or.inl (PyProof.noPylong_small ?p))); (case b => omega); (case p => omega))
  k_with "binaryOp Mod int int" => ((with_reducible refine mod_int' ?b ?_); (case b => omega))
  k_with "binaryOp RShift int int" => ((with_reducible refine rshift_int ?b ?_); (case b => omega))
  k_with "binaryOp LShift int int" => ((with_reducible refine lshift_int_small ?a ?b ?c ?_); (case a => omega); (case b => omega); (case c => omega))
  k_with "subscriptTail" => (k_here; (with_reducible show wpAny _ _ (subscriptTail _ _ (Value.ref _) (Value.int _ _)) _ _ _); k_dflt (refine' sub_ints ?F ?l ?i ?a ?b ?c ?_ ?s; (case F => k_asm); (case l => assumption); (case i => assumption); (case a => omega); (case b => omega); (case c => omega); (case s => with_unfolding_all rfl); k_whole); intro _)
  k_with "subscriptTail" => (k_here; (with_reducible show wpAny _ _ (subscriptTail _ _ (Value.ref _) (Value.int _ _)) _ _ _); k_dflt (refine' sub_refs ?F ?l ?a ?b ?c ?_ ?s ?g; (case F => k_asm); (case l => assumption); (case a => omega); (case b => omega); (case c => omega); (case s => with_unfolding_all rfl); (case g => intro _; with_unfolding_all rfl); k_whole))
  exact True.intro
abbrev NoE : Value → Shared → Prop := fun _ _ => False
/-- where a body runs -/
structure RCx where
  w : World
  A : Around
  g : Heap
  L : Addr
/-- the def whose body it is -/
structure Fn where
  qual : Str
  scope : Scope
  f : Addr
  cd : Value
abbrev Fn.env (k : Fn) (L : Addr) : Env := envOf k.qual k.scope L k.f k.cd
abbrev Fra := Str → Option Value
abbrev Led := List (Addr × Obj)
structure RI (c : RCx) (k : Fn) (m : Fra) (news : Led) (e : PySem.Expr) (z : Int) : Prop where
  run : ∀ (Q : Value → Shared → Prop) (s : Shared), Fr c.g c.L s.heap m → News c.g c.L s.heap news → (∀ t h tk, Fr c.g c.L h m → News c.g c.L h news → Q (.int z t) ⟨h, s.gens, s.drawn, tk, s.os⟩) → wpAny (model PG c.w) c.A (eval e (k.env c.L)) Q NoE s
structure RV (c : RCx) (k : Fn) (m : Fra) (news : Led) (e : PySem.Expr) (u : Value) : Prop where
  run : ∀ (Q : Value → Shared → Prop) (s : Shared), Fr c.g c.L s.heap m → News c.g c.L s.heap news → (∀ h tk, Fr c.g c.L h m → News c.g c.L h news → Q u ⟨h, s.gens, s.drawn, tk, s.os⟩) → wpAny (model PG c.w) c.A (eval e (k.env c.L)) Q NoE s
structure RC (c : RCx) (k : Fn) (m : Fra) (news : Led) (e : PySem.Expr) (P : Prop) : Prop where
  run : ∀ (Q : Bool → Shared → Prop) (s : Shared), Fr c.g c.L s.heap m → News c.g c.L s.heap news → (∀ h tk, P → Fr c.g c.L h m → News c.g c.L h news → Q true ⟨h, s.gens, s.drawn, tk, s.os⟩) → (∀ h tk, ¬ P → Fr c.g c.L h m → News c.g c.L h news → Q false ⟨h, s.gens, s.drawn, tk, s.os⟩) → wpAny (model PG c.w) c.A (isTrue e (k.env c.L) (eval e (k.env c.L))) Q NoE s
structure RS (c : RCx) (k : Fn) (m : Fra) (news : Led) (ss : List Stmt) (R : Flow → Fra → Led → Prop) : Prop where
  run : ∀ (Q : Flow → Shared → Prop) (s : Shared), Fr c.g c.L s.heap m → News c.g c.L s.heap news → (∀ fl h m' news' tk, R fl m' news' → Fr c.g c.L h m' → News c.g c.L h news' → Q fl ⟨h, s.gens, s.drawn, tk, s.os⟩) → wpAny (model PG c.w) c.A (execs ss (k.env c.L)) Q NoE s
/-- what a changing body must end in -/
def EndN (W : Value → Led → Prop) (g : Heap) (L : Addr) (s₁ : Shared) (fl : Flow) (s' : Shared) : Prop :=
  ∃ h' tk' m' news', s' = { s₁ with heap := h', toks := tk' } ∧ Fr g L h' m' ∧ News g L h' news' ∧ W (match fl with | .ret v => v | _ => .none) news'
def GotN (W : Value → Led → Prop) (r : Value) (news' : Led) : Prop := W r news'
def DoesW (w : World) (f : Addr) (dk : Nat) (led ro : Led) (vs : List Value) (W : Led → Value → Led → Prop) : Prop :=
  ∀ (p : Program) (loose : List Str) (mean : ExcName → Option Value) (mg mb : Str → Option Value) (dp un : Nat) (gd : Option (List Code)) (cn : Str) (cs : Scope) (a : Addr) (ccd : Value) (cl : List (Str × Addr)) (outer : List Env) (A₀ : Around) (base h₀ : Heap) (L : Addr) (m : Str → Option Value) (rest : Led) (s : Shared) (Q E : Value → Shared → Prop),
    Below A₀ base outer h₀ → Fr h₀ L s.heap m → (hd.heap_39 w.params).In h₀ → News h₀ L s.heap (led ++ rest) → OwnOff rest (led.map (·.1)) → (∀ p ∈ ro, p ∈ rest) → Top p loose mean mg mb h₀ → cs.kind = .function → dp + dk < recursionLimit → un + 8 * dk < cLine →
    (∀ r news' h' tk', GotN (W rest) r news' → Fr h₀ L h' m → News h₀ L h' news' → Q r { s with heap := h', toks := tk' }) →
    wpAny (model PG w) (ktrTop dp un gd cn cs L a ccd cl outer) (PySem.call (.ref f) vs) Q E s
/-- a call that changes what stands in led and reads ro -/
def DoesR (f : Addr) (dk : Nat) (led ro : Led) (vs : List Value) (W : Led → Value → Led → Prop) : Prop := ∀ w, DoesW w f dk led ro vs W
/-- what holds of a body at all times -/
structure RW (c : RCx) (k : Fn) (n : Nat) : Prop where
  kind : k.scope.kind = .function
  hand : c.A.handled = none
  inn : (hd.heap_39 c.w.params).In c.g
  top : ∃ p loose mean mg mb, Top p loose mean mg mb c.g
  units : c.A.units + 8 * n < cLine
  call : ∀ {f : Addr} {dk : Nat} {G : Heap → Prop} {vs : List Value} {V : Heap → Value → Heap → Prop}, Says f dk G vs V → 1 ≤ dk ∧ dk ≤ n → ∀ (Q : Value → Shared → Prop) (s : Shared) (m : Fra), Fr c.g c.L s.heap m → G s.heap →
    (∀ r h tk, s.heap.StaysIn h → Fr c.g c.L h m → Got V s.heap r h → Q r { s with heap := h, toks := tk }) → wpAny (model PG c.w) c.A (PySem.call (.ref f) vs) Q NoE s
  does : ∀ {f : Addr} {dk : Nat} {led ro : Led} {vs : List Value} {W : Led → Value → Led → Prop}, DoesR f dk led ro vs W → 1 ≤ dk ∧ dk ≤ n → ∀ (Q : Value → Shared → Prop) (s : Shared) (m : Fra) (rest : Led), Fr c.g c.L s.heap m → News c.g c.L s.heap (led ++ rest) → OwnOff rest (led.map (·.1)) → (∀ p ∈ ro, p ∈ rest) →
    (∀ r news' h tk, GotN (W rest) r news' → Fr c.g c.L h m → News c.g c.L h news' → Q r { s with heap := h, toks := tk }) → wpAny (model PG c.w) c.A (PySem.call (.ref f) vs) Q NoE s
def SaysW (w : World) (f : Addr) (dk : Nat) (G : Heap → Prop) (vs : List Value) (V : Heap → Value → Heap → Prop) : Prop :=
  ∀ (p : Program) (loose : List Str) (mean : ExcName → Option Value) (mg mb : Str → Option Value) (dp un : Nat) (gd : Option (List Code)) (cn : Str) (cs : Scope) (a : Addr) (ccd : Value) (cl : List (Str × Addr)) (outer : List Env) (A₀ : Around) (base h₀ : Heap) (L : Addr) (m : Str → Option Value) (s : Shared) (Q E : Value → Shared → Prop),
    Below A₀ base outer h₀ → Fr h₀ L s.heap m → (hd.heap_39 w.params).In h₀ → Top p loose mean mg mb h₀ → cs.kind = .function → G s.heap → dp + dk < recursionLimit → un + 8 * dk < cLine →
    (∀ r h' tk', s.heap.StaysIn h' → Fr h₀ L h' m → Got V s.heap r h' → Q r { s with heap := h', toks := tk' }) →
    wpAny (model PG w) (ktrTop dp un gd cn cs L a ccd cl outer) (PySem.call (.ref f) vs) Q E s
theorem says_w {f : Addr} {dk : Nat} {G : Heap → Prop} {vs : List Value} {V : Heap → Value → Heap → Prop} (h : ∀ w, SaysW w f dk G vs V) : Says f dk G vs V := h
theorem room_in {dp n dk : Nat} (h : dp + (n + 1) < recursionLimit) (hd : dk ≤ n) : dp + 1 + dk < recursionLimit := by omega
theorem units_in {un n dk : Nat} (h : un + 8 * (n + 1) < cLine) (hd : dk ≤ n) : un + 3 + 8 * dk < cLine := by omega
/-- what is known inside a body called from where ktrTop stands -/
theorem rw_in {w : World} {qual : Str} {scope : Scope} {f : Addr} {cdv : Value} {n : Nat} {p : Program} {loose : List Str} {mean : ExcName → Option Value} {mg mb : Str → Option Value} {dp un : Nat} {gd : Option (List Code)} {cn : Str} {cs : Scope} {a : Addr} {ccd : Value} {cl : List (Str × Addr)} {outer : List Env} {base g : Heap} {L L' : Addr}
    (hkf : scope.kind = .function) (B : Below (ktrTop dp un gd cn cs L a ccd cl outer) base (envX cn cs L a ccd cl :: outer) g) (X : (hd.heap_39 w.params).In g) (T : Top p loose mean mg mb g) (hdd : dp + (n + 1) < recursionLimit) (huu : un + 8 * (n + 1) < cLine) :
    RW ⟨w, (ktrTop dp un gd cn cs L a ccd cl outer).deeper (envOf qual scope L' f cdv), g, L'⟩ ⟨qual, scope, f, cdv⟩ n :=
  ⟨hkf, rfl, X, ⟨_, _, _, _, _, T⟩, by show un + 3 + 8 * n < cLine; omega,
    fun S hle _ _ _ F2 hG2 q => S _ _ _ _ _ _ _ _ _ _ _ _ _ _ _ _ _ _ _ _ _ _ _ B F2 X T hkf hG2 (room_in hdd hle.2) (units_in huu hle.2) q,
    fun S hle _ _ _ _ F2 N2 o hro q => S _ _ _ _ _ _ _ _ _ _ _ _ _ _ _ _ _ _ _ _ _ _ _ _ B F2 X N2 o hro T hkf (room_in hdd hle.2) (units_in huu hle.2) q⟩
theorem says_rel {w : World} {name qual : Str} {params : Arguments} {body : List Stmt} {scope : Scope} {dV kV doc pm cdv ct oc : Value} {an od : Option Addr} {osl : Array (Option Value)} {f : Addr} {n : Nat} {G : Heap → Prop} {vs : List Value} {V : Heap → Value → Heap → Prop}
    (ho : (hd.heap_39 w.params).lookup f = some ⟨oc, od, .func (fnOf name qual params body scope dV kV doc pm an cdv ct), osl⟩) (hcd : codeIn (hd.heap_39 w.params) cdv qual = true)
    (hbind : ∀ s, BindsTo s (fnOf name qual params body scope dV kV doc pm an cdv ct) ⟨vs, []⟩ ((params.args.map (·.arg)).zip vs)) (hloc : ∀ y ∈ (params.args.map (·.arg)).zip vs, scope.names.lookup y.1 = some .local)
    (hco : scope.isCoroutine = false) (hgen : scope.isGenerator = false) (hkf : scope.kind = .function) (hcell : ∀ x ∈ scope.names, x.2 ≠ .cell)
    (h : ∀ (A : Around) (g : Heap) (L : Addr), let c : RCx := ⟨w, A, g, L⟩; RW c ⟨qual, scope, f, cdv⟩ n → G g → RS c ⟨qual, scope, f, cdv⟩ (fun y => ((params.args.map (·.arg)).zip vs).reverse.lookup y) [] body (fun fl _ news' => ∀ h, News c.g c.L h news' → V c.g (match fl with | .ret v => v | _ => .none) h)) : SaysW w f (n + 1) G vs V := by
  intro p loose mean mg mb dp un gd cn cs a ccd cl outer A₀ base h₀ L m s Q E B F X T hk hG hdd huu hret
  refine enter_ro B F X T hk hret ho hcd (by omega) (hbind s) hloc ?_ hco hgen hkf hcell
  intro L' h₁ tk₁ F' N' B' X' T'
  exact (h _ s.heap L' (rw_in hkf B' X' T' hdd huu) hG).run _ _ F' N' (fun fl h m' news' tk hR F N => ⟨h, tk, m', rfl, F, hR h N⟩)
theorem does_rel {w : World} {name qual : Str} {params : Arguments} {body : List Stmt} {scope : Scope} {dV kV doc pm cdv ct oc : Value} {an od : Option Addr} {osl : Array (Option Value)} {f : Addr} {n : Nat} {led ro : Led} {vs : List Value} {W : Led → Value → Led → Prop}
    (ho : (hd.heap_39 w.params).lookup f = some ⟨oc, od, .func (fnOf name qual params body scope dV kV doc pm an cdv ct), osl⟩) (hcd : codeIn (hd.heap_39 w.params) cdv qual = true)
    (hbind : ∀ s, BindsTo s (fnOf name qual params body scope dV kV doc pm an cdv ct) ⟨vs, []⟩ ((params.args.map (·.arg)).zip vs)) (hloc : ∀ y ∈ (params.args.map (·.arg)).zip vs, scope.names.lookup y.1 = some .local)
    (hco : scope.isCoroutine = false) (hgen : scope.isGenerator = false) (hkf : scope.kind = .function) (hcell : ∀ x ∈ scope.names, x.2 ≠ .cell)
    (h : ∀ (A : Around) (g : Heap) (L : Addr) (rest : Led), let c : RCx := ⟨w, A, g, L⟩; RW c ⟨qual, scope, f, cdv⟩ n → OwnOff rest (led.map (·.1)) → (∀ p ∈ ro, p ∈ rest) → RS c ⟨qual, scope, f, cdv⟩ (fun y => ((params.args.map (·.arg)).zip vs).reverse.lookup y) (led ++ rest) body (fun fl _ news' => W rest (match fl with | .ret v => v | _ => .none) news')) : DoesW w f (n + 1) led ro vs W := by
  intro p loose mean mg mb dp un gd cn cs a ccd cl outer A₀ base h₀ L m rest s Q E B F X N hoff hro T hk hdd huu hret
  refine wpAny_call ?_
  refine code_def (env := envX cn cs L a ccd cl) (A := ktrTop dp un gd cn cs L a ccd cl outer) (base := base) (outer := outer) B F X N T rfl rfl hk ho hcd (by show dp < _; omega) (hbind s) hloc (fun g L' h₁ FG F' N' B' X' T' => ?_) hco hgen hkf hcell
  exact wpAny_mono ((h _ g L' rest (rw_in hkf B' X' T' hdd huu) hoff hro).run (EndN (W rest) g L' s) _ F' N' fun fl h m' news' tk hR F N => ⟨h, tk, m', news', rfl, F, N, hR⟩)
    (fun fl s' hl => by
      obtain ⟨h', tk', m', news', rfl, F2, N2, hw⟩ := hl
      exact leaveK_ F2 N2 fun kF kN => hret _ _ _ _ hw kF kN) fun _ _ y => y.elim
section
variable {c : RCx} {k : Fn} {m : Fra} {news : Led} {e l r : PySem.Expr} {x y z : Int} {pos : Pos} {n : Nat} {R : Flow → Fra → Led → Prop} {rest : List Stmt}
theorem r_const {i : Int} {j : Nat} : RI c k m news (.Constant (.int i) j pos) i := ⟨fun _ _ F N q => wpAny_Constant_int (q _ _ _ F N)⟩
theorem r_of {u : Value} {t : Tok} (a : RV c k m news e u) (hv : u = .int z t) : RI c k m news e z := ⟨fun _ _ F N q => a.run _ _ F N fun _ _ F2 N2 => hv ▸ q t _ _ F2 N2⟩
theorem r_name {x : Str} {u : Value} (H : RW c k n) (hv : m x = some u) (hx : (k.env c.L).kindOf x = some .local) (hd : (x == ("__debug__" : Str)) = false) : RV c k m news (.Name x pos) u :=
  ⟨fun _ s F N q => wpAny_Name (wpAny_loadName_local H.kind hx F.ns hv (q s.heap s.toks F N)) hd⟩
theorem r_glob {x : Str} {u : Value} (H : RW c k n) (e : nsIn (hd.heap_39 c.w.params) mainGlobals x = some (some u)) (hx : (k.env c.L).kindOf x = some .globalImplicit) (hd : (x == ("__debug__" : Str)) = false) : RV c k m news (.Name x pos) u :=
  ⟨fun _ s F N q => by
    obtain ⟨p, loose, mean, mg, mb, T⟩ := H.top
    exact Name_function_global H.kind hx (loadGlobal_global (env := k.env c.L) (T.g.keeps F.keep) (mg_of H.inn T.g e) (q s.heap s.toks F N)) hd⟩
theorem r_bin {op : Operator} (f : Int → Int → Int) (a : RI c k m news l x) (b : RI c k m news r y) (o : ∀ (t u : Tok) (Q : Value → Shared → Prop) (s : Shared), Q (.int (f x y) s.toks) { s with toks := s.toks + 1 } → wpAny (model PG c.w) c.A (binaryOp op (.int x t) (.int y u)) Q NoE s) : RI c k m news (.BinOp l op r pos) (f x y) :=
  ⟨fun _ _ F N q => wpAny_BinOp (a.run _ _ F N fun t _ _ F2 N2 => b.run _ _ F2 N2 fun u _ _ F3 N3 => o t u _ _ (q _ _ _ F3 N3))⟩
theorem r_add (a : RI c k m news l x) (b : RI c k m news r y) : RI c k m news (.BinOp l .Add r pos) (x + y) := r_bin (· + ·) a b fun _ _ _ _ q => add_int q
theorem r_sub (a : RI c k m news l x) (b : RI c k m news r y) : RI c k m news (.BinOp l .Sub r pos) (x - y) := r_bin (· - ·) a b fun _ _ _ _ q => sub_int q
theorem r_and (a : RI c k m news l x) (b : RI c k m news r y) : RI c k m news (.BinOp l .BitAnd r pos) (Builtin.bitAnd x y) := r_bin Builtin.bitAnd a b fun _ _ _ _ q => and_int q
theorem r_or (a : RI c k m news l x) (b : RI c k m news r y) : RI c k m news (.BinOp l .BitOr r pos) (Builtin.bitOr x y) := r_bin Builtin.bitOr a b fun _ _ _ _ q => or_int q
theorem r_shr (a : RI c k m news l x) (b : RI c k m news r y) (h : 0 ≤ y) : RI c k m news (.BinOp l .RShift r pos) (x.fdiv (2 ^ y.toNat)) := r_bin (fun x y => x.fdiv (2 ^ y.toNat)) a b fun _ _ _ _ q => rshift_int h q
theorem r_shl (a : RI c k m news l x) (b : RI c k m news r y) (h : 0 ≤ y) (d : y ≤ 1000000) (g : x.natAbs < 2 ^ 64) : RI c k m news (.BinOp l .LShift r pos) (x * 2 ^ y.toNat) := r_bin (fun x y => x * 2 ^ y.toNat) a b fun _ _ _ _ q => lshift_int_small h d g q
theorem r_mul (a : RI c k m news l x) (b : RI c k m news r y) (h : -1000 ≤ x) (d : x ≤ 1000) : RI c k m news (.BinOp l .Mult r pos) (x * y) := r_bin (· * ·) a b fun _ _ _ _ q => mul_int q (PySem.IntMulOk.of_left (PySem.intBits_le_64 (by omega) (by omega)))
theorem r_mod (a : RI c k m news l x) (b : RI c k m news r y) (h : y ≠ 0) : RI c k m news (.BinOp l .Mod r pos) (x.fmod y) := r_bin Int.fmod a b fun _ _ _ _ q => mod_int' h q
theorem r_div (a : RI c k m news l x) (b : RI c k m news r y) (h : y ≠ 0) (d : y.natAbs < 1073741824) : RI c k m news (.BinOp l .FloorDiv r pos) (x.fdiv y) := r_bin Int.fdiv a b fun _ _ _ _ q => floordiv_int h q (Or.inl (PyProof.noPylong_small d))
theorem r_inv (a : RI c k m news l x) : RI c k m news (.UnaryOp .Invert l pos) (Builtin.bitNot x) := ⟨fun _ _ F N q => UnaryOp_ (a.run _ _ F N fun _ _ _ F2 N2 => invert_int (q _ _ _ F2 N2))⟩
theorem rc_cmp {op : CmpOp} {P : Prop} (f : Int → Int → Bool) (hP : f x y = true ↔ P) (a : RI c k m news l x) (b : RI c k m news r y) (hm : behindInMarks op r = false) (o : ∀ (t u : Tok) (Q : Value → Shared → Prop) (s : Shared), Q (.bool (f x y)) s → wpAny (model PG c.w) c.A (compareOp op (.int x t) (.int y u)) Q NoE s) : RC c k m news (.Compare l [op] [r] pos) P :=
  ⟨fun Q s F N q1 q2 => wpAny_isTrue_Compare1 (a.run _ _ F N fun t _ _ F2 N2 => b.run _ _ F2 N2 fun u h tk F3 N3 => o t u _ _ (wpAny_truthy_bool (by
    cases hb : f x y with
    | true => exact q1 _ _ (hP.mp hb) F3 N3
    | false => exact q2 _ _ (fun hp => by rw [hP.mpr hp] at hb; cases hb) F3 N3))) hm⟩
theorem rc_eq (a : RI c k m news l x) (b : RI c k m news r y) (hm : behindInMarks .Eq r = false) : RC c k m news (.Compare l [.Eq] [r] pos) (x = y) := rc_cmp (· == ·) (by simp) a b hm fun _ _ _ _ q => eq_int q
theorem rc_ne (a : RI c k m news l x) (b : RI c k m news r y) (hm : behindInMarks .NotEq r = false) : RC c k m news (.Compare l [.NotEq] [r] pos) (x ≠ y) := rc_cmp (· != ·) (by simp) a b hm fun _ _ _ _ q => ne_int q
theorem rc_lt (a : RI c k m news l x) (b : RI c k m news r y) (hm : behindInMarks .Lt r = false) : RC c k m news (.Compare l [.Lt] [r] pos) (x < y) := rc_cmp (fun x y => decide (x < y)) (by simp) a b hm fun _ _ _ _ q => lt_int q
theorem rc_gt (a : RI c k m news l x) (b : RI c k m news r y) (hm : behindInMarks .Gt r = false) : RC c k m news (.Compare l [.Gt] [r] pos) (y < x) := rc_cmp (fun x y => decide (x > y)) (by simp) a b hm fun _ _ _ _ q => gt_int q
theorem rc_ge (a : RI c k m news l x) (b : RI c k m news r y) (hm : behindInMarks .GtE r = false) : RC c k m news (.Compare l [.GtE] [r] pos) (y ≤ x) := rc_cmp (fun x y => decide (x ≥ y)) (by simp) a b hm fun _ _ _ _ q => ge_int q
theorem rs_nil (h : R .next m news) : RS c k m news [] R := ⟨fun _ _ F N q => wpAny_execs_nil (q _ _ _ _ _ h F N)⟩
theorem rs_ret {rpos : Pos} (a : RI c k m news e z) (h : ∀ t, R (.ret (.int z t)) m news) : RS c k m news (.Return (some e) rpos :: rest) R := ⟨fun _ _ F N q => wpAny_execs_cons (wpAny_Return_some (a.run _ _ F N fun t _ _ F2 N2 => q _ _ _ _ _ (h t) F2 N2))⟩
theorem rs_retV {u : Value} {rpos : Pos} (a : RV c k m news e u) (h : R (.ret u) m news) : RS c k m news (.Return (some e) rpos :: rest) R := ⟨fun _ _ F N q => wpAny_execs_cons (wpAny_Return_some (a.run _ _ F N fun _ _ F2 N2 => q _ _ _ _ _ h F2 N2))⟩
theorem rs_store {x : Str} {u : Value} {Q : Flow → Shared → Prop} {s : Shared} (H : RW c k n) (hx : (k.env c.L).kindOf x = some .local) (h : let m' : Fra := fun y => if y = x then some u else m y; RS c k m' news rest R) (F : Fr c.g c.L s.heap m) (N : News c.g c.L s.heap news)
    (q : ∀ fl h m' news' tk, R fl m' news' → Fr c.g c.L h m' → News c.g c.L h news' → Q fl ⟨h, s.gens, s.drawn, tk, s.os⟩) : wpAny (model PG c.w) c.A (storeName (k.env c.L) x u) (fun _ s' => wpAny (model PG c.w) c.A (execs rest (k.env c.L)) Q NoE s') NoE s :=
  wpAny_storeName_local hx F.ns (fun h' hn hs' => h.run _ _ (F.set hn hs') (N.set hs') q) (by show (k.scope.kind == .class || (k.scope.kind == .module && _)) = false; rw [H.kind]; rfl)
theorem rs_set {x : Str} {p1 p2 : Pos} (H : RW c k n) (a : RI c k m news e z) (hx : (k.env c.L).kindOf x = some .local) (hs : swapsWith e (some (.Name x p1)) p2.line (k.env c.L) = pure false) (h : ∀ t, let m' : Fra := fun y => if y = x then some (.int z t) else m y; RS c k m' news rest R) : RS c k m news (.Assign [.Name x p1] e p2 :: rest) R :=
  ⟨fun Q s F N q => wpAny_execs_cons (wpAny_Assign_Name (a.run _ _ F N fun t h1 tk F2 N2 => rs_store H hx (h t) F2 N2 q) hs)⟩
theorem rs_setV {x : Str} {u : Value} {p1 p2 : Pos} (H : RW c k n) (a : RV c k m news e u) (hx : (k.env c.L).kindOf x = some .local) (hs : swapsWith e (some (.Name x p1)) p2.line (k.env c.L) = pure false) (h : let m' : Fra := fun y => if y = x then some u else m y; RS c k m' news rest R) : RS c k m news (.Assign [.Name x p1] e p2 :: rest) R :=
  ⟨fun Q s F N q => wpAny_execs_cons (wpAny_Assign_Name (a.run _ _ F N fun h1 tk F2 N2 => rs_store H hx h F2 N2 q) hs)⟩
theorem rs_aug {op : Operator} {x : Str} {i j : Int} {t₀ : Tok} {p1 p2 : Pos} (f : Int → Int → Int) (H : RW c k n) (hv : m x = some (.int i t₀)) (a : RI c k m news e j) (hx : (k.env c.L).kindOf x = some .local) (o : ∀ (t u : Tok) (Q : Value → Shared → Prop) (s : Shared), Q (.int (f i j) s.toks) { s with toks := s.toks + 1 } → wpAny (model PG c.w) c.A (inplaceOp op (.int i t) (.int j u)) Q NoE s)
    (h : ∀ t, let m' : Fra := fun y => if y = x then some (.int (f i j) t) else m y; RS c k m' news rest R) : RS c k m news (.AugAssign (.Name x p1) op e p2 :: rest) R :=
  ⟨fun Q s F N q => wpAny_execs_cons (wpAny_AugAssign_Name (wpAny_loadName_local H.kind hx F.ns hv (a.run _ _ F N fun u _ _ F2 N2 => o t₀ u _ _ (rs_store H hx (h _) F2 N2 q))))⟩
theorem rs_ior {x : Str} {i j : Int} {t₀ : Tok} {p1 p2 : Pos} (H : RW c k n) (hv : m x = some (.int i t₀)) (a : RI c k m news e j) (hx : (k.env c.L).kindOf x = some .local) (h : ∀ t, let m' : Fra := fun y => if y = x then some (.int (Builtin.bitOr i j) t) else m y; RS c k m' news rest R) : RS c k m news (.AugAssign (.Name x p1) .BitOr e p2 :: rest) R := rs_aug Builtin.bitOr H hv a hx (fun _ _ _ _ q => ior_int q) h
theorem rs_iadd {x : Str} {i j : Int} {t₀ : Tok} {p1 p2 : Pos} (H : RW c k n) (hv : m x = some (.int i t₀)) (a : RI c k m news e j) (hx : (k.env c.L).kindOf x = some .local) (h : ∀ t, let m' : Fra := fun y => if y = x then some (.int (i + j) t) else m y; RS c k m' news rest R) : RS c k m news (.AugAssign (.Name x p1) .Add e p2 :: rest) R := rs_aug (· + ·) H hv a hx (fun _ _ _ _ q => iadd_int q) h
/-- behind a part of a body comes the rest -/
def Then (c : RCx) (k : Fn) (rest : List Stmt) (R : Flow → Fra → Led → Prop) : Flow → Fra → Led → Prop := fun fl m news => match fl with | .next => RS c k m news rest R | f => R f m news
theorem rs_if {test : PySem.Expr} {body orelse : List Stmt} {P : Prop} {p1 : Pos} (a : RC c k m news test P) (h1 : P → RS c k m news body (Then c k rest R)) (h2 : ¬ P → RS c k m news orelse (Then c k rest R)) : RS c k m news (.If test body orelse p1 :: rest) R :=
  ⟨fun Q s F N q => wpAny_execs_cons (wpAny_If (a.run _ _ F N
    (fun h tk hp F2 N2 => by
      rw [if_pos rfl]
      exact (h1 hp).run _ _ F2 N2 fun fl h' m' news' tk' hR F3 N3 => by
        cases fl with
        | next => exact hR.run _ _ F3 N3 q
        | ret v => exact q _ _ _ _ _ hR F3 N3
        | _ => exact q _ _ _ _ _ hR F3 N3)
    (fun h tk hp F2 N2 => by
      rw [if_neg (by decide)]
      exact (h2 hp).run _ _ F2 N2 fun fl h' m' news' tk' hR F3 N3 => by
        cases fl with
        | next => exact hR.run _ _ F3 N3 q
        | ret v => exact q _ _ _ _ _ hR F3 N3
        | _ => exact q _ _ _ _ _ hR F3 N3)))⟩
/-- an index that is no slice -/
def PlainIdx (e : PySem.Expr) : Prop := ∀ o x u, subscripted e false (.ref o) (.int x u) = operate [.ref o, .int x u] (getItem (.ref o) (.int x u))
theorem pi_name {x : Str} {p : Pos} : PlainIdx (.Name x p) := fun _ _ _ => by with_unfolding_all rfl
theorem pi_const {i : Int} {j : Nat} {p : Pos} : PlainIdx (.Constant (.int i) j p) := fun _ _ _ => by with_unfolding_all rfl
theorem pi_bin {op : Operator} {p : Pos} : PlainIdx (.BinOp l op r p) := fun _ _ _ => by with_unfolding_all rfl
theorem r_attrG {X dx : Addr} {es : List DictEntry} {j : Nat} {y name : Str} {u : Value} {xp : Pos} (H : RW c k n) (a : RV c k m news (.Name y xp) (.ref X)) (h1 : c.g.get? X = some (instObj 53 dx)) (h2 : c.g.get? dx = some (dictOf es j)) (hm : name ∈ attrs) (hl : getL name es = some (some u)) (hv : handedIn u = true) : RV c k m news (.Attribute (.Name y xp) name pos) u :=
  ⟨fun Q s F N q => by
    obtain ⟨k1, k2, at_, k3, k4⟩ := attr_ok c.w rfl name hm
    exact Attribute_Name_ (a.run _ _ F N fun h tk F2 N2 => get_own F2 H.inn ⟨F2.keep _ _ h1, rfl, rfl, F2.keep _ _ h2⟩ k1 k2 k3 k4 hl hv (q _ _ F2 N2))⟩
theorem r_attrN {X dx : Addr} {es : List DictEntry} {j : Nat} {y name : Str} {u : Value} {xp : Pos} (H : RW c k n) (a : RV c k m news (.Name y xp) (.ref X)) (h1 : (X, instObj 53 dx) ∈ news) (h2 : (dx, dictOf es j) ∈ news) (hm : name ∈ attrs) (hl : getL name es = some (some u)) (hv : handedIn u = true) : RV c k m news (.Attribute (.Name y xp) name pos) u :=
  ⟨fun Q s F N q => by
    obtain ⟨k1, k2, at_, k3, k4⟩ := attr_ok c.w rfl name hm
    exact Attribute_Name_ (a.run _ _ F N fun h tk F2 N2 => get_own F2 H.inn (InstAt.of_news N2 h1 h2) k1 k2 k3 k4 hl hv (q _ _ F2 N2))⟩
theorem r_itemG {o : Addr} {vs : List Value} {ns : List Int} (a : RV c k m news l (.ref o)) (b : RI c k m news r x) (hl : c.g.IsList o vs.toArray) (hi : IntsAre vs ns) (h0 : 0 ≤ x) (h1 : x < ns.length) (h2 : x < 2 ^ 63) (hs : PlainIdx r) : RI c k m news (.Subscript l r pos) (ns.getD x.toNat 0) :=
  ⟨fun _ _ F N q => Subscript_ (a.run _ _ F N fun _ _ F2 N2 => b.run _ _ F2 N2 fun _ _ _ F3 N3 => item_anyK (hl.at fun o e => F3.keep _ o e) hi h0 h1 h2 (fun t => q t _ _ F3 N3) (hs _ _ _))⟩
theorem r_itemN {o : Addr} {vs : List Value} {ns : List Int} {j : Nat} (a : RV c k m news l (.ref o)) (b : RI c k m news r x) (hl : (o, listOf vs.toArray j) ∈ news) (hi : IntsAre vs ns) (h0 : 0 ≤ x) (h1 : x < ns.length) (h2 : x < 2 ^ 63) (hs : PlainIdx r) : RI c k m news (.Subscript l r pos) (ns.getD x.toNat 0) :=
  ⟨fun _ _ F N q => Subscript_ (a.run _ _ F N fun _ _ F2 N2 => b.run _ _ F2 N2 fun _ _ _ F3 N3 => item_anyK ⟨_, (N3 _ hl).1, rfl, _, rfl⟩ hi h0 h1 h2 (fun t => q t _ _ F3 N3) (hs _ _ _))⟩
theorem r_itemVG {o : Addr} {vs : List Value} {u : Value} (a : RV c k m news l (.ref o)) (b : RI c k m news r x) (hl : c.g.IsList o vs.toArray) (h0 : 0 ≤ x) (h2 : x < 2 ^ 63) (hx : vs[x.toNat]? = some u) (hs : PlainIdx r) : RV c k m news (.Subscript l r pos) u :=
  ⟨fun _ _ F N q => Subscript_ (a.run _ _ F N fun _ _ F2 N2 => b.run _ _ F2 N2 fun _ _ _ F3 N3 => kba_turn (value' := .Name (Str.ofString "_") ⟨0, 0, 0, 0⟩) (fun _ => rfl) (item_listL (hl.at fun o e => F3.keep _ o e) h0 h2 hx (q _ _ F3 N3) (hs _ _ _) (fun _ => rfl)))⟩
theorem r_itemVN {o : Addr} {vs : List Value} {u : Value} {j : Nat} (a : RV c k m news l (.ref o)) (b : RI c k m news r x) (hl : (o, listOf vs.toArray j) ∈ news) (h0 : 0 ≤ x) (h2 : x < 2 ^ 63) (hx : vs[x.toNat]? = some u) (hs : PlainIdx r) : RV c k m news (.Subscript l r pos) u :=
  ⟨fun _ _ F N q => Subscript_ (a.run _ _ F N fun _ _ F2 N2 => b.run _ _ F2 N2 fun _ _ _ F3 N3 => kba_turn (value' := .Name (Str.ofString "_") ⟨0, 0, 0, 0⟩) (fun _ => rfl) (item_listL ⟨_, (N3 _ hl).1, rfl, _, rfl⟩ h0 h2 hx (q _ _ F3 N3) (hs _ _ _) (fun _ => rfl)))⟩
/-- the arguments of a call; the tokens of reckoned ints are the call's own -/
structure RA (c : RCx) (k : Fn) (m : Fra) (news : Led) (pos : Pos) (es : List PySem.Expr) (f : (Nat → Tok) → List Value) : Prop where
  run : ∀ (Q : List Value → Shared → Prop) (s : Shared), Fr c.g c.L s.heap m → News c.g c.L s.heap news → (∀ t h tk, Fr c.g c.L h m → News c.g c.L h news → Q (f t) ⟨h, s.gens, s.drawn, tk, s.os⟩) → wpAny (model PG c.w) c.A (spliced (backTo pos (starEach es (k.env c.L)))) Q NoE s
def PlainArg (e : PySem.Expr) : Prop := ∀ (rest : List PySem.Expr) (env : Env), starEach (e :: rest) env = (false, eval e env) :: starEach rest env
theorem pa_name {x : Str} {p : Pos} : PlainArg (.Name x p) := fun _ _ => rfl
theorem pa_const {q : Const} {j : Nat} {p : Pos} : PlainArg (.Constant q j p) := fun _ _ => rfl
theorem pa_bin {op : Operator} {p : Pos} : PlainArg (.BinOp l op r p) := fun _ _ => rfl
theorem pa_attr {y : Str} {p : Pos} : PlainArg (.Attribute l y p) := fun _ _ => rfl
theorem pa_sub {p : Pos} : PlainArg (.Subscript l r p) := fun _ _ => rfl
theorem pa_call {es : List PySem.Expr} {p : Pos} : PlainArg (.Call l es [] p) := fun _ _ => rfl
theorem ra_nil : RA c k m news pos [] fun _ => [] := ⟨fun _ _ F N q => args_nil (q (fun _ => 0) _ _ F N)⟩
theorem ra_val {es : List PySem.Expr} {u : Value} {f : (Nat → Tok) → List Value} (a : RV c k m news e u) (b : RA c k m news pos es f) (hp : PlainArg e) : RA c k m news pos (e :: es) fun t => u :: f t :=
  ⟨fun _ _ F N q => args_cons (a.run _ _ F N fun _ _ F2 N2 => b.run _ _ F2 N2 fun t _ _ F3 N3 => q t _ _ F3 N3) (hp _ _)⟩
theorem ra_int {es : List PySem.Expr} {f : (Nat → Tok) → List Value} (a : RI c k m news e z) (b : RA c k m news pos es f) (hp : PlainArg e) : RA c k m news pos (e :: es) fun t => .int z (t 0) :: f fun i => t (i + 1) :=
  ⟨fun _ _ F N q => args_cons (a.run _ _ F N fun t0 _ _ F2 N2 => b.run _ _ F2 N2 fun t _ _ F3 N3 => q (fun i => match i with | 0 => t0 | i + 1 => t i) _ _ F3 N3) (hp _ _)⟩
theorem r_call {fa : Addr} {f : (Nat → Tok) → List Value} {dk : Nat} {G : Heap → Prop} {V : Heap → Value → Heap → Prop} {es : List PySem.Expr} {fn : Str} {fp : Pos} (H : RW c k n) (a : RV c k m news (.Name fn fp) (.ref fa)) (hk : keepIn (hd.heap_39 c.w.params) (.ref fa) = true) (b : RA c k m news pos (e :: es) f) (hp : PlainArg e) (hs : (backTo pos (starEach es (k.env c.L))).any (·.1) = false)
    (S : ∀ t, Says fa dk G (f t) V) (hd : 1 ≤ dk ∧ dk ≤ n) (hG : ∀ h, Fr c.g c.L h m → News c.g c.L h news → G h) {Q : Value → Shared → Prop} {s : Shared} (F : Fr c.g c.L s.heap m) (N : News c.g c.L s.heap news) (q : ∀ h r h' tk, V h r h' → Fr c.g c.L h m → Fr c.g c.L h' m → News c.g c.L h' news → Q r ⟨h', s.gens, s.drawn, tk, s.os⟩) : wpAny (model PG c.w) c.A (eval (.Call (.Name fn fp) (e :: es) [] pos) (k.env c.L)) Q NoE s :=
  Call_ (a.run _ _ F N fun _ _ F2 N2 => callWith_K H.inn hk (b.run _ _ F2 N2 fun t h _ F3 N3 => ⟨H.inn.keeps F3.keep, H.call (S t) hd _ _ _ F3 (hG _ F3 N3) fun r h' tk st F4 v => q h r h' tk v F3 F4 (news_on N3 st)⟩) (hp _ _) hs)
theorem r_callI {fa : Addr} {f : (Nat → Tok) → List Value} {dk : Nat} {G : Heap → Prop} {es : List PySem.Expr} {fn : Str} {fp : Pos} (H : RW c k n) (a : RV c k m news (.Name fn fp) (.ref fa)) (hk : keepIn (hd.heap_39 c.w.params) (.ref fa) = true) (b : RA c k m news pos (e :: es) f) (hp : PlainArg e) (hs : (backTo pos (starEach es (k.env c.L))).any (·.1) = false)
    (S : ∀ t, Says fa dk G (f t) fun _ r _ => ∃ t', r = .int z t') (hd : 1 ≤ dk ∧ dk ≤ n) (hG : ∀ h, Fr c.g c.L h m → News c.g c.L h news → G h) : RI c k m news (.Call (.Name fn fp) (e :: es) [] pos) z :=
  ⟨fun _ _ F N q => r_call H a hk b hp hs S hd hG F N fun _ r _ _ v _ F4 N4 => by
    obtain ⟨t', rfl⟩ := v
    exact q _ _ _ F4 N4⟩
theorem r_callB {fa : Addr} {f : (Nat → Tok) → List Value} {dk : Nat} {G : Heap → Prop} {es : List PySem.Expr} {u : Bool} {fn : Str} {fp : Pos} (H : RW c k n) (a : RV c k m news (.Name fn fp) (.ref fa)) (hk : keepIn (hd.heap_39 c.w.params) (.ref fa) = true) (b : RA c k m news pos (e :: es) f) (hp : PlainArg e) (hs : (backTo pos (starEach es (k.env c.L))).any (·.1) = false)
    (S : ∀ t, Says fa dk G (f t) fun _ r _ => r = .bool u) (hd : 1 ≤ dk ∧ dk ≤ n) (hG : ∀ h, Fr c.g c.L h m → News c.g c.L h news → G h) : RV c k m news (.Call (.Name fn fp) (e :: es) [] pos) (.bool u) :=
  ⟨fun _ _ F N q => r_call H a hk b hp hs S hd hG F N fun _ r _ _ v _ F4 N4 => by
    subst v
    exact q _ _ F4 N4⟩
theorem r_topItem {o : Addr} {vs : List Value} {dd : Option Addr} {sl : Array (Option Value)} {j nn : Nat} {u : Value} (H : RW c k n) (a : RV c k m news l (.ref o)) (b : RI c k m news r x) (hl : (hd.heap_39 c.w.params).lookup o = some ⟨.type "tuple", dd, .seq vs.toArray nn, sl⟩) (hlo : -(2 ^ 63) ≤ x) (hhi : x < 2 ^ 63) (hj : seqIndex? x vs.length = some j) (hx : vs[j]? = some u) (hs : PlainIdx r) : RV c k m news (.Subscript l r pos) u :=
  ⟨fun _ _ F N q => Subscript_ (a.run _ _ F N fun _ _ F2 N2 => b.run _ _ F2 N2 fun _ _ _ F3 N3 => topTup_K F3 H.inn hl hlo hhi hj hx (q _ _ F3 N3) (hs _ _ _))⟩
theorem fra_same {x : Str} {u : Value} (hv : m x = some u) : (fun y => if y = x then some u else m y) = m := funext fun y => by
  by_cases h : y = x
  · rw [if_pos h, h, hv]
  · rw [if_neg h]
/-- if P: x op= e -/
theorem rs_ifior {test : PySem.Expr} {P : Prop} [Decidable P] {x : Str} {i j : Int} {t₀ : Tok} {p1 p2 p3 : Pos} (H : RW c k n) (hv : m x = some (.int i t₀)) (a : RC c k m news test P) (b : P → RI c k m news e j) (hx : (k.env c.L).kindOf x = some .local)
    (h : ∀ t, let m' : Fra := fun y => if y = x then some (.int (if P then Builtin.bitOr i j else i) t) else m y; RS c k m' news rest R) : RS c k m news (.If test [.AugAssign (.Name x p1) .BitOr e p2] [] p3 :: rest) R :=
  rs_if a (fun hp => rs_ior H hv (b hp) hx fun t => rs_nil (by
      have h2 := h t
      rw [if_pos hp] at h2
      exact h2))
    (fun hp => rs_nil (by
      have h2 := h t₀
      rw [if_neg hp] at h2
      dsimp only at h2
      rw [fra_same hv] at h2
      exact h2))
theorem rs_ifior_gt {x : Str} {i j u v : Int} {t₀ : Tok} {p0 p1 p2 p3 : Pos} (H : RW c k n) (hv : m x = some (.int i t₀)) (a : RI c k m news l u) (a2 : RI c k m news r v) (hm : behindInMarks .Gt r = false) (b : v < u → RI c k m news e j) (hx : (k.env c.L).kindOf x = some .local)
    (h : ∀ t, let m' : Fra := fun y => if y = x then some (.int (if v < u then Builtin.bitOr i j else i) t) else m y; RS c k m' news rest R) : RS c k m news (.If (.Compare l [.Gt] [r] p0) [.AugAssign (.Name x p1) .BitOr e p2] [] p3 :: rest) R := rs_ifior H hv (rc_gt a a2 hm) b hx h
theorem rs_ifior_lt {x : Str} {i j u v : Int} {t₀ : Tok} {p0 p1 p2 p3 : Pos} (H : RW c k n) (hv : m x = some (.int i t₀)) (a : RI c k m news l u) (a2 : RI c k m news r v) (hm : behindInMarks .Lt r = false) (b : u < v → RI c k m news e j) (hx : (k.env c.L).kindOf x = some .local)
    (h : ∀ t, let m' : Fra := fun y => if y = x then some (.int (if u < v then Builtin.bitOr i j else i) t) else m y; RS c k m' news rest R) : RS c k m news (.If (.Compare l [.Lt] [r] p0) [.AugAssign (.Name x p1) .BitOr e p2] [] p3 :: rest) R := rs_ifior H hv (rc_lt a a2 hm) b hx h
theorem r_builtin {x : Str} {u : Value} (H : RW c k n) (e : nsIn (hd.heap_39 c.w.params) mainGlobals x = some none) (hv : bootBuiltins x = some u) (hn : x ≠ "__name__") (hx : (k.env c.L).kindOf x = some .globalImplicit) (hd : (x == ("__debug__" : Str)) = false) : RV c k m news (.Name x pos) u :=
  ⟨fun _ s F N q => by
    obtain ⟨p, loose, mean, mg, mb, T⟩ := H.top
    exact Name_function_global H.kind hx (loadGlobal_builtin (env := k.env c.L) (T.g.keeps F.keep) (mg_none_of H.inn T.g e) (T.b.keeps F.keep) ((T.builtins x hn).trans hv) (q s.heap s.toks F N)) hd⟩
/-- how a turn of a loop over range ends -/
def TurnEnd {σ : Type} (Ld : σ → Led) (ps : σ → List (Str × Value)) (Facts : σ → Prop) (P : List Int → σ → Prop) (x : Str) (stored : List Str) (m : Fra) (adr : List Addr) (own : Led) (pre : List Int) (R : Flow → Fra → Led → Prop) : Flow → Fra → Led → Prop := fun fl m' news' => match fl with
  | .ret v => R (.ret v) m' news'
  | .next => ∃ d : σ, (∀ p ∈ Ld d, p ∈ news') ∧ (∀ p ∈ own, p ∈ news') ∧ (Ld d).map (·.1) = adr ∧ Facts d ∧ (∀ p ∈ ps d, m' p.1 = some p.2) ∧ (∀ z, z ≠ x → (∀ p ∈ ps d, z ≠ p.1) → stored.contains z = false → m' z = m z) ∧ P pre d
  | _ => False
theorem rs_for {σ : Type} {x : Str} {px pf pc pr : Pos} {body : List Stmt} {N : Nat} (Ld : σ → Led) (ps : σ → List (Str × Value)) (Facts : σ → Prop) (stored : List Str) (P : List Int → σ → Prop) (d₀ : σ)
    (H : RW c k n) (a : RI c k m (Ld d₀) e (N : Int)) (hN : N ≤ 1000000) (hp : PlainArg e) (hg : nsIn (hd.heap_39 c.w.params) mainGlobals "range" = some none) (hr : (k.env c.L).kindOf "range" = some .globalImplicit) (hx : (k.env c.L).kindOf x = some .local) (hf : Facts d₀) (hk : ∀ p ∈ ps d₀, m p.1 = some p.2) (hP : P [] d₀)
    (turn : ∀ (d : σ) (pre : List Int) (i : Int) (t : Tok) (u : Fra) (own : Led), i = (pre.length : Int) → pre.length < N → OwnOff own ((Ld d₀).map (·.1)) → Facts d → P pre d →
      let m' : Fra := fun y => if y = x then some (.int i t) else kstB (fun z => if stored.contains z then u z else m z) (ps d) y
      RS c k m' (Ld d ++ own) body (TurnEnd Ld ps Facts P x stored m ((Ld d₀).map (·.1)) own (pre ++ [i]) R))
    (done : ∀ (d : σ) (u : Fra), Facts d → P (rangeKs 0 N) d →
      let m' : Fra := fun y => if y = x then u y else kstB (fun z => if stored.contains z then u z else m z) (ps d) y
      RS c k m' (Ld d) rest R)
    (hs : ∀ v, foldedSetIterable (.Call (.Name "range" pr) [e] [] pc) (k.env c.L) v = pure v) : RS c k m (Ld d₀) (.For (.Name x px) (.Call (.Name "range" pr) [e] [] pc) body [] pf :: rest) R :=
  ⟨fun Q s F N₀ q => wpAny_execs_cons (For_invVF F hx (by show (k.scope.kind == .class || (k.scope.kind == .module && _)) = false; rw [H.kind]; rfl)
    (Call_ ((r_builtin (news := Ld d₀) (pos := pr) H hg PyProof.Rows.boot_range (by decide) hr (by decide)).run _ _ F N₀ fun _ _ F1 N1 => Pv.callWith_type1 ((ra_int a ra_nil hp).run _ _ F1 N1 fun t _ _ F2 N2 => range1_rows F2 N2 fun h' tk t₁ u₁ v₁ hR F3 N3 _ => by
      have hz : ((N : Int) - 0).toNat = N := by omega
      refine kst_range Ld ps Facts stored P d₀ H.hand hR (small_one (by omega) (by omega) (by omega) (by omega)) (by rw [rangeSize_nat, hz]) F3 N3 hf hk hP ?_ ?_
      · intro d pre i t u h tk own hi hl ho hfd hpd F4 N4
        refine (turn d pre i t u own (by omega) hl ho hfd hpd).run _ _ F4 N4 fun fl h5 m5 news5 tk5 hE F5 N5 => ?_
        cases fl with
        | ret v => exact q _ _ _ _ _ hE F5 N5
        | next =>
          obtain ⟨d5, e1, e2, e3, e4, e5, e6, e7⟩ := hE
          exact kst_end d5 F5 N5 e1 e2 e3 e4 e5 e6 e7
        | brk => exact hE.elim
        | cont => exact hE.elim
      · intro d u h tk hfd hpd F4 N4
        exact (done d u hfd hpd).run _ _ F4 N4 q) (hp _ _) (by rfl)) (by rfl)) hs PassesOwn.never)⟩
theorem rv_bool {b : Bool} {j : Nat} : RV c k m news (.Constant (.bool b) j pos) (.bool b) := ⟨fun _ _ F N q => Constant_bool (q _ _ F N)⟩
theorem rc_and {P P2 : Prop} (a : RC c k m news l P) (b : P → RC c k m news r P2) : RC c k m news (.BoolOp .And [l, r] pos) (P ∧ P2) :=
  ⟨fun Q s F N q1 q2 => isTrue_and (a.run _ _ F N
    (fun _ _ hp F2 N2 => by
      rw [if_pos rfl]
      exact isTrue_and ((b hp).run _ _ F2 N2
        (fun _ _ hp2 F3 N3 => by rw [if_pos rfl]; exact isTrue_and_nil (q1 _ _ ⟨hp, hp2⟩ F3 N3))
        (fun _ _ hp2 F3 N3 => by rw [if_neg (by decide)]; exact q2 _ _ (fun h => hp2 h.2) F3 N3)))
    (fun _ _ hp F2 N2 => by rw [if_neg (by decide)]; exact q2 _ _ (fun h => hp h.1) F2 N2))⟩
theorem rc_or {P P2 : Prop} (a : RC c k m news l P) (b : ¬ P → RC c k m news r P2) : RC c k m news (.BoolOp .Or [l, r] pos) (P ∨ P2) :=
  ⟨fun Q s F N q1 q2 => isTrue_or (a.run _ _ F N
    (fun _ _ hp F2 N2 => by rw [if_pos rfl]; exact q1 _ _ (Or.inl hp) F2 N2)
    (fun _ _ hp F2 N2 => by
      rw [if_neg (by decide)]
      exact isTrue_or ((b hp).run _ _ F2 N2
        (fun _ _ hp2 F3 N3 => by rw [if_pos rfl]; exact q1 _ _ (Or.inr hp2) F3 N3)
        (fun _ _ hp2 F3 N3 => by rw [if_neg (by decide)]; exact isTrue_or_nil (q2 _ _ (fun h => h.elim hp hp2) F3 N3)))))⟩
/-- how a turn of a loop ends that keeps nothing -/
def TurnS (x : Str) (stored : List Str) (m : Fra) (news own : Led) (R : Flow → Fra → Led → Prop) : Flow → Fra → Led → Prop := fun fl m' news' => match fl with
  | .ret v => R (.ret v) m' news'
  | .next => (∀ p ∈ news, p ∈ news') ∧ (∀ p ∈ own, p ∈ news') ∧ ∀ z, z ≠ x → stored.contains z = false → m' z = m z
  | _ => False
theorem turnS_end {x : Str} {stored : List Str} {m' : Fra} {own : Led} (h : ∀ z, z ≠ x → stored.contains z = false → m' z = m z) : TurnS x stored m news own R .next m' (news ++ own) := ⟨fun _ hp => List.mem_append_left _ hp, fun _ hp => List.mem_append_right _ hp, h⟩
theorem rs_search {x : Str} {px pf pc pr : Pos} {body : List Stmt} {N : Nat} (stored : List Str) (H : RW c k n) (a : RI c k m news e (N : Int)) (hN : N ≤ 1000000) (hp : PlainArg e) (hg : nsIn (hd.heap_39 c.w.params) mainGlobals "range" = some none) (hr : (k.env c.L).kindOf "range" = some .globalImplicit) (hx : (k.env c.L).kindOf x = some .local)
    (hs : ∀ v, foldedSetIterable (.Call (.Name "range" pr) [e] [] pc) (k.env c.L) v = pure v)
    (turn : ∀ (i : Int) (t : Tok) (u : Fra) (own : Led), 0 ≤ i → i < N → OwnOff own (news.map (·.1)) → let m' : Fra := fun y => if y = x then some (.int i t) else if stored.contains y then u y else m y; RS c k m' (news ++ own) body (TurnS x stored m news own R))
    (done : ∀ u : Fra, let m' : Fra := fun y => if y = x then u y else if stored.contains y then u y else m y; RS c k m' news rest R) : RS c k m news (.For (.Name x px) (.Call (.Name "range" pr) [e] [] pc) body [] pf :: rest) R :=
  rs_for (σ := Unit) (fun _ => news) (fun _ => []) (fun _ => True) stored (fun _ _ => True) () H a hN hp hg hr hx True.intro (List.forall_mem_nil _) True.intro
    (fun _ pre i t u own hi hl ho _ _ => ⟨fun Q s F N₀ q => (turn i t u own (by omega) (by omega) ho).run Q s F N₀ fun fl h m' news' tk hE F5 N5 => q fl h m' news' tk (by
      cases fl with
      | ret v => exact hE
      | next => exact ⟨(), hE.1, hE.2.1, rfl, True.intro, List.forall_mem_nil _, fun z h1 _ h3 => hE.2.2 z h1 h3, True.intro⟩
      | brk => exact hE
      | cont => exact hE) F5 N5⟩)
    (fun _ u _ _ => done u) hs
end
theorem str_self (name : Str) (tk : Tok) : (Value.str name tk).isStr name = true := beq_self_eq_true name
theorem find_put {name name' : Str} {hsh : Int} {tk : Tok} {v : Value} (hne : ∀ k : Value, k.isStr name = true → k.isStr name' = false) (hk : (Value.str name tk).isStr name = true) :
    ∀ es : List DictEntry, (putL name hsh (.str name tk) v es).find? (·.key.isStr name') = es.find? (·.key.isStr name')
  | [] => by
    show List.find? _ [_] = _
    simp only [List.find?_cons, List.find?_nil]
    rw [hne _ hk]
  | e :: r => by
    unfold putL
    split
    · rename_i he
      simp only [List.find?_cons]
      rw [hne _ he]
    · simp only [List.find?_cons]
      split
      · rfl
      · exact find_put hne hk r
theorem getL_of {name : Str} {es : List DictEntry} {v : Value} (h : getL name es = some (some v)) : ∃ e, es.find? (·.key.isStr name) = some e ∧ e.val = v := by
  unfold getL at h
  split at h
  · rename_i e he
    exact ⟨e, he, by simpa using h⟩
  · split at h <;> cases h
theorem getL_put_other {name name' : Str} {hsh : Int} {tk : Tok} {v w : Value} {es : List DictEntry} (hne : ∀ k : Value, k.isStr name = true → k.isStr name' = false) (h : getL name' es = some (some w)) :
    getL name' (putL name hsh (.str name tk) v es) = some (some w) := by
  obtain ⟨e, h1, h2⟩ := getL_of h
  unfold getL
  rw [find_put hne (str_self name tk), h1]
  simp [h2]
theorem getL_put_same {name : Str} {hsh : Int} {tk : Tok} {v : Value} : ∀ es : List DictEntry, getL name (putL name hsh (.str name tk) v es) = some (some v) := by
  have hk := str_self name tk
  have key : ∀ es : List DictEntry, ∃ e, (putL name hsh (.str name tk) v es).find? (·.key.isStr name) = some e ∧ e.val = v := by
    intro es
    induction es with
    | nil => exact ⟨_, by show List.find? _ [_] = _; rw [List.find?_cons_of_pos (by exact hk)], rfl⟩
    | cons e r ih =>
      unfold putL
      split
      · rename_i he
        exact ⟨_, by rw [List.find?_cons_of_pos (by exact he)], rfl⟩
      · rename_i he
        obtain ⟨e', h1, h2⟩ := ih
        exact ⟨e', by rw [List.find?_cons_of_neg (by exact he)]; exact h1, h2⟩
  intro es
  obtain ⟨e, h1, h2⟩ := key es
  unfold getL
  rw [h1]
  simp [h2]
theorem putL_len {name : Str} {hsh : Int} {key v : Value} : ∀ es : List DictEntry, (putL name hsh key v es).length ≤ es.length + 1
  | [] => Nat.le_refl _
  | e :: r => by
    unfold putL
    split
    · simp
    · have := putL_len (name := name) (hsh := hsh) (key := key) (v := v) r
      simp only [List.length_cons]
      omega
theorem str_apart {a b : Str} (h : (a == b) = false) (k : Value) (hk : k.isStr a = true) : k.isStr b = false := by
  cases k with
  | str x t =>
    have e1 : (x == a) = true := hk
    have e2 : x = a := eq_of_beq e1
    show (x == b) = false
    rw [e2]
    exact h
  | _ => cases hk
section
variable {w : World} {K : Frag} {h₀ : Heap} {L : Addr} {m : Str → Option Value} {s : Shared} {E : Value → Shared → Prop} {news news' : List (Addr × Obj)}
theorem geo_setN {A : Around} {x dx : Addr} {es : List DictEntry} {n : Nat} {name : Str} {v : Value} {Q : Unit → Shared → Prop}
    (F : Fr h₀ L s.heap m) (X : K.In h₀) (N : News h₀ L s.heap news) (h1 : (x, instObj 53 dx) ∈ news) (h2 : (dx, dictOf es n) ∈ news)
    (hs : findIn K (.ref 53) "__setattr__" = some (some (.builtin "object.__setattr__"))) (hp : plainOver K 53 = true) (ht : takerIn K 53 name = some none) (hh : hasDictIn K 53 = true) (hl : (getL name es).isSome = true) (hz : es.length ≤ 900)
    (U : Upd dx (dictOf es n) (dictOf (putL name (PyData.keyHash w.params name) (.str name (s.toks + 1)) v es) (putN name es n)) news news')
    (h : ∀ h', Fr h₀ L h' m → News h₀ L h' news' → Q () { s with heap := h', toks := s.toks + 2 }) :
    wpAny (model PG w) A (setAttr (.ref x) name v) Q E s :=
  set_dict F X N (InstAt.of_news N h1 h2) rfl hs hp ht hh hl rfl U (Nat.le_trans (putL_len es) (by omega)) h
end
section
variable {prog : Program} {w : World} {A : Around} {E : Value → Shared → Prop} {s : Shared} {env : Env} {h₀ : Heap} {x : Str} {body : List Stmt} {Q : Flow → Shared → Prop}
/-- a loop over range(b) whose ledger may grow -/
theorem loop_any {r : Addr} {b : Int} {t₀ u₀ v₀ : Tok} {m₀ : Str → Option Value} {news : List (Addr × Obj)} (J : Nat → (Str → Option Value) → List (Addr × Obj) → Prop)
    (hh : A.handled = none) (hr : IsRange s.heap r 0 b 1 t₀ u₀ v₀) (hb0 : -1000000 ≤ b) (hb1 : b ≤ 1000000) (F : Fr h₀ env.locals s.heap m₀) (N : News h₀ env.locals s.heap news) (hj : J 0 m₀ news)
    (turn : ∀ (i : Nat) t m₁ nx h tk own, (i : Int) < b → TbOff own nx → J i m₁ nx → Fr h₀ env.locals h (fun y => if y = x then some (.int (i : Int) t) else m₁ y) → News h₀ env.locals h (nx ++ own) →
      wpAny (model prog w) A (execs body env) (TbPost h₀ env.locals (J (i + 1)) own { s with heap := h, toks := tk } Q) E { s with heap := h, toks := tk })
    (done : ∀ m₁ nx h tk, J (b - 0).toNat m₁ nx → Fr h₀ env.locals h m₁ → News h₀ env.locals h nx → Q .next { s with heap := h, toks := tk }) :
    wpAny (model prog w) A (pyIter (.ref r)) (fun it s₂ => LoopAtV prog w A h₀ env x body Q E it s₂) E s := by
  refine wpAny_pyIter_range hr (small_one (by omega) (by omega) (by omega) (by omega)) ?_
  have W : Walks prog w A s.heap.objs.size [s.heap.objs.size] [s.heap.objs.size] (b - 0).toNat (fun i v => i < (b - 0).toNat ∧ ∃ t, v = .int (0 + i * 1) t)
      (fun i h => IsRangeIter h s.heap.objs.size (0 + (i : Nat) * 1) (((b - 0).toNat : Int) - (i : Nat)) 1) := (Walks.range hh _ 0 1 (b - 0).toNat).bound
  refine ⟨_, _, _, _, _, _, m₀, news, J, rfl, W, ?_, ?_, ?_, ?_, F.push _, (fun p hp => ⟨Heap.get?_push_of_some _ (N p hp).1, (N p hp).2⟩), hj, ?_, ?_⟩
  · intro hm
    exact absurd F.ns.lt ((List.mem_singleton.mp hm) ▸ Nat.lt_irrefl _)
  · intro b hb
    rw [List.mem_singleton.mp hb]
    exact next_is_new F
  · intro p hp hI
    exact absurd (Heap.lt_size (N p hp).1) ((List.mem_singleton.mp hI) ▸ Nat.lt_irrefl _)
  · show IsRangeIter _ _ _ _ _
    rw [rangeSize_nat]
    simpa using Heap.get?_push_size _ rfl
  · rintro i v m₁ nx s₁ own ⟨hh', tk', rfl⟩ hi ⟨hlt, t, rfl⟩ hJ hoff hown _ hmem hst F₁ N₁
    have hI : (s.heap.objs.size, _) ∈ own := hmem _ (.head _) (next_is_new F) _ hst
    have hsep : TbOff own nx := by
      intro p hp q hq e
      exact hoff q hq (List.mem_singleton.mpr (by rw [← e]; exact List.mem_singleton.mp (hown p hp)))
    have N₂ : News h₀ env.locals hh' (nx ++ own) := fun p hp => N₁ p ((List.mem_append.mp hp).elim (fun h => List.mem_append.mpr (.inr h)) fun h => List.mem_append.mpr (.inl h))
    have ei : (0 : Int) + (i : Int) * 1 = (i : Int) := by omega
    rw [ei] at F₁
    refine wpAny_mono (turn i t m₁ nx hh' tk' own (by omega) hsep hJ F₁ N₂) (fun f s₂ p => ?_) fun _ _ e => e
    have fin : TbEnd h₀ env.locals (J (i + 1)) own { s with heap := hh', toks := tk' } s₂ → LoopStepU h₀ env.locals [s.heap.objs.size] own (J (i + 1)) { s with heap := hh', toks := tk' } .next s₂ := by
      rintro ⟨h', tk, m', news', nx, e, F', N', hn, ho, ha, hm⟩
      exact ⟨rfl, h', tk, m', nx, e, F', fun p hp => N' p ((List.mem_append.mp hp).elim (ho p) (hn p)), fun p hp hq => ha _ hI p hp (List.mem_singleton.mp hq).symm, hm⟩
    cases f with
    | ret v => exact .ret p
    | brk => exact .brk p
    | next => exact .next (fin p)
    | cont => exact .cont (fin p)
  · rintro h' tk m' news' F' N' _ hJ
    exact done m' news' h' tk hJ F' N'
end
abbrev rangeObj (a b c : Int) (t u v : Tok) : Obj := { cls := .type "range", data := .fields #[.int a t, .int b u, .int c v] }
theorem le2000 {a : Nat} (h : a ≤ 1000) : a ≤ 2000 := Nat.le_trans h (by decide)
theorem off_at {l : Led} {adr : List Addr} {p : Addr × Obj} {b : Addr} (h : OwnOff l adr) (hp : p ∈ l) (hb : b ∈ adr) : p.1 ≠ b := h p hp b hb
theorem subL (l rest own : List (Addr × Obj)) : ∀ p ∈ l ++ rest, p ∈ l ++ (rest ++ own) := fun p hp => (List.mem_append.mp hp).elim (fun h => List.mem_append_left _ h) fun h => List.mem_append_right _ (List.mem_append_left _ h)
theorem ownL (l rest own : List (Addr × Obj)) : ∀ p ∈ own, p ∈ l ++ (rest ++ own) := fun _ hp => List.mem_append_right _ (List.mem_append_right _ hp)
/-- a list of these ints -/
def IsL (ns : List Int) (ob : Obj) : Prop := ∃ vs j, ob = listOf (List.toArray vs) j ∧ IntsAre vs ns
theorem pa_neg {e : PySem.Expr} {p : Pos} : PlainArg (.UnaryOp .USub e p) := fun _ _ => rfl
section
variable {c : RCx} {k : Fn} {m : Fra} {news news' : Led} {e l r o : PySem.Expr} {x y z : Int} {pos : Pos} {n : Nat} {R : Flow → Fra → Led → Prop} {rest ss : List Stmt}
theorem rs_weak (hs : ∀ p ∈ news', p ∈ news) (h : RS c k m news' ss R) : RS c k m news ss R := ⟨fun Q s F N q => h.run Q s F (fun p hp => N p (hs p hp)) q⟩
theorem rs_fra {m' : Fra} (hm : m = m') (h : RS c k m' news ss R) : RS c k m news ss R := hm ▸ h
theorem r_neg (a : RI c k m news l x) : RI c k m news (.UnaryOp .USub l pos) (-x) := ⟨fun _ _ F N q => UnaryOp_ (a.run _ _ F N fun _ _ _ F2 N2 => neg_int (q _ _ _ F2 N2))⟩
/-- the expression makes a new object -/
structure RN (c : RCx) (k : Fn) (m : Fra) (news : Led) (e : PySem.Expr) (P : Obj → Prop) : Prop where
  run : ∀ (Q : Value → Shared → Prop) (s : Shared), Fr c.g c.L s.heap m → News c.g c.L s.heap news → (∀ a ob h tk, P ob → (∀ p ∈ news, p.1 ≠ a) → Fr c.g c.L h m → News c.g c.L h ((a, ob) :: news) → Q (.ref a) ⟨h, s.gens, s.drawn, tk, s.os⟩) → wpAny (model PG c.w) c.A (eval e (k.env c.L)) Q NoE s
theorem fresh_lt {a : Addr} (h : ∀ p ∈ news, p.1 < a) : ∀ p ∈ news, p.1 ≠ a := fun p hp => Nat.ne_of_lt (h p hp)
theorem rn_list1 (a : RI c k m news e z) (hp : PlainArg e) : RN c k m news (.List [e] pos) (IsL [z]) :=
  ⟨fun Q s F N q => List_ ((ra_int a ra_nil hp).run _ _ F N fun t _ _ F2 N2 => newList_K F2 N2 (fun _ _ F3 N3 lt => q _ _ _ _ ⟨_, _, rfl, .cons _ _ .nil⟩ (fresh_lt lt) F3 N3) (by show (1 : Nat) ≤ _; exact of_decide_eq_true (by with_unfolding_all rfl)))⟩
theorem repl_are {N : Nat} {z : Int} {vs : List Value} (h : IntsAre vs (List.replicate (N : Int).toNat [z]).flatten) : IntsAre vs (List.replicate N z) := by
  rw [Int.toNat_natCast, List.flatten_replicate_singleton] at h
  exact h
theorem rn_mul {N : Nat} {p : Pos} (a : RI c k m news l z) (hp : PlainArg l) (b : ∀ a ob, RI c k m ((a, ob) :: news) r (N : Int)) (hN : N ≤ 1000) : RN c k m news (.BinOp (.List [l] p) .Mult r pos) (IsL (List.replicate N z)) :=
  ⟨fun Q s F N₀ q => wpAny_BinOp (List_ ((ra_int a ra_nil hp).run _ _ F N₀ fun t _ _ F2 N2 => newList_K F2 N2 (fun a' _ F3 N3 lt => (b _ _).run _ _ F3 N3 fun u h tk F4 N4 =>
    KM.mul F4 N4 ⟨_, (N4 _ (.head _)).1, rfl, _, rfl⟩ (.cons _ _ .nil) (by omega) (by omega) (by show 1 * _ ≤ _; rw [Int.toNat_natCast]; omega) fun D h' F5 N5 lt2 hi _ _ _ _ _ => q D _ _ _ ⟨_, _, rfl, repl_are hi⟩ (fresh_lt fun p hp => lt2 p (.tail _ hp)) F5 fun p hp => N5 p (by
        rcases List.mem_cons.mp hp with rfl | hp
        · exact .head _
        · exact .tail _ (.tail _ hp))) (by show (1 : Nat) ≤ _; exact of_decide_eq_true (by with_unfolding_all rfl))))⟩
theorem rn_range1 {pr pc : Pos} (H : RW c k n) (a : RI c k m news e z) (hp : PlainArg e) (hg : nsIn (hd.heap_39 c.w.params) mainGlobals "range" = some none) (hr : (k.env c.L).kindOf "range" = some .globalImplicit) : RN c k m news (.Call (.Name "range" pr) [e] [] pc) fun ob => ∃ t u v, ob = rangeObj 0 z 1 t u v :=
  ⟨fun Q s F N q => Call_ ((r_builtin (pos := pr) H hg PyProof.Rows.boot_range (by decide) hr (by decide)).run _ _ F N fun _ _ F1 N1 => Pv.callWith_type1 ((ra_int a ra_nil hp).run _ _ F1 N1 fun t _ _ F2 N2 => call_range_1 (q _ _ _ _ ⟨_, _, _, rfl⟩ (fresh_lt fun p hp => Heap.lt_size (N2 p hp).1) (F2.push _) (N2.push F2 _))) (hp _ _) (by rfl))⟩
theorem rn_range3 {pr pc : Pos} {e2 e3 : PySem.Expr} (H : RW c k n) (a : RI c k m news e x) (a2 : RI c k m news e2 y) (a3 : RI c k m news e3 z) (hp : PlainArg e) (hp2 : PlainArg e2) (hp3 : PlainArg e3) (hz : z ≠ 0) (hz1 : z.natAbs < 1073741824) (hg : nsIn (hd.heap_39 c.w.params) mainGlobals "range" = some none) (hr : (k.env c.L).kindOf "range" = some .globalImplicit) (hs : (backTo pc (starEach [e2, e3] (k.env c.L))).any (·.1) = false) : RN c k m news (.Call (.Name "range" pr) [e, e2, e3] [] pc) fun ob => ∃ t u v, ob = rangeObj x y z t u v :=
  ⟨fun Q s F N q => Call_ ((r_builtin (pos := pr) H hg PyProof.Rows.boot_range (by decide) hr (by decide)).run _ _ F N fun _ _ F1 N1 => Pv.callWith_type1 ((ra_int a (ra_int a2 (ra_int a3 ra_nil hp3) hp2) hp).run _ _ F1 N1 fun t _ _ F2 N2 => call_range_3 hz (q _ _ _ _ ⟨_, _, _, rfl⟩ (fresh_lt fun p hp => Heap.lt_size (N2 p hp).1) (F2.push _) (N2.push F2 _)) (Or.inl (PyProof.noPylong_small hz1))) (hp _ _) hs)⟩
theorem rs_new {x : Str} {p1 p2 : Pos} {P : Obj → Prop} (H : RW c k n) (a : RN c k m news e P) (hx : (k.env c.L).kindOf x = some .local) (hs : swapsWith e (some (.Name x p1)) p2.line (k.env c.L) = pure false) (h : ∀ a ob, P ob → (∀ p ∈ news, p.1 ≠ a) → let m' : Fra := fun y => if y = x then some (.ref a) else m y; RS c k m' ((a, ob) :: news) rest R) : RS c k m news (.Assign [.Name x p1] e p2 :: rest) R :=
  ⟨fun Q s F N q => wpAny_execs_cons (wpAny_Assign_Name (a.run _ _ F N fun a' ob h1 tk hP hf F2 N2 => rs_store H hx (h a' ob hP hf) F2 N2 q) hs)⟩
theorem rs_newAttr {name : Str} {a0 dx : Addr} {es : List DictEntry} {j : Nat} {p1 p2 : Pos} {P : Obj → Prop} {news' : Addr → Obj → Int → Tok → Led} (H : RW c k n) (a : RN c k m news e P) (b : ∀ a ob, RV c k m ((a, ob) :: news) o (.ref a0)) (h1 : (a0, instObj 53 dx) ∈ news) (h2 : (dx, dictOf es j) ∈ news)
    (g1 : findIn (hd.heap_39 c.w.params) (.ref 53) "__setattr__" = some (some (.builtin "object.__setattr__"))) (g2 : plainOver (hd.heap_39 c.w.params) 53 = true) (g3 : takerIn (hd.heap_39 c.w.params) 53 name = some none) (g4 : hasDictIn (hd.heap_39 c.w.params) 53 = true) (hl : (getL name es).isSome = true) (hz : es.length ≤ 900) (hs : swapsWith e (some (.Attribute o name p1)) p2.line (k.env c.L) = pure false)
    (h : ∀ a ob hsh tk, P ob → (∀ p ∈ news, p.1 ≠ a) → Upd dx (dictOf es j) (dictOf (putL name hsh (.str name tk) (.ref a) es) (putN name es j)) ((a, ob) :: news) (news' a ob hsh tk) ∧ RS c k m (news' a ob hsh tk) rest R) : RS c k m news (.Assign [.Attribute o name p1] e p2 :: rest) R :=
  ⟨fun Q s F N q => wpAny_execs_cons (plainObj_wpAny_Assign_Attribute (a.run _ _ F N fun a' ob h1' tk hP hf F2 N2 => (b a' ob).run _ _ F2 N2 fun _ _ F3 N3 =>
    geo_setN F3 H.inn N3 (.tail _ h1) (.tail _ h2) g1 g2 g3 g4 hl hz (h _ _ _ _ hP hf).1 fun h' F4 N4 => (h _ _ _ _ hP hf).2.run _ _ F4 N4 q) hs)⟩
theorem rs_push {D : Addr} {vs : List Value} {j : Nat} {apos cpos p2 : Pos} {pl : Sem Bool} {es : List PySem.Expr} {f : (Nat → Tok) → List Value} {news' : (Nat → Tok) → Led} (a : RV c k m news o (.ref D)) (hl : (D, listOf vs.toArray j) ∈ news) (b : RA c k m news cpos (e :: es) f) (hp : PlainArg e) (hs : (backTo cpos (starEach es (k.env c.L))).any (·.1) = false)
    (he : eval (.Call (.Attribute o "append" apos) (e :: es) [] cpos) (k.env c.L) = (do
      let ov ← eval o (k.env c.L)
      standAt apos.atName
      let (f, first) ← holding [ov] (getMethod ov "append" pl)
      callWith cpos f first (backTo cpos (starEach (e :: es) (k.env c.L))) []))
    (hi : interactive (k.env c.L) = false) (hw : swapsWith (.Call (.Attribute o "append" apos) (e :: es) [] cpos) none p2.line (k.env c.L) = pure false) (hsz : vs.length ≤ 2000)
    (h : ∀ t, ∃ u, f t = [u] ∧ Upd D (listOf vs.toArray j) (listOf (List.toArray (vs ++ [u])) (j + 1)) news (news' t) ∧ RS c k m (news' t) rest R) : RS c k m news (.Expr (.Call (.Attribute o "append" apos) (e :: es) [] cpos) p2 :: rest) R :=
  ⟨fun Q s F N q => wpAny_execs_cons (wpAny_Expr_any (MethodCall_ (a.run _ _ F N fun _ _ F2 N2 => listMethod_K N2 hl PySem.F.slot_list_append PySem.F.type_list_append (callWith_method1 (b.run _ _ F2 N2 fun t _ _ F3 N3 => by
    obtain ⟨u, e1, U, g⟩ := h t
    rw [e1]
    exact append_K F3 N3 (by rw [List.push_toArray]; exact U) (fun h' F4 N4 => g.run _ _ F4 N4 q) (by rw [List.size_toArray, PySem.sizeLine_eq]; omega)) (hp _ _) hs)) he) hi hw)⟩
/-- D.append(e), e an int -/
theorem rs_append {D : Addr} {vs : List Value} {j : Nat} {apos cpos p2 : Pos} {pl : Sem Bool} {news' : Tok → Led} (a : RV c k m news o (.ref D)) (hl : (D, listOf vs.toArray j) ∈ news) (b : RI c k m news e z) (hp : PlainArg e)
    (he : eval (.Call (.Attribute o "append" apos) [e] [] cpos) (k.env c.L) = (do
      let ov ← eval o (k.env c.L)
      standAt apos.atName
      let (f, first) ← holding [ov] (getMethod ov "append" pl)
      callWith cpos f first (backTo cpos (starEach [e] (k.env c.L))) []))
    (hi : interactive (k.env c.L) = false) (hw : swapsWith (.Call (.Attribute o "append" apos) [e] [] cpos) none p2.line (k.env c.L) = pure false) (hsz : vs.length ≤ 2000)
    (U : ∀ t, Upd D (listOf vs.toArray j) (listOf (List.toArray (vs ++ [.int z t])) (j + 1)) news (news' t)) (h : ∀ t, RS c k m (news' t) rest R) : RS c k m news (.Expr (.Call (.Attribute o "append" apos) [e] [] cpos) p2 :: rest) R :=
  rs_push (news' := fun t => news' (t 0)) a hl (ra_int b ra_nil hp) hp rfl he hi hw hsz fun t => ⟨_, rfl, U _, h _⟩
/-- D.append(e), e a value -/
theorem rs_appendV {D : Addr} {vs : List Value} {j : Nat} {u : Value} {apos cpos p2 : Pos} {pl : Sem Bool} (a : RV c k m news o (.ref D)) (hl : (D, listOf vs.toArray j) ∈ news) (b : RV c k m news e u) (hp : PlainArg e)
    (he : eval (.Call (.Attribute o "append" apos) [e] [] cpos) (k.env c.L) = (do
      let ov ← eval o (k.env c.L)
      standAt apos.atName
      let (f, first) ← holding [ov] (getMethod ov "append" pl)
      callWith cpos f first (backTo cpos (starEach [e] (k.env c.L))) []))
    (hi : interactive (k.env c.L) = false) (hw : swapsWith (.Call (.Attribute o "append" apos) [e] [] cpos) none p2.line (k.env c.L) = pure false) (hsz : vs.length ≤ 2000)
    (U : Upd D (listOf vs.toArray j) (listOf (List.toArray (vs ++ [u])) (j + 1)) news news') (h : RS c k m news' rest R) : RS c k m news (.Expr (.Call (.Attribute o "append" apos) [e] [] cpos) p2 :: rest) R :=
  rs_push (news' := fun _ => news') a hl (ra_val b ra_nil hp) hp rfl he hi hw hsz fun _ => ⟨_, rfl, U, h⟩
/-- o[i] = e -/
theorem rs_setItem {D : Addr} {vs : List Value} {ns : List Int} {j : Nat} {i : PySem.Expr} {w : Int} {p1 p2 : Pos} {news' : Tok → Led} (b : RI c k m news e z) (a : RV c k m news o (.ref D)) (d : RI c k m news i w) (_hl : (D, listOf vs.toArray j) ∈ news) (hi : IntsAre vs ns) (h0 : 0 ≤ w) (h1 : w < ns.length) (h2 : w < 1000) (hs : swapsWith e (some (.Subscript o i p1)) p2.line (k.env c.L) = pure false)
    (U : ∀ t, Upd D (listOf vs.toArray j) (listOf (List.toArray (vs.set w.toNat (.int z t))) j) news (news' t)) (h : ∀ t, IntsAre (vs.set w.toNat (.int z t)) (ns.set w.toNat z) → RS c k m (news' t) rest R) : RS c k m news (.Assign [.Subscript o i p1] e p2 :: rest) R :=
  ⟨fun Q s F N q => wpAny_execs_cons (wpAny_Assign_Subscript (b.run _ _ F N fun t _ _ F2 N2 => a.run _ _ F2 N2 fun _ _ F3 N3 => d.run _ _ F3 N3 fun u _ _ F4 N4 => ksa_set F4 N4 (U t) hi h0 h1 (by omega) fun h' F5 N5 hi2 _ _ => (h t hi2).run _ _ F5 N5 q) hs)⟩
/-- o[i] |= e -/
theorem rs_iorItem {D : Addr} {vs : List Value} {ns : List Int} {j : Nat} {y : Str} {w : Int} {p p1 p2 : Pos} {news' : Tok → Led} (a : RV c k m news o (.ref D)) (d : RI c k m news (.Name y p) w) (hl : (D, listOf vs.toArray j) ∈ news) (b : RI c k m news e z) (hi : IntsAre vs ns) (h0 : 0 ≤ w) (h1 : w < ns.length) (h2 : w < 1000)
    (U : ∀ t, Upd D (listOf vs.toArray j) (listOf (List.toArray (vs.set w.toNat (.int (Builtin.bitOr (ns.getD w.toNat 0) z) t))) j) news (news' t)) (h : ∀ t, IntsAre (vs.set w.toNat (.int (Builtin.bitOr (ns.getD w.toNat 0) z) t)) (ns.set w.toNat (Builtin.bitOr (ns.getD w.toNat 0) z)) → RS c k m (news' t) rest R) : RS c k m news (.AugAssign (.Subscript o (.Name y p) p1) .BitOr e p2 :: rest) R :=
  ⟨fun Q s F N q => wpAny_execs_cons (wpAny_AugAssign_Subscript (a.run _ _ F N fun _ _ F2 N2 => d.run _ _ F2 N2 fun u _ _ F3 N3 => getItem_intsK ⟨_, (N3 _ hl).1, rfl, _, rfl⟩ hi h0 h1 (by omega) fun t0 => b.run _ _ F3 N3 fun t _ _ F4 N4 => ior_int (ksa_set F4 N4 (U _) hi h0 h1 (by omega) fun h' F5 N5 hi2 _ _ => (h _ hi2).run _ _ F5 N5 q)))⟩
theorem rc_int (a : RI c k m news e z) (he : isTrue e (k.env c.L) (eval e (k.env c.L)) = (do let v ← eval e (k.env c.L); standAt e.pos; holding [v] (truthy v))) : RC c k m news e (z ≠ 0) :=
  ⟨fun Q s F N q1 q2 => isTrue_plain (a.run _ _ F N fun t h tk F2 N2 => truthy_int (by
    by_cases hz : z = 0
    · have : (z != 0) = false := by simp [hz]
      rw [this]; exact q2 _ _ (fun h => h hz) F2 N2
    · have : (z != 0) = true := by simp [hz]
      rw [this]; exact q1 _ _ hz F2 N2)) he⟩
theorem rc_bool {b : Bool} (a : RV c k m news e (.bool b)) (he : isTrue e (k.env c.L) (eval e (k.env c.L)) = (do let v ← eval e (k.env c.L); standAt e.pos; holding [v] (truthy v))) : RC c k m news e (b = true) :=
  ⟨fun Q s F N q1 q2 => isTrue_plain (a.run _ _ F N fun h tk F2 N2 => wpAny_truthy_bool (by
    cases b with
    | true => exact q1 _ _ rfl F2 N2
    | false => exact q2 _ _ Bool.false_ne_true F2 N2)) he⟩
theorem rc_not {P : Prop} (a : RC c k m news e P) : RC c k m news (.UnaryOp .Not e pos) (¬ P) :=
  ⟨fun Q s F N q1 q2 => isTrue_not (a.run _ _ F N (fun h tk hp F2 N2 => q2 _ _ (fun h => h hp) F2 N2) (fun h tk hp F2 N2 => q1 _ _ hp F2 N2))⟩
theorem rc_and_no {P : Prop} (a : RC c k m news l P) (hn : ¬ P) : RC c k m news (.BoolOp .And [l, r] pos) False :=
  ⟨fun Q s F N _ q2 => isTrue_and (a.run _ _ F N (fun _ _ hp _ _ => (hn hp).elim) (fun _ _ _ F2 N2 => by rw [if_neg (by decide)]; exact q2 _ _ id F2 N2))⟩
theorem rv_none {j : Nat} : RV c k m news (.Constant .none j pos) .none := ⟨fun _ _ F N q => Constant_none (q _ _ F N)⟩
theorem rv_cmp {op : CmpOp} (f : Int → Int → Bool) (a : RI c k m news l x) (b : RI c k m news r y) (hm : behindInMarks op r = false) (o : ∀ (t u : Tok) (Q : Value → Shared → Prop) (s : Shared), Q (.bool (f x y)) s → wpAny (model PG c.w) c.A (compareOp op (.int x t) (.int y u)) Q NoE s) : RV c k m news (.Compare l [op] [r] pos) (.bool (f x y)) :=
  ⟨fun Q s F N q => wpAny_Compare1 (a.run _ _ F N fun t _ _ F2 N2 => b.run _ _ F2 N2 fun u h tk F3 N3 => o t u _ _ (q _ _ F3 N3)) hm⟩
theorem rv_gt (a : RI c k m news l x) (b : RI c k m news r y) (hm : behindInMarks .Gt r = false) : RV c k m news (.Compare l [.Gt] [r] pos) (.bool (decide (x > y))) := rv_cmp (fun x y => decide (x > y)) a b hm fun _ _ _ _ q => gt_int q
theorem rv_eq (a : RI c k m news l x) (b : RI c k m news r y) (hm : behindInMarks .Eq r = false) : RV c k m news (.Compare l [.Eq] [r] pos) (.bool (x == y)) := rv_cmp (· == ·) a b hm fun _ _ _ _ q => eq_int q
theorem rv_or {a b : Bool} (h1 : RV c k m news l (.bool a)) (h2 : RV c k m news r (.bool b)) : RV c k m news (.BoolOp .Or [l, r] pos) (.bool (a || b)) :=
  ⟨fun Q s F N q => BoolOp_or (h1.run _ _ F N fun _ _ F2 N2 => wpAny_truthy_bool (by
    cases a with
    | true => rw [if_pos rfl]; exact q _ _ F2 N2
    | false => rw [if_neg Bool.false_ne_true]; exact BoolOp_one (h2.run _ _ F2 N2 q)))⟩
def ordOf (B : Bool) (N : Nat) : List Int := if B then downKs ((N : Int) - 1) ((N : Int) - 1 - (-1)).toNat else rangeKs 0 ((N : Int) - 0).toNat
def OrdObj (B : Bool) (N : Nat) (ob : Obj) : Prop := ∃ t u v, ob = if B then rangeObj ((N : Int) - 1) (-1) (-1) t u v else rangeObj 0 N 1 t u v
/-- a loop over a name that holds a range, up or down -/
theorem rs_forName {σ : Type} {x y : Str} {px pf py : Pos} {body : List Stmt} {N : Nat} {q : Addr} {ob : Obj} (B : Bool) (Ld : σ → Led) (ps : σ → List (Str × Value)) (Facts : σ → Prop) (stored : List Str) (P : List Int → σ → Prop) (d₀ : σ)
    (H : RW c k n) (a : RV c k m ((q, ob) :: Ld d₀) (.Name y py) (.ref q)) (hb : OrdObj B N ob) (hN : N ≤ 1000000) (hx : (k.env c.L).kindOf x = some .local) (hf : Facts d₀) (hk : ∀ p ∈ ps d₀, m p.1 = some p.2) (hP : P [] d₀)
    (turn : ∀ (d : σ) (pre : List Int) (i : Int) (t : Tok) (u : Fra) (own : Led), 0 ≤ i → i < N → OwnOff own ((Ld d₀).map (·.1)) → Facts d → P pre d →
      let m' : Fra := fun y => if y = x then some (.int i t) else kstB (fun z => if stored.contains z then u z else m z) (ps d) y
      RS c k m' (Ld d ++ own) body (TurnEnd Ld ps Facts P x stored m ((Ld d₀).map (·.1)) own (pre ++ [i]) R))
    (done : ∀ (d : σ) (u : Fra), Facts d → P (ordOf B N) d →
      let m' : Fra := fun y => if y = x then u y else kstB (fun z => if stored.contains z then u z else m z) (ps d) y
      RS c k m' (Ld d) rest R)
    (hs : ∀ v, foldedSetIterable (.Name y py) (k.env c.L) v = pure v) : RS c k m ((q, ob) :: Ld d₀) (.For (.Name x px) (.Name y py) body [] pf :: rest) R :=
  ⟨fun Q s F N₀ q₀ => wpAny_execs_cons (For_invVF F hx (by show (k.scope.kind == .class || (k.scope.kind == .module && _)) = false; rw [H.kind]; rfl)
    (a.run _ _ F N₀ fun h1 tk1 F3 N3 => by
      have hR := (N3 _ (.head _)).1
      have N4 : News c.g c.L h1 (Ld d₀) := fun p hp => N3 p (.tail _ hp)
      obtain ⟨t, u, v, rfl⟩ := hb
      have last : ∀ (d : σ) (own : Led) (pre : List Int) (fl : Flow) (h5 : Heap) (m5 : Fra) (news5 : Led) (tk5 : Nat) (h0 : Heap) (tk0 : Nat), TurnEnd Ld ps Facts P x stored m ((Ld d₀).map (·.1)) own pre R fl m5 news5 → Fr c.g c.L h5 m5 → News c.g c.L h5 news5 → InvPostN c.g c.L (KstS Ld ps Facts x stored m P pre) own ((Ld d₀).map (·.1)) ⟨h0, s.gens, s.drawn, tk0, s.os⟩ (fun fl' s' => match fl' with | .next => wpAny (model PG c.w) c.A (execs rest (k.env c.L)) Q NoE s' | fl' => Q fl' s') fl ⟨h5, s.gens, s.drawn, tk5, s.os⟩ := by
        intro d own pre fl h5 m5 news5 tk5 h0 tk0 hE F5 N5
        cases fl with
        | ret v => exact q₀ _ _ _ _ _ hE F5 N5
        | next =>
          obtain ⟨d5, e1, e2, e3, e4, e5, e6, e7⟩ := hE
          exact kst_end d5 F5 N5 e1 e2 e3 e4 e5 e6 e7
        | brk => exact hE.elim
        | cont => exact hE.elim
      cases B with
      | false =>
        refine kst_range Ld ps Facts stored P d₀ H.hand hR (small_one (by omega) (by omega) (by omega) (by omega)) (rangeSize_nat _ _) F3 N4 hf hk hP ?_ fun d u h tk hfd hpd F4 N4 => (done d u hfd hpd).run _ _ F4 N4 q₀
        intro d pre i t u h tk own hi hl ho hfd hpd F4 N4
        exact (turn d pre i t u own (by omega) (by omega) ho hfd hpd).run _ _ F4 N4 fun fl h5 m5 news5 tk5 hE F5 N5 => last d own _ fl h5 m5 news5 tk5 h tk hE F5 N5
      | true =>
        refine kst_rangeD Ld ps Facts stored P d₀ H.hand hR (small_down (by omega) (by omega) (by omega) (by omega)) (rangeSize_downNat _ _) F3 N4 hf hk hP ?_ fun d u h tk hfd hpd F4 N4 => (done d u hfd hpd).run _ _ F4 N4 q₀
        intro d pre i t u h tk own hi hl ho hfd hpd F4 N4
        exact (turn d pre i t u own (by omega) (by omega) ho hfd hpd).run _ _ F4 N4 fun fl h5 m5 news5 tk5 hE F5 N5 => last d own _ fl h5 m5 news5 tk5 h tk hE F5 N5) hs PassesOwn.never)⟩
theorem ord_up {N : Nat} {ob : Obj} (h : ∃ t u v, ob = rangeObj 0 N 1 t u v) : OrdObj false N ob := h
theorem ord_down {N : Nat} {ob : Obj} (h : ∃ t u v, ob = rangeObj ((N : Int) - 1) (-1) (-1) t u v) : OrdObj true N ob := h
/-- x = range(N); if test: x = range(N - 1, -1, -1) -/
theorem rs_order {B : Bool} {N : Nat} {x : Str} {test e1 e2 e3 : PySem.Expr} {q1 q2 q3 q4 p1 p2 p3 p4 p5 : Pos} (H : RW c k n) (hx : (k.env c.L).kindOf x = some .local) (hg : nsIn (hd.heap_39 c.w.params) mainGlobals "range" = some none) (hr : (k.env c.L).kindOf "range" = some .globalImplicit)
    (hs1 : swapsWith (.Call (.Name "range" q1) [e] [] q2) (some (.Name x p1)) p2.line (k.env c.L) = pure false) (hs2 : swapsWith (.Call (.Name "range" q3) [e1, e2, e3] [] q4) (some (.Name x p3)) p4.line (k.env c.L) = pure false) (hs : (backTo q4 (starEach [e2, e3] (k.env c.L))).any (·.1) = false)
    (a : RI c k m news e (N : Int)) (hp : PlainArg e) (T : ∀ q ob, let m' : Fra := fun y => if y = x then some (.ref q) else m y; RC c k m' ((q, ob) :: news) test (B = true))
    (a1 : ∀ q ob, let m' : Fra := fun y => if y = x then some (.ref q) else m y; RI c k m' ((q, ob) :: news) e1 ((N : Int) - 1)) (a2 : ∀ q ob, let m' : Fra := fun y => if y = x then some (.ref q) else m y; RI c k m' ((q, ob) :: news) e2 (-1)) (a3 : ∀ q ob, let m' : Fra := fun y => if y = x then some (.ref q) else m y; RI c k m' ((q, ob) :: news) e3 (-1)) (hp1 : PlainArg e1) (hp2 : PlainArg e2) (hp3 : PlainArg e3)
    (h : ∀ q ob, OrdObj B N ob → let m' : Fra := fun y => if y = x then some (.ref q) else m y; RS c k m' ((q, ob) :: news) rest R) :
    RS c k m news (.Assign [.Name x p1] (.Call (.Name "range" q1) [e] [] q2) p2 :: .If test [.Assign [.Name x p3] (.Call (.Name "range" q3) [e1, e2, e3] [] q4) p4] [] p5 :: rest) R :=
  rs_new H (rn_range1 H a hp hg hr) hx hs1 fun q ob hP _ => rs_if (T q ob)
    (fun hB => rs_new H (rn_range3 H (a1 q ob) (a2 q ob) (a3 q ob) hp1 hp2 hp3 (by decide) (by decide) hg hr hs) hx hs2 fun q2 ob2 hP2 _ => rs_nil (by
      show RS c k _ _ rest R
      subst hB
      refine rs_weak (news' := (q2, ob2) :: news) (fun p hp => ?_) (rs_fra (funext fun y => ?_) (h q2 ob2 (ord_down hP2)))
      · rcases List.mem_cons.mp hp with rfl | hp
        · exact .head _
        · exact .tail _ (.tail _ hp)
      · by_cases hy : y = x
        · rw [if_pos hy, if_pos hy]
        · rw [if_neg hy, if_neg hy, if_neg hy]))
    (fun hB => rs_nil (by
      show RS c k _ _ rest R
      have hB2 : B = false := by cases B with | true => exact absurd rfl hB | false => rfl
      subst hB2
      exact h q ob (ord_up hP)))
/-- how a turn of a loop ends whose ledger grows -/
def GrowEnd (J : Fra → Led → Prop) (own : Led) (R : Flow → Fra → Led → Prop) : Flow → Fra → Led → Prop := fun fl m' news' => match fl with
  | .ret v => R (.ret v) m' news'
  | .next => ∃ nx, (∀ p ∈ nx, p ∈ news') ∧ (∀ p ∈ own, p ∈ news') ∧ TbOff own nx ∧ J m' nx
  | _ => False
theorem rs_grow {x : Str} {px pf pc pr : Pos} {body : List Stmt} {N : Nat} (J : Nat → Fra → Led → Prop) (H : RW c k n) (a : RI c k m news e (N : Int)) (hN : N ≤ 1000000) (hp : PlainArg e) (hg : nsIn (hd.heap_39 c.w.params) mainGlobals "range" = some none) (hr : (k.env c.L).kindOf "range" = some .globalImplicit) (hx : (k.env c.L).kindOf x = some .local)
    (hs : ∀ v, foldedSetIterable (.Call (.Name "range" pr) [e] [] pc) (k.env c.L) v = pure v) (hj : J 0 m news)
    (turn : ∀ (i : Nat) (t : Tok) (m₁ : Fra) (nx own : Led), i < N → TbOff own nx → J i m₁ nx → let m' : Fra := fun y => if y = x then some (.int (i : Int) t) else m₁ y; RS c k m' (nx ++ own) body (GrowEnd (J (i + 1)) own R))
    (done : ∀ m₁ nx, J N m₁ nx → RS c k m₁ nx rest R) : RS c k m news (.For (.Name x px) (.Call (.Name "range" pr) [e] [] pc) body [] pf :: rest) R :=
  ⟨fun Q s F N₀ q => wpAny_execs_cons (For_invVF F hx (by show (k.scope.kind == .class || (k.scope.kind == .module && _)) = false; rw [H.kind]; rfl)
    (Call_ ((r_builtin (news := news) (pos := pr) H hg PyProof.Rows.boot_range (by decide) hr (by decide)).run _ _ F N₀ fun _ _ F1 N1 => Pv.callWith_type1 ((ra_int a ra_nil hp).run _ _ F1 N1 fun t _ _ F2 N2 => range1_rows F2 N2 fun h' tk t₁ u₁ v₁ hR F3 N3 _ => by
      refine loop_any J H.hand hR (by omega) (by omega) F3 N3 hj ?_ ?_
      · intro i t m₁ nx h tk own hi ho hJ F4 N4
        refine (turn i t m₁ nx own (by omega) ho hJ).run _ _ F4 N4 fun fl h5 m5 news5 tk5 hE F5 N5 => ?_
        cases fl with
        | ret v => exact q _ _ _ _ _ hE F5 N5
        | next =>
          obtain ⟨nx5, e1, e2, e3, e4⟩ := hE
          exact ⟨_, _, _, _, nx5, rfl, F5, N5, e1, e2, e3, e4⟩
        | brk => exact hE.elim
        | cont => exact hE.elim
      · intro m₁ nx h tk hJ F4 N4
        have hz : ((N : Int) - 0).toNat = N := by omega
        rw [hz] at hJ
        exact (done m₁ nx hJ).run _ _ F4 N4 q) (hp _ _) (by rfl)) (by rfl)) hs PassesOwn.never)⟩
end
section
variable {c : RCx} {k : Fn} {m : Fra} {news news' : Led} {e l r o : PySem.Expr} {x y z : Int} {pos : Pos} {n : Nat} {R : Flow → Fra → Led → Prop} {rest ss : List Stmt}
/-- how a turn of a while ends -/
def TurnW {σ : Type} (Ld : σ → Led) (ps : σ → List (Str × Value)) (Facts : σ → Prop) (stored : List Str) (m : Fra) (P : σ → Prop) (μ : σ → Nat) (d : σ) (R : Flow → Fra → Led → Prop) : Flow → Fra → Led → Prop := fun fl m' news' => match fl with
  | .ret v => R (.ret v) m' news'
  | .next => ∃ d' : σ, (∀ p ∈ Ld d', p ∈ news') ∧ Facts d' ∧ (∀ p ∈ ps d', m' p.1 = some p.2) ∧ (∀ z, (∀ p ∈ ps d', z ≠ p.1) → stored.contains z = false → m' z = m z) ∧ P d' ∧ μ d' < μ d
  | _ => False
theorem rs_while {σ : Type} {test : PySem.Expr} {body : List Stmt} {p1 : Pos} (Ld : σ → Led) (ps : σ → List (Str × Value)) (Facts : σ → Prop) (stored : List Str) (P : σ → Prop) (μ : σ → Nat) (d₀ : σ) (hf : Facts d₀) (hk : ∀ p ∈ ps d₀, m p.1 = some p.2) (hP : P d₀) (T : σ → Prop)
    (hT : ∀ (d : σ) (u : Fra), Facts d → P d → let m' : Fra := kstB (fun z => if stored.contains z then u z else m z) (ps d); RC c k m' (Ld d) test (T d))
    (turn : ∀ (d : σ) (u : Fra), Facts d → P d → T d → let m' : Fra := kstB (fun z => if stored.contains z then u z else m z) (ps d); RS c k m' (Ld d) body (TurnW Ld ps Facts stored m P μ d R))
    (done : ∀ (d : σ) (u : Fra), Facts d → P d → ¬ T d → let m' : Fra := kstB (fun z => if stored.contains z then u z else m z) (ps d); RS c k m' (Ld d) rest R) :
    RS c k m (Ld d₀) (.While test body [] p1 :: rest) R :=
  ⟨fun Q s F N q => wpAny_execs_cons (ksw_while Ld ps Facts stored P μ d₀ F N hf hk hP (fun d u h tk hfd hpd F2 N2 => (hT d u hfd hpd).run _ _ F2 N2
    (fun h3 tk3 ht F3 N3 => by
      rw [if_pos rfl]
      refine (turn d u hfd hpd ht).run _ _ F3 N3 fun fl h5 m5 news5 tk5 hE F5 N5 => ?_
      cases fl with
      | ret v => exact q _ _ _ _ _ hE F5 N5
      | next =>
        obtain ⟨d5, e1, e2, e3, e4, e5, e6⟩ := hE
        exact ksw_end d5 F5 N5 e1 e2 e3 e4 e5 e6
      | brk => exact hE.elim
      | cont => exact hE.elim)
    (fun h3 tk3 ht F3 N3 => by rw [if_neg (by decide)]; exact (done d u hfd hpd ht).run _ _ F3 N3 q)) PassesOwn.never)⟩
theorem rs_iand {x : Str} {i j : Int} {t₀ : Tok} {p1 p2 : Pos} (H : RW c k n) (hv : m x = some (.int i t₀)) (a : RI c k m news e j) (hx : (k.env c.L).kindOf x = some .local) (h : ∀ t, let m' : Fra := fun y => if y = x then some (.int (Builtin.bitAnd i j) t) else m y; RS c k m' news rest R) : RS c k m news (.AugAssign (.Name x p1) .BitAnd e p2 :: rest) R := rs_aug Builtin.bitAnd H hv a hx (fun _ _ _ _ q => iand_int q) h
/-- a loop over range(a, b) -/
theorem rs_for2 {σ : Type} {x : Str} {px pf pc pr : Pos} {e2 : PySem.Expr} {body : List Stmt} {A B : Int} {M : Nat} (Ld : σ → Led) (ps : σ → List (Str × Value)) (Facts : σ → Prop) (stored : List Str) (P : List Int → σ → Prop) (d₀ : σ)
    (H : RW c k n) (a : RI c k m (Ld d₀) e A) (b : RI c k m (Ld d₀) e2 B) (hA : 0 ≤ A) (hA2 : A ≤ 1000000) (hB : 0 ≤ B) (hB2 : B ≤ 1000000) (hM : (B - A).toNat = M) (hp : PlainArg e) (hp2 : PlainArg e2) (hg : nsIn (hd.heap_39 c.w.params) mainGlobals "range" = some none) (hr : (k.env c.L).kindOf "range" = some .globalImplicit) (hx : (k.env c.L).kindOf x = some .local) (hf : Facts d₀) (hk : ∀ p ∈ ps d₀, m p.1 = some p.2) (hP : P [] d₀)
    (turn : ∀ (d : σ) (pre : List Int) (i : Int) (t : Tok) (u : Fra) (own : Led), i = A + (pre.length : Int) → pre.length < M → OwnOff own ((Ld d₀).map (·.1)) → Facts d → P pre d →
      let m' : Fra := fun y => if y = x then some (.int i t) else kstB (fun z => if stored.contains z then u z else m z) (ps d) y
      RS c k m' (Ld d ++ own) body (TurnEnd Ld ps Facts P x stored m ((Ld d₀).map (·.1)) own (pre ++ [i]) R))
    (done : ∀ (d : σ) (u : Fra), Facts d → P (rangeKs A M) d →
      let m' : Fra := fun y => if y = x then u y else kstB (fun z => if stored.contains z then u z else m z) (ps d) y
      RS c k m' (Ld d) rest R)
    (hs : ∀ v, foldedSetIterable (.Call (.Name "range" pr) [e, e2] [] pc) (k.env c.L) v = pure v) (hq : (backTo pc (starEach [e2] (k.env c.L))).any (·.1) = false) : RS c k m (Ld d₀) (.For (.Name x px) (.Call (.Name "range" pr) [e, e2] [] pc) body [] pf :: rest) R :=
  ⟨fun Q s F N₀ q => wpAny_execs_cons (For_invVF F hx (by show (k.scope.kind == .class || (k.scope.kind == .module && _)) = false; rw [H.kind]; rfl)
    (Call_ ((r_builtin (news := Ld d₀) (pos := pr) H hg PyProof.Rows.boot_range (by decide) hr (by decide)).run _ _ F N₀ fun _ _ F1 N1 => Pv.callWith_type1 ((ra_int a (ra_int b ra_nil hp2) hp).run _ _ F1 N1 fun t _ _ F2 N2 => range2_rows F2 N2 fun h' tk t₁ u₁ v₁ hR F3 N3 _ => by
      refine kst_range Ld ps Facts stored P d₀ H.hand hR (small_one (by omega) (by omega) (by omega) (by omega)) (by rw [rangeSize_nat, hM]) F3 N3 hf hk hP ?_ ?_
      · intro d pre i t u h tk own hi hl ho hfd hpd F4 N4
        refine (turn d pre i t u own hi hl ho hfd hpd).run _ _ F4 N4 fun fl h5 m5 news5 tk5 hE F5 N5 => ?_
        cases fl with
        | ret v => exact q _ _ _ _ _ hE F5 N5
        | next =>
          obtain ⟨d5, e1, e2, e3, e4, e5, e6, e7⟩ := hE
          exact kst_end d5 F5 N5 e1 e2 e3 e4 e5 e6 e7
        | brk => exact hE.elim
        | cont => exact hE.elim
      · intro d u h tk hfd hpd F4 N4
        exact (done d u hfd hpd).run _ _ F4 N4 q) (hp _ _) hq) (by rfl)) hs PassesOwn.never)⟩
/-- x, y = e, e2 (ints) -/
theorem rs_ints2 {x y : Str} {i j : Int} {e2 : PySem.Expr} {k1 k2 : Nat} {p1 p2 p3 p4 p5 : Pos} (H : RW c k n) (a : RI c k m news e i) (b : RI c k m news e2 j) (hp : PlainArg e) (hp2 : PlainArg e2) (hx : (k.env c.L).kindOf x = some .local) (hy : (k.env c.L).kindOf y = some .local)
    (hs : swapsWithSole [.Tuple [.Name x p1, .Name y p2] k1 p3] (.Tuple [e, e2] k2 p4) p5.line (k.env c.L) = pure false) (hw : swappedStores [.Tuple [.Name x p1, .Name y p2] k1 p3] (.Tuple [e, e2] k2 p4) (k.env c.L) = pure (some [x, y]))
    (h : ∀ t u, let m' : Fra := fun z => if z = x then some (.int i t) else if z = y then some (.int j u) else m z; RS c k m' news rest R) : RS c k m news (.Assign [.Tuple [.Name x p1, .Name y p2] k1 p3] (.Tuple [e, e2] k2 p4) p5 :: rest) R :=
  ⟨fun Q s F N q => wpAny_execs_cons (Assign_Tuple_swapped (names := [x, y]) (Tuple_ ((ra_int a (ra_int b ra_nil hp2) hp).run _ _ F N fun t _ _ F2 N2 => kup_newTuple F2 N2 (fun D h' F3 N3 _ => unpackItemsN_ F3 N3 (News.isTup N3 (.head _)) H.hand rfl fun h4 F4 N4 => by
    have hn : ((k.env c.L).scope.kind == .class || ((k.env c.L).scope.kind == .module && (k.env c.L).locals != (k.env c.L).globals)) = false := by show (k.scope.kind == .class || (k.scope.kind == .module && _)) = false; rw [H.kind]; rfl
    exact assignInOrder_cons (wpAny_bindName (wpAny_storeName_local hy F4.ns (fun h5 hn5 hs5 => assignInOrder_cons (wpAny_bindName (wpAny_storeName_local hx (F4.set hn5 hs5).ns (fun h6 hn6 hs6 => assignInOrder_nil ((h _ _).run _ _ ((F4.set hn5 hs5).set hn6 hs6) (fun p hp => ((N4.set hs5).set hs6) p (.tail _ hp)) q)) hn))) hn))) (by show (2 : Nat) ≤ _; exact of_decide_eq_true (by with_unfolding_all rfl)))) hs hw)⟩
/-- a call that makes a list of ints -/
theorem rn_call {fa : Addr} {f : (Nat → Tok) → List Value} {dk : Nat} {G : Heap → Prop} {ns : List Int} {es : List PySem.Expr} {fn : Str} {fp : Pos} (H : RW c k n) (a : RV c k m news (.Name fn fp) (.ref fa)) (hk : keepIn (hd.heap_39 c.w.params) (.ref fa) = true) (b : RA c k m news pos (e :: es) f) (hp : PlainArg e) (hs : (backTo pos (starEach es (k.env c.L))).any (·.1) = false)
    (S : ∀ t, Says fa dk G (f t) (ListV ns)) (hd : 1 ≤ dk ∧ dk ≤ n) (hG : ∀ h, Fr c.g c.L h m → News c.g c.L h news → G h) : RN c k m news (.Call (.Name fn fp) (e :: es) [] pos) (IsL ns) :=
  ⟨fun Q s F N q => Call_ (a.run _ _ F N fun _ _ F2 N2 => callWith_K H.inn hk (b.run _ _ F2 N2 fun t h _ F3 N3 => ⟨H.inn.keeps F3.keep, H.call (S t) hd _ _ _ F3 (hG _ F3 N3) fun r h' tk st F4 v => by
    obtain ⟨D, vs, j, rfl, h1, h2, h3⟩ := v
    exact q D _ _ _ ⟨vs, j, rfl, h3⟩ (fun p hp e => by have := (N3 p hp).1; rw [e, h1] at this; cases this) F4 (new_on F3 (news_on N3 st) h1 h2)⟩) (hp _ _) hs)⟩
theorem pop0_ {w : World} {A : Around} {E : Value → Shared → Prop} {s : Shared} {h₀ : Heap} {L D : Addr} {m : Str → Option Value} {news news' : List (Addr × Obj)} {e : Int} {t u : Tok} {us : List Value} {n : Nat} {Q : Value → Shared → Prop}
    (F : Fr h₀ L s.heap m) (N : News h₀ L s.heap news) (U : Upd D (listOf (List.toArray (Value.int e t :: us)) n) (listOf us.toArray (n + 1)) news news') (hz : us.length ≤ 100000)
    (h : ∀ h', Fr h₀ L h' m → News h₀ L h' news' → Q (.int e t) { s with heap := h' }) : wpAny (model PG w) A (call (.builtin "list.pop") [.ref D, .int 0 u]) Q E s := by
  refine kl_popAt (k := 0) (p := []) (q := us) (y := .int e t) F N rfl ?_ rfl U ?_ h
  · have hs : (List.toArray (Value.int e t :: us)).size = us.length + 1 := by simp
    rw [hs]
    unfold seqIndex?
    simp
  · simp only [List.length_cons]
    rw [PySem.sizeLine_eq]
    omega
/-- x = D.pop(0) -/
theorem rs_pop0 {D : Addr} {vs : List Value} {j k0 : Nat} {i : Int} {t : Tok} {x : Str} {apos cpos q0 p1 p2 : Pos} {pl : Sem Bool} (H : RW c k n) (a : RV c k m news o (.ref D)) (hl : (D, listOf (List.toArray (.int i t :: vs)) j) ∈ news)
    (he : eval (.Call (.Attribute o "pop" apos) [.Constant (.int 0) k0 q0] [] cpos) (k.env c.L) = (do
      let ov ← eval o (k.env c.L)
      standAt apos.atName
      let (f, first) ← holding [ov] (getMethod ov "pop" pl)
      callWith cpos f first (backTo cpos (starEach [.Constant (.int 0) k0 q0] (k.env c.L))) []))
    (hx : (k.env c.L).kindOf x = some .local) (hw : swapsWith (.Call (.Attribute o "pop" apos) [.Constant (.int 0) k0 q0] [] cpos) (some (.Name x p1)) p2.line (k.env c.L) = pure false) (hsz : vs.length ≤ 1000)
    (U : Upd D (listOf (List.toArray (.int i t :: vs)) j) (listOf vs.toArray (j + 1)) news news') (h : let m' : Fra := fun y => if y = x then some (.int i t) else m y; RS c k m' news' rest R) : RS c k m news (.Assign [.Name x p1] (.Call (.Attribute o "pop" apos) [.Constant (.int 0) k0 q0] [] cpos) p2 :: rest) R :=
  ⟨fun Q s F N q => wpAny_execs_cons (wpAny_Assign_Name (MethodCall_ (a.run _ _ F N fun _ _ F2 N2 => kl_method N2 hl PySem.F.slot_list_pop PySem.F.type_list_pop (callWith_method1 ((ra_int (pos := cpos) (r_const (c := c) (k := k) (m := m) (news := news) (i := 0)) ra_nil pa_const).run _ _ F2 N2 fun u _ _ F3 N3 =>
    pop0_ F3 N3 U (by omega) fun h' F4 N4 => rs_store H hx h F4 N4 q) rfl rfl)) he) hw)⟩
/-- D != [] -/
theorem rc_ne_nil {D : Addr} {vs : List Value} {ns : List Int} {j : Nat} {p : Pos} (H : RW c k n) (hn : 8 ≤ n) (a : RV c k m news l (.ref D)) (hl : (D, listOf vs.toArray j) ∈ news) (hi : IntsAre vs ns) : RC c k m news (.Compare l [.NotEq] [.List [] p] pos) (ns ≠ []) :=
  ⟨fun Q s F N q1 q2 => wpAny_isTrue_Compare1 (a.run _ _ F N fun _ _ F2 N2 => List_ (args_nil (newList_K F2 N2 (fun D2 h' F3 N3 _ => ne_intsK ⟨_, (N3 _ (.tail _ hl)).1, rfl, _, rfl⟩ hi ⟨_, (N3 _ (.head _)).1, rfl, _, rfl⟩ .nil (by have := H.units; omega) (wpAny_truthy_bool (by
    have N4 : News c.g c.L h' news := fun p hp => N3 p (.tail _ hp)
    by_cases hz : ns = []
    · rw [decide_eq_true hz]; exact q2 _ _ (fun h => h hz) F3 N4
    · rw [decide_eq_false hz]; exact q1 _ _ hz F3 N4))) (Nat.zero_le _)))) rfl⟩
end
/-- the entry into an __init__ -/
theorem inits_rel {w : World} {name qual : Str} {params : Arguments} {body : List Stmt} {scope : Scope} {dV kV doc pm cdv ct oc : Value} {an od : Option Addr} {osl : Array (Option Value)} {C fI : Addr} {vs : List Value} {W : Led → Value → Led → Prop}
    (hm : makesIn (hd.heap_39 w.params) C = true) (hi : findIn (hd.heap_39 w.params) (.ref C) "__init__" = some (some (.ref fI))) (hf : isFn (hd.heap_39 w.params) (.ref fI) = true)
    (ho : (hd.heap_39 w.params).lookup fI = some ⟨oc, od, .func (fnOf name qual params body scope dV kV doc pm an cdv ct), osl⟩) (hcd : codeIn (hd.heap_39 w.params) cdv qual = true)
    (hbind : ∀ x s, BindsTo s (fnOf name qual params body scope dV kV doc pm an cdv ct) ⟨.ref x :: vs, []⟩ ((params.args.map (·.arg)).zip (.ref x :: vs))) (hloc : ∀ x, ∀ y ∈ (params.args.map (·.arg)).zip (.ref x :: vs), scope.names.lookup y.1 = some .local)
    (hco : scope.isCoroutine = false) (hgen : scope.isGenerator = false) (hkf : scope.kind = .function) (hcell : ∀ x ∈ scope.names, x.2 ≠ .cell)
    (h : ∀ (A : Around) (g : Heap) (L : Addr) (rest : Led) (x dx : Addr), let c : RCx := ⟨w, A, g, L⟩; RW c ⟨qual, scope, fI, cdv⟩ 0 → @Ne Nat x dx → (∀ p ∈ rest, p.1 ≠ dx) → RS c ⟨qual, scope, fI, cdv⟩ (fun y => ((params.args.map (·.arg)).zip (.ref x :: vs)).reverse.lookup y) ((x, instObj C dx) :: (dx, dictOf [] 0) :: rest) body (fun fl _ news' => (match fl with | .ret v => v | _ => .none) = .none ∧ W rest (.ref x) news')) : DoesW w C 3 [] [] vs W := by
  intro p loose mean mg mb dp un gd cn cs a ccd cl outer A₀ base h₀ L m rest s Q E B F X N hoff hro T hk hdd huu hret
  refine call_cls (K := hd.heap_39 w.params) F X N hm hi hf fun x dx h1 F1 N1 l1 l2 => ?_
  have B1 : Below A₀ base outer h₀ := B
  refine code_def (env := envX cn cs L a ccd cl) (A := (ktrTop dp un gd cn cs L a ccd cl outer).under (.builtin "type.__call__" ⟨.ref C :: vs, []⟩)) (base := base) (outer := outer) B1 F1 X N1 T rfl rfl hk ho hcd (by show dp + _ < _; have : (Code.builtin "type.__call__" ⟨.ref C :: vs, []⟩).weight ≤ 2 := (Nat.le_of_ble_eq_true (by with_unfolding_all rfl)); omega) (hbind x _) (hloc x) (fun g L' h₁ FG F' N' B' X' T' => ?_) hco hgen hkf hcell
  refine wpAny_mono ((h _ g L' rest x dx ⟨hkf, rfl, X', ⟨_, _, _, _, _, T'⟩, ?_, fun _ h => absurd (Nat.le_trans h.1 h.2) (by decide), fun _ h => absurd (Nat.le_trans h.1 h.2) (by decide)⟩ (Nat.ne_of_gt l2) (fun p hp => Nat.ne_of_lt (l1 p hp))).run (EndN (fun v news' => v = .none ∧ W rest (.ref x) news') g L' _) _ F' N' fun fl h m' news' tk hR F N => ⟨h, tk, m', news', rfl, F, N, hR⟩)
    (fun fl s' hl => by
      obtain ⟨h', tk', m', news', rfl, F2, N2, hw⟩ := hl
      exact leaveK_ F2 N2 fun kF kN => ⟨hw.1, hret _ _ _ _ hw.2 kF kN⟩) fun _ _ y => y.elim
  show un + _ + 3 + 8 * 0 < cLine
  have : (Code.builtin "type.__call__" ⟨.ref C :: vs, []⟩).cUnits ≤ 8 := Nat.le_of_ble_eq_true (by with_unfolding_all rfl)
  omega
/-- what the names of an object stand for -/
structure AttrsAre (es : List DictEntry) (l : List (Str × Value)) : Prop where
  len : es.length ≤ l.length
  got : ∀ p ∈ l, getL p.1 es = some (some p.2)
  miss : ∀ name : Str, (l.all fun p => !(p.1 == name)) = true → getL name es = some none
theorem attrs_nil : AttrsAre [] [] := ⟨Nat.le_refl _, List.forall_mem_nil _, fun _ _ => rfl⟩
theorem any_put {name : Str} {hsh : Int} {tk : Tok} {v : Value} : ∀ es : List DictEntry, (putL name hsh (.str name tk) v es).any (·.refKey) = es.any (·.refKey)
  | [] => by
    show List.any [_] _ = _
    rfl
  | e :: r => by
    unfold putL
    split
    · rfl
    · simp only [List.any_cons]
      rw [any_put r]
theorem getL_put_none {name name' : Str} {hsh : Int} {tk : Tok} {v : Value} {es : List DictEntry} (hne : ∀ k : Value, k.isStr name = true → k.isStr name' = false) (h : getL name' es = some none) : getL name' (putL name hsh (.str name tk) v es) = some none := by
  unfold getL at h ⊢
  rw [find_put hne (str_self name tk), any_put]
  exact h
theorem AttrsAre.put {es : List DictEntry} {l : List (Str × Value)} {name : Str} {v : Value} (h : AttrsAre es l) (hn : (l.all fun p => !(p.1 == name)) = true) (hsh : Int) (tk : Tok) : AttrsAre (putL name hsh (.str name tk) v es) ((name, v) :: l) := by
  refine ⟨Nat.le_trans (putL_len es) (Nat.succ_le_succ h.len), ?_, ?_⟩
  · intro p hp
    rcases List.mem_cons.mp hp with rfl | hp
    · exact getL_put_same es
    · have h2 := List.all_eq_true.mp hn p hp
      refine getL_put_other (str_apart ?_) (h.got p hp)
      cases hb : (name == p.1) with
      | false => rfl
      | true => rw [eq_of_beq hb] at h2; simp at h2
  · intro name' hn'
    rw [List.all_cons, Bool.and_eq_true] at hn'
    refine getL_put_none (str_apart ?_) (h.miss name' hn'.2)
    have h3 := hn'.1
    cases hb : (name == name') with
    | false => rfl
    | true => rw [hb] at h3; cases h3
theorem AttrsAre.some {es : List DictEntry} {l : List (Str × Value)} {name : Str} (h : AttrsAre es l) (hn : (l.all fun p => !(p.1 == name)) = true) : (getL name es).isSome = true := by rw [h.miss name hn]; rfl
def SetOk (K : Frag) (name : Str) : Prop := findIn K (.ref 53) "__setattr__" = some (some (.builtin "object.__setattr__")) ∧ plainOver K 53 = true ∧ takerIn K 53 name = some none ∧ hasDictIn K 53 = true
theorem setOk_intro {K : Frag} {name : Str} (h1 : findIn K (.ref 53) "__setattr__" = some (some (.builtin "object.__setattr__"))) (h2 : plainOver K 53 = true) (h3 : takerIn K 53 name = some none) (h4 : hasDictIn K 53 = true) : SetOk K name := ⟨h1, h2, h3, h4⟩
def inits : List Str := ["files", "ranks", "size", "full", "has_double", "has_castling", "file_masks", "rank_masks", "rays", "king", "knight", "pawn", "castles", "rights_lost"]
set_option maxHeartbeats 4000000 in
theorem set_ok (w : World) : PySem.Challenge.rw_tg0013_01.foot = 6 → ∀ name ∈ inits, SetOk (hd.heap_39 w.params) name := by
  unfold SetOk
  k_fill
  intro _ name hm
  simp only [inits, List.mem_cons, List.not_mem_nil, or_false] at hm
  rcases hm with rfl | rfl | rfl | rfl | rfl | rfl | rfl | rfl | rfl | rfl | rfl | rfl | rfl | rfl
  all_goals (refine' setOk_intro ?k5 ?k6 ?k7 ?k8; (case k5 => k_is); (case k6 => k_is); (case k7 => k_is); (case k8 => k_is))
section
variable {c : RCx} {k : Fn} {m : Fra} {news news' : Led} {e l r o : PySem.Expr} {x y z : Int} {pos : Pos} {n : Nat} {R : Flow → Fra → Led → Prop} {rest ss : List Stmt}
/-- the ways to hold a value -/
theorem rs_init {name : Str} {a0 dx : Addr} {es : List DictEntry} {l : List (Str × Value)} {j : Nat} {p1 p2 : Pos} {u : Tok → Value} {news' : List DictEntry → Nat → Led} (H : RW c k n)
    (a : ∀ (Q : Value → Shared → Prop) (s : Shared), Fr c.g c.L s.heap m → News c.g c.L s.heap news → (∀ t h tk, Fr c.g c.L h m → News c.g c.L h news → Q (u t) ⟨h, s.gens, s.drawn, tk, s.os⟩) → wpAny (model PG c.w) c.A (eval e (k.env c.L)) Q NoE s)
    (b : RV c k m news o (.ref a0)) (h1 : (a0, instObj 53 dx) ∈ news) (h2 : (dx, dictOf es j) ∈ news) (hes : AttrsAre es l) (hn : (l.all fun p => !(p.1 == name)) = true) (hl : Nat.ble l.length 100 = true) (hi : name ∈ inits) (hs : swapsWith e (some (.Attribute o name p1)) p2.line (k.env c.L) = pure false)
    (U : ∀ es' j', Upd dx (dictOf es j) (dictOf es' j') news (news' es' j')) (h : ∀ es' j' t, AttrsAre es' ((name, u t) :: l) → RS c k m (news' es' j') rest R) : RS c k m news (.Assign [.Attribute o name p1] e p2 :: rest) R :=
  ⟨fun Q s F N q => wpAny_execs_cons (plainObj_wpAny_Assign_Attribute (a _ _ F N fun t _ _ F2 N2 => b.run _ _ F2 N2 fun _ _ F3 N3 => by
    obtain ⟨g1, g2, g3, g4⟩ := set_ok c.w rfl name hi
    have hl2 := Nat.le_of_ble_eq_true hl
    exact geo_setN F3 H.inn N3 h1 h2 g1 g2 g3 g4 (hes.some hn) (Nat.le_trans hes.len (by omega)) (U _ _) fun h' F4 N4 => (h _ _ t (hes.put hn _ _)).run _ _ F4 N4 q) hs)⟩
theorem rs_initV {name : Str} {a0 dx : Addr} {es : List DictEntry} {l : List (Str × Value)} {j : Nat} {p1 p2 : Pos} {u : Value} {news' : List DictEntry → Nat → Led} (H : RW c k n) (a : RV c k m news e u)
    (b : RV c k m news o (.ref a0)) (h1 : (a0, instObj 53 dx) ∈ news) (h2 : (dx, dictOf es j) ∈ news) (hes : AttrsAre es l) (hn : (l.all fun p => !(p.1 == name)) = true) (hl : Nat.ble l.length 100 = true) (hi : name ∈ inits) (hs : swapsWith e (some (.Attribute o name p1)) p2.line (k.env c.L) = pure false)
    (U : ∀ es' j', Upd dx (dictOf es j) (dictOf es' j') news (news' es' j')) (h : ∀ es' j', AttrsAre es' ((name, u) :: l) → RS c k m (news' es' j') rest R) : RS c k m news (.Assign [.Attribute o name p1] e p2 :: rest) R :=
  rs_init (u := fun _ => u) H (fun Q s F N q => a.run Q s F N (q (0 : Nat))) b h1 h2 hes hn hl hi hs U fun es' j' _ => h es' j'
theorem rs_initI {name : Str} {a0 dx : Addr} {es : List DictEntry} {l : List (Str × Value)} {j : Nat} {p1 p2 : Pos} {news' : List DictEntry → Nat → Led} (H : RW c k n) (a : RI c k m news e z)
    (b : RV c k m news o (.ref a0)) (h1 : (a0, instObj 53 dx) ∈ news) (h2 : (dx, dictOf es j) ∈ news) (hes : AttrsAre es l) (hn : (l.all fun p => !(p.1 == name)) = true) (hl : Nat.ble l.length 100 = true) (hi : name ∈ inits) (hs : swapsWith e (some (.Attribute o name p1)) p2.line (k.env c.L) = pure false)
    (U : ∀ es' j', Upd dx (dictOf es j) (dictOf es' j') news (news' es' j')) (h : ∀ es' j' t, AttrsAre es' ((name, .int z t) :: l) → RS c k m (news' es' j') rest R) : RS c k m news (.Assign [.Attribute o name p1] e p2 :: rest) R :=
  rs_init (u := fun t => .int z t) H a.run b h1 h2 hes hn hl hi hs U h
theorem rs_initN {name : Str} {a0 dx : Addr} {es : List DictEntry} {l : List (Str × Value)} {j : Nat} {p1 p2 p3 : Pos} {news' : Addr → List DictEntry → Nat → Led} (H : RW c k n)
    (b : ∀ a ob, RV c k m ((a, ob) :: news) o (.ref a0)) (h1 : (a0, instObj 53 dx) ∈ news) (h2 : (dx, dictOf es j) ∈ news) (hes : AttrsAre es l) (hn : (l.all fun p => !(p.1 == name)) = true) (hl : Nat.ble l.length 100 = true) (hi : name ∈ inits) (hs : swapsWith (.List [] p3) (some (.Attribute o name p1)) p2.line (k.env c.L) = pure false)
    (h : ∀ a, (∀ p ∈ news, p.1 ≠ a) → (∀ es' j', Upd dx (dictOf es j) (dictOf es' j') ((a, listOf (List.toArray []) 0) :: news) (news' a es' j')) ∧ ∀ es' j', AttrsAre es' ((name, .ref a) :: l) → RS c k m (news' a es' j') rest R) : RS c k m news (.Assign [.Attribute o name p1] (.List [] p3) p2 :: rest) R :=
  ⟨fun Q s F N q => wpAny_execs_cons (plainObj_wpAny_Assign_Attribute (List_ (args_nil (newList_K F N (fun a h' F2 N2 lt => (b _ _).run _ _ F2 N2 fun _ _ F3 N3 => by
    obtain ⟨g1, g2, g3, g4⟩ := set_ok c.w rfl name hi
    have hl2 := Nat.le_of_ble_eq_true hl
    obtain ⟨U, h⟩ := h a (fresh_lt lt)
    exact geo_setN F3 H.inn N3 (.tail _ h1) (.tail _ h2) g1 g2 g3 g4 (hes.some hn) (Nat.le_trans hes.len (by omega)) (U _ _) fun h' F4 N4 => (h _ _ (hes.put hn _ _)).run _ _ F4 N4 q) (Nat.zero_le _)))) hs)⟩
theorem rs_initNN {name : Str} {a0 dx : Addr} {es : List DictEntry} {l : List (Str × Value)} {j : Nat} {p1 p2 p3 p4 p5 : Pos} {news' : Addr → Addr → Addr → List DictEntry → Nat → Led} (H : RW c k n)
    (b : ∀ q1 q2 q3, RV c k m (q1 :: q2 :: q3 :: news) o (.ref a0)) (h1 : (a0, instObj 53 dx) ∈ news) (h2 : (dx, dictOf es j) ∈ news) (hes : AttrsAre es l) (hn : (l.all fun p => !(p.1 == name)) = true) (hl : Nat.ble l.length 100 = true) (hi : name ∈ inits) (hs : swapsWith (.List [.List [] p3, .List [] p4] p5) (some (.Attribute o name p1)) p2.line (k.env c.L) = pure false)
    (h : ∀ a a2 a3, (∀ p ∈ news, p.1 ≠ a) → (∀ p ∈ (a, listOf (List.toArray []) 0) :: news, p.1 ≠ a2) → (∀ p ∈ (a2, listOf (List.toArray []) 0) :: (a, listOf (List.toArray []) 0) :: news, p.1 ≠ a3) → (∀ es' j', Upd dx (dictOf es j) (dictOf es' j') ((a3, listOf (List.toArray [.ref a, .ref a2]) 0) :: (a2, listOf (List.toArray []) 0) :: (a, listOf (List.toArray []) 0) :: news) (news' a a2 a3 es' j')) ∧ ∀ es' j', AttrsAre es' ((name, .ref a3) :: l) → RS c k m (news' a a2 a3 es' j') rest R) : RS c k m news (.Assign [.Attribute o name p1] (.List [.List [] p3, .List [] p4] p5) p2 :: rest) R :=
  ⟨fun Q s F N q => wpAny_execs_cons (plainObj_wpAny_Assign_Attribute (List_ (args_cons (List_ (args_nil (newList_K F N (fun a _ F2 N2 lt => args_cons (List_ (args_nil (newList_K F2 N2 (fun a2 _ F3 N3 lt2 => args_nil (newList_K F3 N3 (fun a3 _ F4 N4 lt3 => (b _ _ _).run _ _ F4 N4 fun _ _ F5 N5 => by
    obtain ⟨g1, g2, g3, g4⟩ := set_ok c.w rfl name hi
    have hl2 := Nat.le_of_ble_eq_true hl
    obtain ⟨U, h⟩ := h a a2 a3 (fresh_lt lt) (fresh_lt lt2) (fresh_lt lt3)
    exact geo_setN F5 H.inn N5 (.tail _ (.tail _ (.tail _ h1))) (.tail _ (.tail _ (.tail _ h2))) g1 g2 g3 g4 (hes.some hn) (Nat.le_trans hes.len (by omega)) (U _ _) fun h' F4 N4 => (h _ _ (hes.put hn _ _)).run _ _ F4 N4 q) (by show (2 : Nat) ≤ _; exact of_decide_eq_true (by with_unfolding_all rfl)))) (Nat.zero_le _)))) rfl) (Nat.zero_le _)))) rfl)) hs)⟩
theorem rv_and_no (h1 : RV c k m news l (.bool false)) : RV c k m news (.BoolOp .And [l, r] pos) (.bool false) :=
  ⟨fun Q s F N q => BoolOp_and (h1.run _ _ F N fun _ _ F2 N2 => wpAny_truthy_bool (by rw [if_neg Bool.false_ne_true]; exact q _ _ F2 N2))⟩
theorem or_no {es : List PySem.Expr} {P : Prop} {whole : Sem Value} {Q : Bool → Shared → Prop} {s : Shared} (a : RC c k m news e P) (hn : ¬ P) (F : Fr c.g c.L s.heap m) (N : News c.g c.L s.heap news)
    (q : ∀ h tk, Fr c.g c.L h m → News c.g c.L h news → wpAny (model PG c.w) c.A (isTrue (.BoolOp .Or es pos) (k.env c.L) whole) Q NoE ⟨h, s.gens, s.drawn, tk, s.os⟩) : wpAny (model PG c.w) c.A (isTrue (.BoolOp .Or (e :: es) pos) (k.env c.L) whole) Q NoE s :=
  isTrue_or (a.run _ _ F N (fun _ _ hp _ _ => (hn hp).elim) (fun h tk _ F2 N2 => by rw [if_neg (by decide)]; exact q h tk F2 N2))
theorem rc_or4 {e1 e2 e3 e4 : PySem.Expr} {P1 P2 P3 P4 : Prop} (a1 : RC c k m news e1 P1) (n1 : ¬ P1) (a2 : RC c k m news e2 P2) (n2 : ¬ P2) (a3 : RC c k m news e3 P3) (n3 : ¬ P3) (a4 : RC c k m news e4 P4) (n4 : ¬ P4) : RC c k m news (.BoolOp .Or [e1, e2, e3, e4] pos) False :=
  ⟨fun Q s F N _ q2 => or_no a1 n1 F N fun _ _ F2 N2 => or_no a2 n2 F2 N2 fun _ _ F3 N3 => or_no a3 n3 F3 N3 fun _ _ F4 N4 => or_no a4 n4 F4 N4 fun _ _ F5 N5 => isTrue_or_nil (q2 _ _ id F5 N5)⟩
theorem r_does {fa : Addr} {f : (Nat → Tok) → List Value} {dk : Nat} {led ro rest0 : Led} {W : Led → Value → Led → Prop} {es : List PySem.Expr} {fn : Str} {fp : Pos} (H : RW c k n) (a : RV c k m news (.Name fn fp) (.ref fa)) (hk : keepIn (hd.heap_39 c.w.params) (.ref fa) = true) (b : RA c k m news pos (e :: es) f) (hp : PlainArg e) (hs : (backTo pos (starEach es (k.env c.L))).any (·.1) = false)
    (S : ∀ t, DoesR fa dk led ro (f t) W) (hd : 1 ≤ dk ∧ dk ≤ n) (hl : ∀ p ∈ led ++ rest0, p ∈ news) (ho : OwnOff rest0 (led.map (·.1))) (hro : ∀ p ∈ ro, p ∈ rest0) {Q : Value → Shared → Prop} {s : Shared} (F : Fr c.g c.L s.heap m) (N : News c.g c.L s.heap news) (q : ∀ r h tk news', W rest0 r news' → Fr c.g c.L h m → News c.g c.L h news' → Q r ⟨h, s.gens, s.drawn, tk, s.os⟩) : wpAny (model PG c.w) c.A (eval (.Call (.Name fn fp) (e :: es) [] pos) (k.env c.L)) Q NoE s :=
  Call_ (a.run _ _ F N fun _ _ F2 N2 => callWith_K H.inn hk (b.run _ _ F2 N2 fun t h _ F3 N3 => ⟨H.inn.keeps F3.keep, H.does (S t) hd _ _ _ rest0 F3 (fun p hp => N3 p (hl p hp)) ho hro fun r news' h' tk v F4 N4 => q r h' tk news' v F4 N4⟩) (hp _ _) hs)
/-- f(..), a call that changes things -/
theorem rs_does {fa : Addr} {f : (Nat → Tok) → List Value} {dk : Nat} {led ro rest0 : Led} {W : Led → Value → Led → Prop} {es : List PySem.Expr} {fn : Str} {fp p2 : Pos} (H : RW c k n) (a : RV c k m news (.Name fn fp) (.ref fa)) (hk : keepIn (hd.heap_39 c.w.params) (.ref fa) = true) (b : RA c k m news pos (e :: es) f) (hp : PlainArg e) (hs : (backTo pos (starEach es (k.env c.L))).any (·.1) = false)
    (S : ∀ t, DoesR fa dk led ro (f t) W) (hd : 1 ≤ dk ∧ dk ≤ n) (hl : ∀ p ∈ led ++ rest0, p ∈ news) (ho : OwnOff rest0 (led.map (·.1))) (hro : ∀ p ∈ ro, p ∈ rest0) (hi : interactive (k.env c.L) = false) (hw : swapsWith (.Call (.Name fn fp) (e :: es) [] pos) none p2.line (k.env c.L) = pure false)
    (h : ∀ r news', W rest0 r news' → RS c k m news' rest R) : RS c k m news (.Expr (.Call (.Name fn fp) (e :: es) [] pos) p2 :: rest) R :=
  ⟨fun Q s F N q => wpAny_execs_cons (wpAny_Expr_any (r_does H a hk b hp hs S hd hl ho hro F N fun r h' tk news' hW F2 N2 => (h r news' hW).run _ _ F2 N2 q) hi hw)⟩
/-- x = f(..), a call that changes things -/
theorem rs_doesSet {x : Str} {fa : Addr} {f : (Nat → Tok) → List Value} {dk : Nat} {led ro rest0 : Led} {W : Led → Value → Led → Prop} {es : List PySem.Expr} {fn : Str} {fp p1 p2 : Pos} (H : RW c k n) (a : RV c k m news (.Name fn fp) (.ref fa)) (hk : keepIn (hd.heap_39 c.w.params) (.ref fa) = true) (b : RA c k m news pos (e :: es) f) (hp : PlainArg e) (hs : (backTo pos (starEach es (k.env c.L))).any (·.1) = false)
    (S : ∀ t, DoesR fa dk led ro (f t) W) (hd : 1 ≤ dk ∧ dk ≤ n) (hl : ∀ p ∈ led ++ rest0, p ∈ news) (ho : OwnOff rest0 (led.map (·.1))) (hro : ∀ p ∈ ro, p ∈ rest0) (hx : (k.env c.L).kindOf x = some .local) (hw : swapsWith (.Call (.Name fn fp) (e :: es) [] pos) (some (.Name x p1)) p2.line (k.env c.L) = pure false)
    (h : ∀ r news', W rest0 r news' → let m' : Fra := fun y => if y = x then some r else m y; RS c k m' news' rest R) : RS c k m news (.Assign [.Name x p1] (.Call (.Name fn fp) (e :: es) [] pos) p2 :: rest) R :=
  ⟨fun Q s F N q => wpAny_execs_cons (wpAny_Assign_Name (r_does H a hk b hp hs S hd hl ho hro F N fun r h' tk news' hW F2 N2 => rs_store H hx (h r news' hW) F2 N2 q) hw)⟩
end
section
variable {c : RCx} {k : Fn} {m : Fra} {news news' : Led} {e l r o : PySem.Expr} {x y z : Int} {pos : Pos} {n : Nat} {R : Flow → Fra → Led → Prop} {rest ss : List Stmt}
/-- all of es hold -/
def RCL (c : RCx) (k : Fn) (m : Fra) (news : Led) (pos : Pos) (es : List PySem.Expr) (P : Prop) : Prop := ∀ (whole : Sem Value) (Q : Bool → Shared → Prop) (s : Shared), Fr c.g c.L s.heap m → News c.g c.L s.heap news → (∀ h tk, P → Fr c.g c.L h m → News c.g c.L h news → Q true ⟨h, s.gens, s.drawn, tk, s.os⟩) → (∀ h tk, ¬ P → Fr c.g c.L h m → News c.g c.L h news → Q false ⟨h, s.gens, s.drawn, tk, s.os⟩) → wpAny (model PG c.w) c.A (isTrue (.BoolOp .And es pos) (k.env c.L) whole) Q NoE s
theorem rcl_nil : RCL c k m news pos [] True := fun _ _ _ F N q1 _ => isTrue_and_nil (q1 _ _ trivial F N)
theorem rcl_cons {P P2 : Prop} {es : List PySem.Expr} (a : RC c k m news e P) (b : P → RCL c k m news pos es P2) : RCL c k m news pos (e :: es) (P ∧ P2) :=
  fun whole Q s F N q1 q2 => isTrue_and (a.run _ _ F N
    (fun _ _ hp F2 N2 => by
      rw [if_pos rfl]
      exact b hp whole _ _ F2 N2 (fun _ _ hp2 F3 N3 => q1 _ _ ⟨hp, hp2⟩ F3 N3) (fun _ _ hp2 F3 N3 => q2 _ _ (fun h => hp2 h.2) F3 N3))
    (fun _ _ hp F2 N2 => by rw [if_neg (by decide)]; exact q2 _ _ (fun h => hp h.1) F2 N2))
theorem rc_all {P : Prop} {es : List PySem.Expr} (a : RCL c k m news pos es P) : RC c k m news (.BoolOp .And es pos) P := ⟨fun Q s F N q1 q2 => a _ Q s F N q1 q2⟩
end
theorem ne_of_beq {a b : Int} (h : ¬ (a == b) = true) : a ≠ b := fun e => h (beq_iff_eq.mpr e)
theorem rel_words : True := by
  k_with_none
  k_with "evat" => first | with_reducible exact at_files | with_reducible exact at_ranks | with_reducible exact at_size | with_reducible exact at_full | with_reducible exact at_rays | with_reducible exact at_king | with_reducible exact at_knight | with_reducible exact at_pawn | with_reducible exact at_file_masks | with_reducible exact at_rank_masks | with_reducible exact at_castles | with_reducible exact at_rights_lost | with_reducible exact at_has_castling
  k_with "evnth" => first | exact rfl | exact nth_ref (by omega)
  k_with "rv" => first | (apply r_name; assumption; exact rfl; exact rfl; exact rfl) | (apply r_glob; assumption; k_is; exact rfl; exact rfl) | (apply r_attrG; assumption; k_extra "rv"; assumption; assumption; k_extra "evat"; assumption; exact rfl) | (apply r_attrN; assumption; k_extra "rv"; k_mem; k_mem; k_extra "evat"; assumption; exact rfl) | (apply r_topItem; assumption; k_extra "rv"; k_extra "r"; k_is; decide; decide; exact rfl; exact rfl; (first | exact pi_name | exact pi_const | exact pi_bin)) | (apply r_itemVG; k_extra "rv"; k_extra "r"; assumption; (first | assumption | omega); (first | assumption | omega); k_extra "evnth"; (first | exact pi_name | exact pi_const | exact pi_bin)) | (apply r_itemVN; k_extra "rv"; k_extra "r"; k_mem; (first | assumption | omega); (first | assumption | omega); k_extra "evnth"; (first | exact pi_name | exact pi_const | exact pi_bin))
  k_with "r" => first | exact r_const | (apply r_of; k_extra "rv"; exact rfl) | (apply r_add; k_extra "r"; k_extra "r") | (apply r_sub; k_extra "r"; k_extra "r") | (apply r_and; k_extra "r"; k_extra "r") | (apply r_or; k_extra "r"; k_extra "r") | (apply r_shr; k_extra "r"; k_extra "r"; (first | assumption | omega)) | (apply r_shl; k_extra "r"; k_extra "r"; (first | assumption | omega); (first | assumption | omega); (first | assumption | omega)) | (apply r_mul; k_extra "r"; k_extra "r"; (first | assumption | omega); (first | assumption | omega)) | (apply r_mod; k_extra "r"; k_extra "r"; (first | assumption | omega)) | (apply r_div; k_extra "r"; k_extra "r"; (first | assumption | omega); (first | assumption | omega)) | (apply r_inv; k_extra "r") | (apply r_itemG; k_extra "rv"; k_extra "r"; assumption; assumption; (first | assumption | omega); (first | assumption | omega); (first | assumption | omega); (first | exact pi_name | exact pi_const | exact pi_bin)) | (apply r_itemN; k_extra "rv"; k_extra "r"; k_mem; assumption; (first | assumption | omega); (first | assumption | omega); (first | assumption | omega); (first | exact pi_name | exact pi_const | exact pi_bin))
  k_with "rc" => first | (apply rc_eq; k_extra "r"; k_extra "r"; exact rfl) | (apply rc_ne; k_extra "r"; k_extra "r"; exact rfl) | (apply rc_lt; k_extra "r"; k_extra "r"; exact rfl) | (apply rc_gt; k_extra "r"; k_extra "r"; exact rfl) | (apply rc_ge; k_extra "r"; k_extra "r"; exact rfl)
  k_with "rs" => first | (apply rs_set; assumption; k_extra "r"; exact rfl; exact rfl; intro _ _) | (apply rs_setV; assumption; k_extra "rv"; exact rfl; exact rfl; intro _) | (apply rs_ior; assumption; exact rfl; k_extra "r"; exact rfl; intro _ _) | (apply rs_iadd; assumption; exact rfl; k_extra "r"; exact rfl; intro _ _) | (apply rs_ifior_gt; assumption; exact rfl; k_extra "r"; k_extra "r"; exact rfl; (intro _; k_extra "r"); exact rfl; intro _ _) | (apply rs_ifior_lt; assumption; exact rfl; k_extra "r"; k_extra "r"; exact rfl; (intro _; k_extra "r"); exact rfl; intro _ _) | (apply rs_if; k_extra "rc"; all_goals intro _) | (apply rs_ret; k_extra "r"; intro _) | (apply rs_retV; k_extra "rv") | (apply rs_nil; (try (show RS _ _ _ _ _ _)))
  exact True.intro
def growB (d : Int) : Bool := [true, true, false, false, true, false, false, true].getD d.toNat false
def stepF (d : Int) : Int := [(0 : Int), 1, 0, -1, 1, 1, -1, -1].getD d.toNat 0
def stepR (d : Int) : Int := [(1 : Int), 0, -1, 0, 1, -1, -1, 1].getD d.toNat 0
def innerOf (fm rm : List Int) (full f r d : Int) : Int :=
  let e1 := if 0 < stepF d then Builtin.bitOr 0 (fm.getD (f - 1).toNat 0) else 0
  let e2 := if stepF d < 0 then Builtin.bitOr e1 (fm.getD 0 0) else e1
  let e3 := if 0 < stepR d then Builtin.bitOr e2 (rm.getD (r - 1).toNat 0) else e2
  let e4 := if stepR d < 0 then Builtin.bitOr e3 (rm.getD 0 0) else e3
  Builtin.bitAnd full (Builtin.bitNot e4)
def MasksH (f r : Nat) (full : Int) (fm rm : List Int) (x : Addr) (h : Heap) : Prop :=
  ∃ dx es n aF vF aR vR tf tr tu, h.get? x = some (instObj 53 dx) ∧ h.get? dx = some (dictOf es n) ∧ getL "files" es = some (some (.int f tf)) ∧ getL "ranks" es = some (some (.int r tr)) ∧ getL "full" es = some (some (.int full tu)) ∧
    getL "file_masks" es = some (some (.ref aF)) ∧ h.IsList aF (List.toArray vF) ∧ IntsAre vF fm ∧ getL "rank_masks" es = some (some (.ref aR)) ∧ h.IsList aR (List.toArray vR) ∧ IntsAre vR rm
theorem eight {d : Int} (h0 : 0 ≤ d) (h8 : d < 8) : d = 0 ∨ d = 1 ∨ d = 2 ∨ d = 3 ∨ d = 4 ∨ d = 5 ∨ d = 6 ∨ d = 7 := by omega
theorem step_intro {K : Frag} {oF oR : Addr} {dF dR : Option Addr} {sF sR : Array (Option Value)} {nF nR : Nat} {vF vR : List Value} (a : nsIn K mainGlobals "STEP_FILES" = some (some (.ref oF))) (b : nsIn K mainGlobals "STEP_RANKS" = some (some (.ref oR)))
    (g : K.lookup oF = some ⟨.type "tuple", dF, .seq vF.toArray nF, sF⟩) (d : K.lookup oR = some ⟨.type "tuple", dR, .seq vR.toArray nR, sR⟩) (e : vF.length = 8) (f : vR.length = 8) (h : ∀ d : Int, 0 ≤ d → d < 8 → ∃ t, vF[d.toNat]? = some (.int (stepF d) t)) (i : ∀ d : Int, 0 ≤ d → d < 8 → ∃ t, vR[d.toNat]? = some (.int (stepR d) t)) :
    ∃ (oF oR : Addr) (dF dR : Option Addr) (sF sR : Array (Option Value)) (nF nR : Nat) (vF vR : List Value), nsIn K mainGlobals "STEP_FILES" = some (some (.ref oF)) ∧ nsIn K mainGlobals "STEP_RANKS" = some (some (.ref oR)) ∧
    K.lookup oF = some ⟨.type "tuple", dF, .seq vF.toArray nF, sF⟩ ∧ K.lookup oR = some ⟨.type "tuple", dR, .seq vR.toArray nR, sR⟩ ∧ vF.length = 8 ∧ vR.length = 8 ∧ (∀ d : Int, 0 ≤ d → d < 8 → ∃ t, vF[d.toNat]? = some (.int (stepF d) t)) ∧ (∀ d : Int, 0 ≤ d → d < 8 → ∃ t, vR[d.toNat]? = some (.int (stepR d) t)) := ⟨_, _, _, _, _, _, _, _, _, _, a, b, g, d, e, f, h, i⟩
set_option maxHeartbeats 8000000 in
theorem step_at (w : World) : PySem.Challenge.rw_tg0013_01.foot = 6 → ∃ (oF oR : Addr) (dF dR : Option Addr) (sF sR : Array (Option Value)) (nF nR : Nat) (vF vR : List Value), nsIn (hd.heap_39 w.params) mainGlobals "STEP_FILES" = some (some (.ref oF)) ∧ nsIn (hd.heap_39 w.params) mainGlobals "STEP_RANKS" = some (some (.ref oR)) ∧
    (hd.heap_39 w.params).lookup oF = some ⟨.type "tuple", dF, .seq vF.toArray nF, sF⟩ ∧ (hd.heap_39 w.params).lookup oR = some ⟨.type "tuple", dR, .seq vR.toArray nR, sR⟩ ∧ vF.length = 8 ∧ vR.length = 8 ∧ (∀ d : Int, 0 ≤ d → d < 8 → ∃ t, vF[d.toNat]? = some (.int (stepF d) t)) ∧ (∀ d : Int, 0 ≤ d → d < 8 → ∃ t, vR[d.toNat]? = some (.int (stepR d) t)) := by
  k_fill
  intro _
  refine' step_intro ?a ?b ?c ?d ?e ?f ?g ?h
  case a => k_is
  case b => k_is
  case c => k_is
  case d => k_is
  case e => exact rfl
  case f => exact rfl
  case g => intro d h0 h8; rcases eight h0 h8 with rfl | rfl | rfl | rfl | rfl | rfl | rfl | rfl <;> exact ⟨_, rfl⟩
  case h => intro d h0 h8; rcases eight h0 h8 with rfl | rfl | rfl | rfl | rfl | rfl | rfl | rfl <;> exact ⟨_, rfl⟩
section
variable {c : RCx} {k : Fn} {m : Fra} {news : Led} {y : Str} {p q pos : Pos} {n : Nat} {d : Int}
theorem seq_at {d : Int} {j : Nat} (h0 : 0 ≤ d) (h8 : d < 8) (hj : j = 8) : seqIndex? d j = some d.toNat := by
  subst hj
  rcases eight h0 h8 with rfl | rfl | rfl | rfl | rfl | rfl | rfl | rfl <;> exact rfl
theorem r_stepF (H : RW c k n) (a : RI c k m news (.Name y q) d) (h0 : 0 ≤ d) (h8 : d < 8) (hx : (k.env c.L).kindOf "STEP_FILES" = some .globalImplicit) : RI c k m news (.Subscript (.Name "STEP_FILES" p) (.Name y q) pos) (stepF d) := by
  obtain ⟨oF, oR, dF, dR, sF, sR, nF, nR, vF, vR, g1, g2, g3, g4, g5, g6, g7, g8⟩ := step_at c.w rfl
  obtain ⟨t, ht⟩ := g7 d h0 h8
  exact r_of (r_topItem H (r_glob H g1 hx (by decide)) a g3 (by omega) (by omega) (seq_at h0 h8 g5) ht pi_name) rfl
theorem r_stepR (H : RW c k n) (a : RI c k m news (.Name y q) d) (h0 : 0 ≤ d) (h8 : d < 8) (hx : (k.env c.L).kindOf "STEP_RANKS" = some .globalImplicit) : RI c k m news (.Subscript (.Name "STEP_RANKS" p) (.Name y q) pos) (stepR d) := by
  obtain ⟨oF, oR, dF, dR, sF, sR, nF, nR, vF, vR, g1, g2, g3, g4, g5, g6, g7, g8⟩ := step_at c.w rfl
  obtain ⟨t, ht⟩ := g8 d h0 h8
  exact r_of (r_topItem H (r_glob H g2 hx (by decide)) a g4 (by omega) (by omega) (seq_at h0 h8 g6) ht pi_name) rfl
end
theorem step_words : True := by
  k_with "r" => first | (apply r_stepF; assumption; k_extra "r"; (first | assumption | omega); (first | assumption | omega); exact rfl) | (apply r_stepR; assumption; k_extra "r"; (first | assumption | omega); (first | assumption | omega); exact rfl)
  exact True.intro
set_option maxHeartbeats 8000000 in
theorem inner_squares_says (f r : Nat) (full : Int) (fm rm : List Int) (x : Addr) (d : Int) (t : Tok) (h0 : 0 ≤ d) (h8 : d < 8) (hf : 1 ≤ f) (hf5 : f ≤ 5) (hr : 1 ≤ r) (hr5 : r ≤ 5) (lf : fm.length = f) (lr : rm.length = r) :
    PySem.Challenge.rw_tg0013_01.foot = 6 → Says 78 1 (MasksH f r full fm rm x) [.ref x, .int d t] (fun _ v _ => ∃ t', v = .int (innerOf fm rm full f r d) t') := by
  unfold Says
  k_fill
  intro _ w
  show SaysW w _ _ _ _ _
  refine' says_rel (n := 0) ?k6 ?k7 ?k9 ?kB ?c2 ?c3 ?c4 ?c5 ?_
  case k6 => k_is
  case k7 => k_is
  case k9 => intro _; exact BindsTo.of_eq rfl
  case kB => exact locs rfl
  case c2 => exact rfl
  case c3 => exact rfl
  case c4 => exact rfl
  case c5 => decide
  intro A g L c H hG
  obtain ⟨dx, es, n, aF, vF, aR, vR, tf, tr, tu, hx, hdx, e1, e2, e3, e4, hl1, hi1, e5, hl2, hi2⟩ := hG
  repeat' (k_extra "rs")
  exact fun _ _ => ⟨_, rfl⟩
theorem rel_words_2 : True := by
  k_with_none
  k_with "evat" => first | with_reducible exact at_files | with_reducible exact at_ranks | with_reducible exact at_size | with_reducible exact at_full | with_reducible exact at_rays | with_reducible exact at_king | with_reducible exact at_knight | with_reducible exact at_pawn | with_reducible exact at_file_masks | with_reducible exact at_rank_masks | with_reducible exact at_castles | with_reducible exact at_rights_lost | with_reducible exact at_has_castling
  k_with "evnth" => first | exact rfl | exact nth_ref (by omega)
  k_with "rv" => first | (apply r_name; assumption; exact rfl; exact rfl; exact rfl) | (apply r_glob; assumption; k_is; exact rfl; exact rfl) | (apply r_attrG; assumption; k_extra "rv"; assumption; assumption; k_extra "evat"; assumption; exact rfl) | (apply r_attrN; assumption; k_extra "rv"; k_mem; k_mem; k_extra "evat"; assumption; exact rfl) | (apply r_topItem; assumption; k_extra "rv"; k_extra "r"; k_is; decide; decide; exact rfl; exact rfl; (first | exact pi_name | exact pi_const | exact pi_bin)) | (apply r_itemVG; k_extra "rv"; k_extra "r"; assumption; (first | assumption | omega); (first | assumption | omega); k_extra "evnth"; (first | exact pi_name | exact pi_const | exact pi_bin)) | (apply r_itemVN; k_extra "rv"; k_extra "r"; k_mem; (first | assumption | omega); (first | assumption | omega); k_extra "evnth"; (first | exact pi_name | exact pi_const | exact pi_bin))
  k_with "r" => first | exact r_const | (apply r_of; k_extra "rv"; exact rfl) | (apply r_add; k_extra "r"; k_extra "r") | (apply r_sub; k_extra "r"; k_extra "r") | (apply r_and; k_extra "r"; k_extra "r") | (apply r_or; k_extra "r"; k_extra "r") | (apply r_shr; k_extra "r"; k_extra "r"; (first | assumption | omega)) | (apply r_shl; k_extra "r"; k_extra "r"; (first | assumption | omega); (first | assumption | omega); (first | assumption | omega)) | (apply r_mul; k_extra "r"; k_extra "r"; (first | assumption | omega); (first | assumption | omega)) | (apply r_mod; k_extra "r"; k_extra "r"; (first | assumption | omega)) | (apply r_div; k_extra "r"; k_extra "r"; (first | assumption | omega); (first | assumption | omega)) | (apply r_inv; k_extra "r") | (apply r_itemG; k_extra "rv"; k_extra "r"; assumption; assumption; (first | assumption | omega); (first | assumption | omega); (first | assumption | omega); (first | exact pi_name | exact pi_const | exact pi_bin)) | (apply r_itemN; k_extra "rv"; k_extra "r"; k_mem; assumption; (first | assumption | omega); (first | assumption | omega); (first | assumption | omega); (first | exact pi_name | exact pi_const | exact pi_bin))
  k_with "rc" => first | (apply rc_eq; k_extra "r"; k_extra "r"; exact rfl) | (apply rc_ne; k_extra "r"; k_extra "r"; exact rfl) | (apply rc_lt; k_extra "r"; k_extra "r"; exact rfl) | (apply rc_gt; k_extra "r"; k_extra "r"; exact rfl) | (apply rc_ge; k_extra "r"; k_extra "r"; exact rfl)
  k_with "rs" => first | (apply rs_set; assumption; k_extra "r"; exact rfl; exact rfl; intro _ _) | (apply rs_setV; assumption; k_extra "rv"; exact rfl; exact rfl; intro _) | (apply rs_ior; assumption; exact rfl; k_extra "r"; exact rfl; intro _ _) | (apply rs_iadd; assumption; exact rfl; k_extra "r"; exact rfl; intro _ _) | (apply rs_ifior_gt; assumption; exact rfl; k_extra "r"; k_extra "r"; exact rfl; (intro _; k_extra "r"); exact rfl; intro _ _) | (apply rs_ifior_lt; assumption; exact rfl; k_extra "r"; k_extra "r"; exact rfl; (intro _; k_extra "r"); exact rfl; intro _ _) | (apply rs_if; k_extra "rc"; all_goals intro _) | (apply rs_ret; k_extra "r"; intro _) | (apply rs_retV; k_extra "rv") | (apply rs_nil; (try (show RS _ _ _ _ _ _)))
  k_with "ra" => first | exact ra_nil | (apply ra_val; k_extra "rv"; k_extra "ra"; (first | exact pa_name | exact pa_const | exact pa_bin | exact pa_attr | exact pa_sub | exact pa_call)) | (apply ra_int; k_extra "r"; k_extra "ra"; (first | exact pa_name | exact pa_const | exact pa_bin | exact pa_attr | exact pa_sub | exact pa_call))
  k_with "r" => (apply r_callI; assumption; k_extra "rv"; k_is; k_extra "ra"; (first | exact pa_name | exact pa_const | exact pa_bin | exact pa_attr | exact pa_sub | exact pa_call); exact rfl; k_extra "says"; decide; k_extra "given")
  k_with "rv" => exact rv_bool
  k_with "rc" => (apply rc_and; k_extra "rc"; (intro _; k_extra "rc"))
  k_with "given" => first | (intro _ _ _; exact True.intro) | (intro _ zzF _; exact GeoH.keeps (by assumption) (Fr.keep zzF))
  k_with "frame end" => repeat (first | exact rfl | refine skip_ne (by with_reducible assumption) ?_ | refine skip_in (by with_reducible assumption) (by repeat (first | exact List.Mem.head _ | refine List.Mem.tail _ ?_)) ?_ | refine skip_b (by with_reducible assumption) ?_)
  exact True.intro
theorem led_words_2 : True := by
  k_with "in" => repeat (first | exact List.Mem.head _ | refine List.Mem.tail _ ?_)
  k_with "mem" => first | (with_reducible assumption) | (with_reducible exact List.mem_cons_self) | ((with_reducible refine List.mem_append_left _ ?_); k_extra "mem") | ((with_reducible refine List.mem_append_right _ ?_); k_extra "mem") | ((with_reducible refine List.mem_cons_of_mem _ ?_); k_extra "mem")
  k_with "k_mem" => k_extra "mem"
  k_with "ne" => (refine neN ?_; first | (with_reducible assumption) | (refine Ne.symm ?_; with_reducible assumption))
  k_with "all" => first | exact List.forall_mem_nil _ | (with_reducible assumption) | ((with_reducible refine List.forall_mem_cons.mpr ⟨?_, ?_⟩); k_extra "ne"; k_extra "all") | ((with_reducible refine List.forall_mem_append.mpr ⟨?_, ?_⟩); k_extra "all"; k_extra "all") | (intro zzp zzhp; refine off_at (by assumption) zzhp ?_; k_extra "in")
  k_with "upd" => first | ((with_reducible apply Upd.head); k_extra "all") | ((with_reducible apply Upd.tail); k_extra "ne"; k_extra "upd")
  k_with "size" => first | (with_reducible assumption) | exact le2000 (by with_reducible assumption) | omega
  k_with "pa" => first | exact pa_name | exact pa_const | exact pa_bin | exact pa_attr | exact pa_sub | exact pa_call | exact pa_neg
  k_with "r" => (apply r_neg; k_extra "r")
  k_with "rs" => (apply rs_append; k_extra "rv"; k_extra "mem"; k_extra "r"; k_extra "pa"; exact rfl; exact rfl; exact rfl; k_extra "size"; (intro _; k_extra "upd"); intro _)
  k_with "rc" => first | (apply rc_int; k_extra "r"; exact rfl) | (apply rc_not; k_extra "rc") | (apply rc_bool; k_extra "rv"; exact rfl)
  k_with "rb" => first | (apply rv_gt; k_extra "r"; k_extra "r"; exact rfl) | (apply rv_eq; k_extra "r"; k_extra "r"; exact rfl)
  k_with "rv" => first | k_extra "rb" | (apply rv_or; k_extra "rb"; k_extra "rb") | (apply r_callB; assumption; k_extra "rv"; k_is; k_extra "ra"; k_extra "pa"; exact rfl; k_extra "saysB"; decide; k_extra "given")
  k_with "rs" => first | (apply rs_setItem; k_extra "r"; k_extra "rv"; k_extra "r"; k_extra "mem"; assumption; (first | assumption | omega); (first | assumption | omega); (first | assumption | omega); exact rfl; (intro _; k_extra "upd"); intro _ _) | (apply rs_iorItem; k_extra "rv"; k_extra "r"; k_extra "mem"; k_extra "r"; assumption; (first | assumption | omega); (first | assumption | omega); (first | assumption | omega); (intro _; k_extra "upd"); intro _ _) | (apply rs_appendV; k_extra "rv"; k_extra "mem"; k_extra "rv"; k_extra "pa"; exact rfl; exact rfl; exact rfl; k_extra "size"; k_extra "upd")
  k_with "rs" => (apply rs_iand; assumption; exact rfl; k_extra "r"; exact rfl; intro _ _)
  exact True.intro
/-- the set bits of n, within f turns -/
def popO : Nat → Nat → Option Nat
  | 0, _ => none
  | f + 1, n => if n = 0 then some 0 else (popO f (n &&& (n - 1))).map (· + 1)

theorem pop_and {b : Int} (h : 0 ≤ b) (hb : b ≠ 0) : Builtin.bitAnd b (b - 1) = ((b.toNat &&& (b.toNat - 1) : Nat) : Int) := by
  rw [bitAnd_pp h (by omega)]
  congr 2
  omega
/-- between the turns of count_bits -/
def PopInv (v : Nat) (b c : Int) : Prop := 0 ≤ b ∧ ∃ f v' : Nat, popO f b.toNat = some v' ∧ c + (v' : Int) = v
theorem pop_turn {v : Nat} {b c : Int} (hne : b ≠ 0) (h : PopInv v b c) : PopInv v (Builtin.bitAnd b (b - 1)) (c + 1) := by
  obtain ⟨h0, f, v', h1, h2⟩ := h
  unfold PopInv
  rw [pop_and h0 hne]
  refine ⟨Int.natCast_nonneg _, ?_⟩
  cases f with
  | zero => cases h1
  | succ f =>
    rw [popO, if_neg (by omega)] at h1
    cases h3 : popO f (b.toNat &&& (b.toNat - 1)) with
    | none => rw [h3] at h1; cases h1
    | some k =>
      rw [h3] at h1
      cases h1
      exact ⟨f, k, by rw [Int.toNat_natCast, h3], by dsimp only at h2; omega⟩
theorem pop_less {v : Nat} {b c : Int} (hne : b ≠ 0) (h : PopInv v b c) : (Builtin.bitAnd b (b - 1)).toNat < b.toNat := by
  rw [pop_and h.1 hne, Int.toNat_natCast]
  have := @Nat.and_le_right b.toNat (b.toNat - 1)
  have := h.1
  omega
theorem pop_done {v : Nat} {b c : Int} (hz : b = 0) (h : PopInv v b c) : c = v := by
  obtain ⟨h0, f, v', h1, h2⟩ := h
  subst hz
  cases f with
  | zero => cases h1
  | succ f => simp [popO] at h1; omega

set_option maxHeartbeats 4000000 in
theorem square_colour_says (g : GeoD) (x : Addr) (sq : Int) (t : Tok) (hf : 0 < g.files) (hf5 : g.files ≤ 5) :
    PySem.Challenge.rw_tg0013_01.foot = 6 → Says 169 1 (GeoH g x) [.ref x, .int sq t] (fun _ r _ => ∃ t', r = .int (Builtin.bitAnd (sq.fmod g.files + sq.fdiv g.files) 1) t') := by
  unfold Says
  k_fill
  intro _ w
  show SaysW w 169 1 (GeoH g x) [.ref x, .int sq t] (fun _ r _ => ∃ t', r = .int (Builtin.bitAnd (sq.fmod g.files + sq.fdiv g.files) 1) t')
  refine' says_rel (n := 0) ?k6 ?k7 ?k9 ?kB ?c2 ?c3 ?c4 ?c5 ?_
  case k6 => k_is
  case k7 => k_is
  case k9 => intro _; exact BindsTo.of_eq rfl
  case kB => exact locs rfl
  case c2 => exact rfl
  case c3 => exact rfl
  case c4 => exact rfl
  case c5 => decide
  intro A gh L c H hG
  obtain ⟨dx, es, n, hx, hdx, hE⟩ := hG
  obtain ⟨t1, h1⟩ := hE.files
  have h2 : (g.files : Int) ≠ 0 := by omega
  have h3 : (g.files : Int).natAbs < 1073741824 := by omega
  repeat' (k_extra "rs")
  exact fun _ _ => ⟨_, rfl⟩
theorem popO_some : ∀ (n f : Nat), n < f → (popO f n).isSome = true := by
  intro n
  induction n using Nat.strongRecOn with
  | _ n ih =>
    intro f hf
    cases f with
    | zero => omega
    | succ f =>
      rw [popO]
      by_cases h : n = 0
      · rw [if_pos h]; rfl
      · rw [if_neg h, Option.isSome_map]
        have := @Nat.and_le_right n (n - 1)
        exact ih _ (by omega) _ (by omega)
/-- the number of set bits -/
def popN (n : Nat) : Nat := (popO (n + 1) n).getD 0
theorem popN_is (n : Nat) : popO (n + 1) n = some (popN n) := by
  unfold popN
  have h := popO_some n (n + 1) (by omega)
  cases e : popO (n + 1) n with
  | none => rw [e] at h; cases h
  | some k => rfl

set_option maxHeartbeats 4000000 in
theorem count_bits_says (b : Int) (t : Tok) (h0 : 0 ≤ b) :
    PySem.Challenge.rw_tg0013_01.foot = 6 → Says 162 1 (fun _ => True) [.int b t] (fun _ r _ => ∃ t', r = .int (popN b.toNat : Int) t') := by
  unfold Says
  k_fill
  intro _ w
  show SaysW w 162 1 (fun _ => True) [.int b t] (fun _ r _ => ∃ t', r = .int (popN b.toNat : Int) t')
  refine' says_rel (n := 0) ?k6 ?k7 ?k9 ?kB ?c2 ?c3 ?c4 ?c5 ?_
  case k6 => k_is
  case k7 => k_is
  case k9 => intro _; exact BindsTo.of_eq rfl
  case kB => exact locs rfl
  case c2 => exact rfl
  case c3 => exact rfl
  case c4 => exact rfl
  case c5 => decide
  intro A gh L c H hG
  have hs : PopInv (popN b.toNat) b 0 := ⟨h0, b.toNat + 1, popN b.toNat, popN_is _, Int.zero_add _⟩
  repeat' (k_extra "rs")
  refine' rs_while (σ := (Int × Tok) × (Int × Tok)) (fun _ => []) (fun d => [("b", .int d.1.1 d.1.2), ("count", .int d.2.1 d.2.2)]) (fun _ => True) [] (fun d => PopInv (popN b.toNat) d.1.1 d.2.1) (fun d => d.1.1.toNat) ((b, _), (0, _)) trivial (List.forall_mem_cons.mpr ⟨rfl, List.forall_mem_cons.mpr ⟨rfl, List.forall_mem_nil _⟩⟩) hs (fun d => d.1.1 ≠ 0) ?hT ?turn ?done
  case hT =>
    intro d u _ _
    k_extra "rc"
  case turn =>
    intro d u _ hP hT
    obtain ⟨⟨b1, t1⟩, ⟨c1, t2⟩⟩ := d
    dsimp only at hP hT ⊢
    repeat' (k_extra "rs")
    exact ⟨((_, _), (_, _)), List.forall_mem_nil _, trivial, List.forall_mem_cons.mpr ⟨rfl, List.forall_mem_cons.mpr ⟨rfl, List.forall_mem_nil _⟩⟩, (by intro z z1 z2; have z3 := z1 _ (.head _); have z4 := z1 _ (.tail _ (.head _)); k_extra "frame end"), pop_turn hT hP, pop_less hT hP⟩
  case done =>
    intro d u _ hP hT
    obtain ⟨⟨b1, t1⟩, ⟨c1, t2⟩⟩ := d
    dsimp only at hP hT ⊢
    have hz := pop_done (Decidable.of_not_not hT) hP
    repeat' (k_extra "rs")
    exact fun _ _ => ⟨_, congrArg (fun z => Value.int z _) hz⟩
theorem and_pos {x y : Int} (hx : 0 ≤ x) (hy : 0 ≤ y) : 0 ≤ Builtin.bitAnd x y := by
  rw [bitAnd_pp hx hy]
  exact Int.natCast_nonneg _
theorem k_lt8 {d : Int} (h0 : 0 ≤ d) (h8 : d < 8) : d.toNat < 8 := by omega
theorem lt_63 {d : Int} {n : Nat} (h : d < n) (hn : n ≤ 25) : d < 2 ^ 63 := by omega
theorem lt8_63 {d : Int} (h : d < 8) : d < 2 ^ 63 := Int.lt_trans h (by decide)
def GeoD.ray (g : GeoD) (d sq : Int) : Int := (g.rays.getD d.toNat []).getD sq.toNat 0
structure GeoOk (g : GeoD) : Prop where
  f3 : 3 ≤ g.files
  f5 : g.files ≤ 5
  r3 : 3 ≤ g.ranks
  r5 : g.ranks ≤ 5
  sz : g.size ≤ 25
  pos : 0 < g.size
  rays : ∀ i, i < 8 → (g.rays.getD i []).length = g.size
  knight : g.knight.length = g.size
set_option maxHeartbeats 4000000 in
theorem ray_attacks_says (g : GeoD) (ok : GeoOk g) (x : Addr) (d sq : Int) (td ts tc : Tok) (hd0 : 0 ≤ d) (hd8 : d < 8) (hs0 : 0 ≤ sq) (hs1 : sq < g.size) :
    PySem.Challenge.rw_tg0013_01.foot = 6 → Says 120 1 (GeoH g x) [.ref x, .int d td, .int sq ts, .int 0 tc] (fun _ r _ => ∃ t', r = .int (g.ray d sq) t') := by
  unfold Says
  k_fill
  intro _ w
  show SaysW w 120 1 (GeoH g x) [.ref x, .int d td, .int sq ts, .int 0 tc] (fun _ r _ => ∃ t', r = .int (g.ray d sq) t')
  refine' says_rel (n := 0) ?k6 ?k7 ?k9 ?kB ?c2 ?c3 ?c4 ?c5 ?_
  case k6 => k_is
  case k7 => k_is
  case k9 => intro _; exact BindsTo.of_eq rfl
  case kB => exact locs rfl
  case c2 => exact rfl
  case c3 => exact rfl
  case c4 => exact rfl
  case c5 => decide
  intro A gh L c H hG
  obtain ⟨dx, es, n, hx, hdx, hE⟩ := hG
  obtain ⟨aR, rs, hR, hRl, hRn, hRi⟩ := hE.rays
  have hd9 := k_lt8 hd0 hd8
  obtain ⟨vs, hvl, hvi⟩ := hRi d.toNat hd9
  have hlen := ok.rays d.toNat hd9
  have hsq : sq < ((g.rays.getD d.toNat []).length : Int) := hlen ▸ hs1
  have hs63 := lt_63 hs1 ok.sz
  have hd63 := lt8_63 hd8
  have hrs : d.toNat < rs.length := hRn ▸ hd9
  apply rs_set
  assumption
  k_extra "r"
  exact rfl
  exact rfl
  intro _ _
  apply rs_set
  assumption
  k_extra "r"
  exact rfl
  exact rfl
  intro _ _
  apply rs_if
  k_extra "rc"
  · intro _
    repeat' (k_extra "rs")
    exact fun _ _ => ⟨_, rfl⟩
  · intro hn
    exact absurd (bitAnd_zero _) hn
def GeoD.rook (g : GeoD) (sq : Int) : Int := Builtin.bitOr (Builtin.bitOr (Builtin.bitOr (Builtin.bitOr 0 (g.ray 0 sq)) (g.ray 1 sq)) (g.ray 2 sq)) (g.ray 3 sq)
def GeoD.bishop (g : GeoD) (sq : Int) : Int := Builtin.bitOr (Builtin.bitOr (Builtin.bitOr (Builtin.bitOr 0 (g.ray 4 sq)) (g.ray 5 sq)) (g.ray 6 sq)) (g.ray 7 sq)
def GeoD.queen (g : GeoD) (sq : Int) : Int := Builtin.bitOr (g.rook sq) (g.bishop sq)
theorem says_words_2 : True := by
  k_with "says" => (intro _; exact ray_attacks_says _ (by with_reducible assumption) _ _ _ _ _ _ (by with_reducible assumption) (by with_reducible assumption) (by with_reducible assumption) (by with_reducible assumption) rfl)
  exact True.intro
theorem lt_add4 {i : Int} {k : Nat} (h : i = 0 + (k : Int)) (hk : k < 4) : 0 ≤ i ∧ i < 8 := by omega
theorem lt_add8 {i : Int} {k : Nat} (h : i = 4 + (k : Int)) (hk : k < 4) : 0 ≤ i ∧ i < 8 := by omega
def orRay (g : GeoD) (sq acc d : Int) : Int := Builtin.bitOr acc (g.ray d sq)
set_option maxHeartbeats 4000000 in
theorem rook_attacks_says (g : GeoD) (ok : GeoOk g) (x : Addr) (sq : Int) (ts tc : Tok) (hs0 : 0 ≤ sq) (hs1 : sq < g.size) :
    PySem.Challenge.rw_tg0013_01.foot = 6 → Says 127 2 (GeoH g x) [.ref x, .int sq ts, .int 0 tc] (fun _ r _ => ∃ t', r = .int (g.rook sq) t') := by
  unfold Says
  k_fill
  intro _ w
  show SaysW w 127 2 (GeoH g x) [.ref x, .int sq ts, .int 0 tc] (fun _ r _ => ∃ t', r = .int (g.rook sq) t')
  refine' says_rel (n := 1) ?k6 ?k7 ?k9 ?kB ?c2 ?c3 ?c4 ?c5 ?_
  case k6 => k_is
  case k7 => k_is
  case k9 => intro _; exact BindsTo.of_eq rfl
  case kB => exact locs rfl
  case c2 => exact rfl
  case c3 => exact rfl
  case c4 => exact rfl
  case c5 => decide
  intro A gh L c H hG
  repeat' (k_extra "rs")
  refine' rs_for (N := 4) (σ := Int × Tok) (fun _ => []) (fun d => [("found", .int d.1 d.2)]) (fun _ => True) [] (fun pre d => d.1 = pre.foldl (orRay g sq) 0) (0, _) H r_const (by decide) pa_const ?qg ?qr ?qx trivial (List.forall_mem_cons.mpr ⟨rfl, List.forall_mem_nil _⟩) rfl ?turn ?done ?qs
  case qg => k_is
  case qr => exact rfl
  case qx => exact rfl
  case qs => intro _; exact rfl
  case turn =>
    intro d pre i t u own hi1 hi2 ho _ hP
    obtain ⟨f0, t0⟩ := d
    have hi0 := (lt_add4 (hi1.trans (Int.zero_add _).symm) hi2).1
    have hi8 := (lt_add4 (hi1.trans (Int.zero_add _).symm) hi2).2
    repeat' (k_extra "rs")
    exact ⟨(orRay g sq f0 i, _), List.forall_mem_nil _, fun _ hp => hp, rfl, trivial, List.forall_mem_cons.mpr ⟨rfl, List.forall_mem_nil _⟩, (by intro z z1 z2 z3; have z4 := z2 _ (.head _); k_extra "frame end"), (by show _ = List.foldl (orRay g sq) 0 (pre ++ [i]); rw [List.foldl_append, ← (show f0 = _ from hP)]; rfl)⟩
  case done =>
    intro d u _ hP
    obtain ⟨f0, t0⟩ := d
    dsimp only at hP ⊢
    subst hP
    repeat' (k_extra "rs")
    exact fun _ _ => ⟨_, rfl⟩
set_option maxHeartbeats 4000000 in
theorem bishop_attacks_says (g : GeoD) (ok : GeoOk g) (x : Addr) (sq : Int) (ts tc : Tok) (hs0 : 0 ≤ sq) (hs1 : sq < g.size) :
    PySem.Challenge.rw_tg0013_01.foot = 6 → Says 134 2 (GeoH g x) [.ref x, .int sq ts, .int 0 tc] (fun _ r _ => ∃ t', r = .int (g.bishop sq) t') := by
  unfold Says
  k_fill
  intro _ w
  show SaysW w 134 2 (GeoH g x) [.ref x, .int sq ts, .int 0 tc] (fun _ r _ => ∃ t', r = .int (g.bishop sq) t')
  refine' says_rel (n := 1) ?k6 ?k7 ?k9 ?kB ?c2 ?c3 ?c4 ?c5 ?_
  case k6 => k_is
  case k7 => k_is
  case k9 => intro _; exact BindsTo.of_eq rfl
  case kB => exact locs rfl
  case c2 => exact rfl
  case c3 => exact rfl
  case c4 => exact rfl
  case c5 => decide
  intro A gh L c H hG
  repeat' (k_extra "rs")
  refine' rs_for2 (M := 4) (σ := Int × Tok) (fun _ => []) (fun d => [("found", .int d.1 d.2)]) (fun _ => True) [] (fun pre d => d.1 = pre.foldl (orRay g sq) 0) (0, _) H r_const r_const (by decide) (by decide) (by decide) (by decide) rfl pa_const pa_const ?qg ?qr ?qx trivial (List.forall_mem_cons.mpr ⟨rfl, List.forall_mem_nil _⟩) rfl ?turn ?done ?qs rfl
  case qg => k_is
  case qr => exact rfl
  case qx => exact rfl
  case qs => intro _; exact rfl
  case turn =>
    intro d pre i t u own hi1 hi2 ho _ hP
    obtain ⟨f0, t0⟩ := d
    have hi0 := (lt_add8 hi1 hi2).1
    have hi8 := (lt_add8 hi1 hi2).2
    repeat' (k_extra "rs")
    exact ⟨(orRay g sq f0 i, _), List.forall_mem_nil _, fun _ hp => hp, rfl, trivial, List.forall_mem_cons.mpr ⟨rfl, List.forall_mem_nil _⟩, (by intro z z1 z2 z3; have z4 := z2 _ (.head _); k_extra "frame end"), (by show _ = List.foldl (orRay g sq) 0 (pre ++ [i]); rw [List.foldl_append, ← (show f0 = _ from hP)]; rfl)⟩
  case done =>
    intro d u _ hP
    obtain ⟨f0, t0⟩ := d
    dsimp only at hP ⊢
    subst hP
    repeat' (k_extra "rs")
    exact fun _ _ => ⟨_, rfl⟩
theorem says_words_2b : True := by
  k_with "says" => (intro _; exact rook_attacks_says _ (by with_reducible assumption) _ _ _ _ (by with_reducible assumption) (by with_reducible assumption) rfl)
  k_with "says" => (intro _; exact bishop_attacks_says _ (by with_reducible assumption) _ _ _ _ (by with_reducible assumption) (by with_reducible assumption) rfl)
  exact True.intro
set_option maxHeartbeats 4000000 in
theorem queen_attacks_says (g : GeoD) (ok : GeoOk g) (x : Addr) (sq : Int) (ts tc : Tok) (hs0 : 0 ≤ sq) (hs1 : sq < g.size) :
    PySem.Challenge.rw_tg0013_01.foot = 6 → Says 141 3 (GeoH g x) [.ref x, .int sq ts, .int 0 tc] (fun _ r _ => ∃ t', r = .int (g.queen sq) t') := by
  unfold Says
  k_fill
  intro _ w
  show SaysW w 141 3 (GeoH g x) [.ref x, .int sq ts, .int 0 tc] (fun _ r _ => ∃ t', r = .int (g.queen sq) t')
  refine' says_rel (n := 2) ?k6 ?k7 ?k9 ?kB ?c2 ?c3 ?c4 ?c5 ?_
  case k6 => k_is
  case k7 => k_is
  case k9 => intro _; exact BindsTo.of_eq rfl
  case kB => exact locs rfl
  case c2 => exact rfl
  case c3 => exact rfl
  case c4 => exact rfl
  case c5 => decide
  intro A gh L c H hG
  repeat' (k_extra "rs")
  exact fun _ _ => ⟨_, rfl⟩
theorem says_words_2c : True := by
  k_with "says" => (intro _; exact queen_attacks_says _ (by with_reducible assumption) _ _ _ _ (by with_reducible assumption) (by with_reducible assumption) rfl)
  exact True.intro
/-- what a slider of this kind sees -/
def GeoD.slide (g : GeoD) (kk sq v : Int) : Prop := kk ≠ 0 ∧ kk ≠ 1 ∧ kk ≠ 2 ∧ kk ≠ 6 ∧ (kk = 3 → v = g.bishop sq) ∧ (kk = 4 → v = g.rook sq) ∧ (kk = 5 → v = g.queen sq) ∧ (kk ≠ 3 → kk ≠ 4 → kk = 5)
set_option maxHeartbeats 4000000 in
theorem slider_says (g : GeoD) (ok : GeoOk g) (x : Addr) (kk sq v : Int) (tk ts tc : Tok) (hs0 : 0 ≤ sq) (hs1 : sq < g.size) (hv : g.slide kk sq v) :
    PySem.Challenge.rw_tg0013_01.foot = 6 → Says 148 4 (GeoH g x) [.ref x, .int kk tk, .int sq ts, .int 0 tc] (fun _ r _ => ∃ t', r = .int v t') := by
  unfold Says
  k_fill
  intro _ w
  show SaysW w 148 4 (GeoH g x) [.ref x, .int kk tk, .int sq ts, .int 0 tc] (fun _ r _ => ∃ t', r = .int v t')
  refine' says_rel (n := 3) ?k6 ?k7 ?k9 ?kB ?c2 ?c3 ?c4 ?c5 ?_
  case k6 => k_is
  case k7 => k_is
  case k9 => intro _; exact BindsTo.of_eq rfl
  case kB => exact locs rfl
  case c2 => exact rfl
  case c3 => exact rfl
  case c4 => exact rfl
  case c5 => decide
  intro A gh L c H hG
  obtain ⟨_, _, _, _, h3, h4, h5, h6⟩ := hv
  repeat' (k_extra "rs")
  · exact fun _ _ => ⟨_, congrArg (fun z => Value.int z _) (h3 (by assumption)).symm⟩
  · exact fun _ _ => ⟨_, congrArg (fun z => Value.int z _) (h4 (by assumption)).symm⟩
  · exact fun _ _ => ⟨_, congrArg (fun z => Value.int z _) (h5 (by assumption)).symm⟩
  · exact absurd (h6 (by assumption) (by assumption)) (by assumption)
theorem says_words_2d : True := by
  k_with "says" => (intro _; exact slider_says _ (by with_reducible assumption) _ _ _ _ _ _ _ (by with_reducible assumption) (by with_reducible assumption) (by with_reducible assumption) rfl)
  exact True.intro
set_option maxHeartbeats 4000000 in
theorem piece_says (g : GeoD) (ok : GeoOk g) (x : Addr) (kk sq v : Int) (tw tk ts tc : Tok) (hs0 : 0 ≤ sq) (hs1 : sq < g.size) (hv : g.slide kk sq v) :
    PySem.Challenge.rw_tg0013_01.foot = 6 → Says 155 5 (GeoH g x) [.ref x, .int 0 tw, .int kk tk, .int sq ts, .int 0 tc] (fun _ r _ => ∃ t', r = .int v t') := by
  unfold Says
  k_fill
  intro _ w
  show SaysW w 155 5 (GeoH g x) [.ref x, .int 0 tw, .int kk tk, .int sq ts, .int 0 tc] (fun _ r _ => ∃ t', r = .int v t')
  refine' says_rel (n := 4) ?k6 ?k7 ?k9 ?kB ?c2 ?c3 ?c4 ?c5 ?_
  case k6 => k_is
  case k7 => k_is
  case k9 => intro _; exact BindsTo.of_eq rfl
  case kB => exact locs rfl
  case c2 => exact rfl
  case c3 => exact rfl
  case c4 => exact rfl
  case c5 => decide
  intro A gh L c H hG
  apply rs_if
  k_extra "rc"
  · intro h; exact absurd h hv.2.1
  intro _
  apply rs_nil
  apply rs_if
  k_extra "rc"
  · intro h; exact absurd h hv.2.2.1
  intro _
  apply rs_nil
  apply rs_if
  k_extra "rc"
  · intro h; exact absurd h hv.2.2.2.1
  intro _
  repeat' (k_extra "rs")
  exact fun _ _ => ⟨_, rfl⟩
theorem slide_rook (g : GeoD) (sq : Int) : g.slide 4 sq (g.rook sq) := ⟨by decide, by decide, by decide, by decide, fun h => absurd h (by decide), fun _ => rfl, fun h => absurd h (by decide), fun _ h => absurd rfl h⟩
theorem slide_bishop (g : GeoD) (sq : Int) : g.slide 3 sq (g.bishop sq) := ⟨by decide, by decide, by decide, by decide, fun _ => rfl, fun h => absurd h (by decide), fun h => absurd h (by decide), fun h => absurd rfl h⟩
theorem slide_queen (g : GeoD) (sq : Int) : g.slide 5 sq (g.queen sq) := ⟨by decide, by decide, by decide, by decide, fun h => absurd h (by decide), fun h => absurd h (by decide), fun _ => rfl, fun _ _ => rfl⟩
theorem piece_rook_says (g : GeoD) (ok : GeoOk g) (x : Addr) (sq : Int) (tw tk ts tc : Tok) (hs0 : 0 ≤ sq) (hs1 : sq < g.size) :
    PySem.Challenge.rw_tg0013_01.foot = 6 → Says 155 5 (GeoH g x) [.ref x, .int 0 tw, .int 4 tk, .int sq ts, .int 0 tc] (fun _ r _ => ∃ t', r = .int (g.rook sq) t') := piece_says g ok x 4 sq _ tw tk ts tc hs0 hs1 (slide_rook g sq)
theorem piece_bishop_says (g : GeoD) (ok : GeoOk g) (x : Addr) (sq : Int) (tw tk ts tc : Tok) (hs0 : 0 ≤ sq) (hs1 : sq < g.size) :
    PySem.Challenge.rw_tg0013_01.foot = 6 → Says 155 5 (GeoH g x) [.ref x, .int 0 tw, .int 3 tk, .int sq ts, .int 0 tc] (fun _ r _ => ∃ t', r = .int (g.bishop sq) t') := piece_says g ok x 3 sq _ tw tk ts tc hs0 hs1 (slide_bishop g sq)
theorem piece_queen_says (g : GeoD) (ok : GeoOk g) (x : Addr) (sq : Int) (tw tk ts tc : Tok) (hs0 : 0 ≤ sq) (hs1 : sq < g.size) :
    PySem.Challenge.rw_tg0013_01.foot = 6 → Says 155 5 (GeoH g x) [.ref x, .int 0 tw, .int 5 tk, .int sq ts, .int 0 tc] (fun _ r _ => ∃ t', r = .int (g.queen sq) t') := piece_says g ok x 5 sq _ tw tk ts tc hs0 hs1 (slide_queen g sq)
set_option maxHeartbeats 4000000 in
theorem piece_knight_says (g : GeoD) (ok : GeoOk g) (x : Addr) (sq : Int) (tw tk ts tc : Tok) (hs0 : 0 ≤ sq) (hs1 : sq < g.size) :
    PySem.Challenge.rw_tg0013_01.foot = 6 → Says 155 5 (GeoH g x) [.ref x, .int 0 tw, .int 2 tk, .int sq ts, .int 0 tc] (fun _ r _ => ∃ t', r = .int (g.knight.getD sq.toNat 0) t') := by
  unfold Says
  k_fill
  intro _ w
  show SaysW w 155 5 (GeoH g x) [.ref x, .int 0 tw, .int 2 tk, .int sq ts, .int 0 tc] (fun _ r _ => ∃ t', r = .int (g.knight.getD sq.toNat 0) t')
  refine' says_rel (n := 4) ?k6 ?k7 ?k9 ?kB ?c2 ?c3 ?c4 ?c5 ?_
  case k6 => k_is
  case k7 => k_is
  case k9 => intro _; exact BindsTo.of_eq rfl
  case kB => exact locs rfl
  case c2 => exact rfl
  case c3 => exact rfl
  case c4 => exact rfl
  case c5 => decide
  intro A gh L c H hG
  obtain ⟨dx, es, n, hx, hdx, hE⟩ := hG
  obtain ⟨aK, vs, hR, hvl, hvi⟩ := hE.knight
  have hlen := ok.knight
  have hsq : sq < (g.knight.length : Int) := hlen ▸ hs1
  have hs63 := lt_63 hs1 ok.sz
  apply rs_if
  k_extra "rc"
  · intro h; exact absurd h (by decide)
  intro _
  apply rs_nil
  apply rs_if
  k_extra "rc"
  · intro _
    repeat' (k_extra "rs")
    exact fun _ _ => ⟨_, rfl⟩
  · intro h; exact absurd rfl h
theorem rel_words_9 : True := by
  k_with_none
  k_with "evat" => first | with_reducible exact at_files | with_reducible exact at_ranks | with_reducible exact at_size | with_reducible exact at_full | with_reducible exact at_rays | with_reducible exact at_king | with_reducible exact at_knight | with_reducible exact at_pawn | with_reducible exact at_file_masks | with_reducible exact at_rank_masks | with_reducible exact at_castles | with_reducible exact at_rights_lost | with_reducible exact at_has_castling
  k_with "evnth" => first | exact rfl | exact nth_ref (by omega)
  k_with "rv" => first | (apply r_name; assumption; exact rfl; exact rfl; exact rfl) | (apply r_glob; assumption; k_is; exact rfl; exact rfl) | (apply r_attrG; assumption; k_extra "rv"; assumption; assumption; k_extra "evat"; assumption; exact rfl) | (apply r_attrN; assumption; k_extra "rv"; k_mem; k_mem; k_extra "evat"; assumption; exact rfl) | (apply r_topItem; assumption; k_extra "rv"; k_extra "r"; k_is; decide; decide; exact rfl; exact rfl; (first | exact pi_name | exact pi_const | exact pi_bin)) | (apply r_itemVG; k_extra "rv"; k_extra "r"; assumption; (first | assumption | omega); (first | assumption | omega); k_extra "evnth"; (first | exact pi_name | exact pi_const | exact pi_bin)) | (apply r_itemVN; k_extra "rv"; k_extra "r"; k_mem; (first | assumption | omega); (first | assumption | omega); k_extra "evnth"; (first | exact pi_name | exact pi_const | exact pi_bin))
  k_with "r" => first | exact r_const | (apply r_of; k_extra "rv"; exact rfl) | (apply r_add; k_extra "r"; k_extra "r") | (apply r_sub; k_extra "r"; k_extra "r") | (apply r_and; k_extra "r"; k_extra "r") | (apply r_or; k_extra "r"; k_extra "r") | (apply r_shr; k_extra "r"; k_extra "r"; (first | assumption | omega)) | (apply r_shl; k_extra "r"; k_extra "r"; (first | assumption | omega); (first | assumption | omega); (first | assumption | omega)) | (apply r_mul; k_extra "r"; k_extra "r"; (first | assumption | omega); (first | assumption | omega)) | (apply r_mod; k_extra "r"; k_extra "r"; (first | assumption | omega)) | (apply r_div; k_extra "r"; k_extra "r"; (first | assumption | omega); (first | assumption | omega)) | (apply r_inv; k_extra "r") | (apply r_itemG; k_extra "rv"; k_extra "r"; assumption; assumption; (first | assumption | omega); (first | assumption | omega); (first | assumption | omega); (first | exact pi_name | exact pi_const | exact pi_bin)) | (apply r_itemN; k_extra "rv"; k_extra "r"; k_mem; assumption; (first | assumption | omega); (first | assumption | omega); (first | assumption | omega); (first | exact pi_name | exact pi_const | exact pi_bin))
  k_with "rc" => first | (apply rc_eq; k_extra "r"; k_extra "r"; exact rfl) | (apply rc_ne; k_extra "r"; k_extra "r"; exact rfl) | (apply rc_lt; k_extra "r"; k_extra "r"; exact rfl) | (apply rc_gt; k_extra "r"; k_extra "r"; exact rfl) | (apply rc_ge; k_extra "r"; k_extra "r"; exact rfl)
  k_with "rs" => first | (apply rs_set; assumption; k_extra "r"; exact rfl; exact rfl; intro _ _) | (apply rs_setV; assumption; k_extra "rv"; exact rfl; exact rfl; intro _) | (apply rs_ior; assumption; exact rfl; k_extra "r"; exact rfl; intro _ _) | (apply rs_iadd; assumption; exact rfl; k_extra "r"; exact rfl; intro _ _) | (apply rs_ifior_gt; assumption; exact rfl; k_extra "r"; k_extra "r"; exact rfl; (intro _; k_extra "r"); exact rfl; intro _ _) | (apply rs_ifior_lt; assumption; exact rfl; k_extra "r"; k_extra "r"; exact rfl; (intro _; k_extra "r"); exact rfl; intro _ _) | (apply rs_if; k_extra "rc"; all_goals intro _) | (apply rs_ret; k_extra "r"; intro _) | (apply rs_retV; k_extra "rv") | (apply rs_nil; (try (show RS _ _ _ _ _ _)))
  k_with "ra" => first | exact ra_nil | (apply ra_val; k_extra "rv"; k_extra "ra"; (first | exact pa_name | exact pa_const | exact pa_bin | exact pa_attr | exact pa_sub | exact pa_call)) | (apply ra_int; k_extra "r"; k_extra "ra"; (first | exact pa_name | exact pa_const | exact pa_bin | exact pa_attr | exact pa_sub | exact pa_call))
  k_with "r" => (apply r_callI; assumption; k_extra "rv"; k_is; k_extra "ra"; (first | exact pa_name | exact pa_const | exact pa_bin | exact pa_attr | exact pa_sub | exact pa_call); exact rfl; k_extra "says"; decide; k_extra "given")
  k_with "rv" => exact rv_bool
  k_with "rc" => (apply rc_and; k_extra "rc"; (intro _; k_extra "rc"))
  k_with "given" => first | (intro _ _ _; exact True.intro) | (intro _ zzF _; exact GeoH.keeps (by assumption) (Fr.keep zzF))
  k_with "frame end" => repeat (first | exact rfl | refine skip_ne (by with_reducible assumption) ?_ | refine skip_in (by with_reducible assumption) (by repeat (first | exact List.Mem.head _ | refine List.Mem.tail _ ?_)) ?_ | refine skip_b (by with_reducible assumption) ?_)
  exact True.intro
theorem led_words_9 : True := by
  k_with "in" => repeat (first | exact List.Mem.head _ | refine List.Mem.tail _ ?_)
  k_with "mem" => first | (with_reducible assumption) | (with_reducible exact List.mem_cons_self) | ((with_reducible refine List.mem_append_left _ ?_); k_extra "mem") | ((with_reducible refine List.mem_append_right _ ?_); k_extra "mem") | ((with_reducible refine List.mem_cons_of_mem _ ?_); k_extra "mem")
  k_with "k_mem" => k_extra "mem"
  k_with "ne" => (refine neN ?_; first | (with_reducible assumption) | (refine Ne.symm ?_; with_reducible assumption))
  k_with "all" => first | exact List.forall_mem_nil _ | (with_reducible assumption) | ((with_reducible refine List.forall_mem_cons.mpr ⟨?_, ?_⟩); k_extra "ne"; k_extra "all") | ((with_reducible refine List.forall_mem_append.mpr ⟨?_, ?_⟩); k_extra "all"; k_extra "all") | (intro zzp zzhp; refine off_at (by assumption) zzhp ?_; k_extra "in")
  k_with "upd" => first | ((with_reducible apply Upd.head); k_extra "all") | ((with_reducible apply Upd.tail); k_extra "ne"; k_extra "upd")
  k_with "size" => first | (with_reducible assumption) | exact le2000 (by with_reducible assumption) | omega
  k_with "pa" => first | exact pa_name | exact pa_const | exact pa_bin | exact pa_attr | exact pa_sub | exact pa_call | exact pa_neg
  k_with "r" => (apply r_neg; k_extra "r")
  k_with "rs" => (apply rs_append; k_extra "rv"; k_extra "mem"; k_extra "r"; k_extra "pa"; exact rfl; exact rfl; exact rfl; k_extra "size"; (intro _; k_extra "upd"); intro _)
  k_with "r" => first | (apply r_stepF; assumption; k_extra "r"; (first | assumption | omega); (first | assumption | omega); exact rfl) | (apply r_stepR; assumption; k_extra "r"; (first | assumption | omega); (first | assumption | omega); exact rfl)
  k_with "rc" => first | (apply rc_int; k_extra "r"; exact rfl) | (apply rc_not; k_extra "rc") | (apply rc_bool; k_extra "rv"; exact rfl)
  k_with "rb" => first | (apply rv_gt; k_extra "r"; k_extra "r"; exact rfl) | (apply rv_eq; k_extra "r"; k_extra "r"; exact rfl)
  k_with "rv" => first | k_extra "rb" | (apply rv_or; k_extra "rb"; k_extra "rb") | (apply r_callB; assumption; k_extra "rv"; k_is; k_extra "ra"; k_extra "pa"; exact rfl; k_extra "saysB"; decide; k_extra "given")
  k_with "rs" => first | (apply rs_setItem; k_extra "r"; k_extra "rv"; k_extra "r"; k_extra "mem"; assumption; (first | assumption | omega); (first | assumption | omega); (first | assumption | omega); exact rfl; (intro _; k_extra "upd"); intro _ _) | (apply rs_iorItem; k_extra "rv"; k_extra "r"; k_extra "mem"; k_extra "r"; assumption; (first | assumption | omega); (first | assumption | omega); (first | assumption | omega); (intro _; k_extra "upd"); intro _ _) | (apply rs_appendV; k_extra "rv"; k_extra "mem"; k_extra "rv"; k_extra "pa"; exact rfl; exact rfl; exact rfl; k_extra "size"; k_extra "upd")
  exact True.intro
theorem mil {f : Nat} (h : f ≤ 5) : f ≤ 1000000 := Nat.le_trans h (by decide)
theorem milI {f : Nat} (h : f ≤ 5) : (f : Int) ≤ 1000000 := Int.ofNat_le.mpr (mil h)
theorem lt5 {i : Int} {a b : Nat} (h1 : i = (a : Int)) (h2 : a < b) (h3 : b ≤ 5) : i ≤ 5 := h1 ▸ Int.ofNat_le.mpr (Nat.le_trans (Nat.le_of_lt h2) h3)
theorem lo1000 {i : Int} {a : Nat} (h1 : i = (a : Int)) : -1000 ≤ i := h1 ▸ Int.le_trans (by decide) (Int.natCast_nonneg a)
theorem hi1000 {i : Int} {a b : Nat} (h1 : i = (a : Int)) (h2 : a < b) (h3 : b ≤ 5) : i ≤ 1000 := Int.le_trans (lt5 h1 h2 h3) (by decide)
theorem small_pre {a b : Nat} (h2 : a < b) (h3 : b ≤ 5) : a ≤ 1000 := Nat.le_trans (Nat.le_trans (Nat.le_of_lt h2) h3) (by decide)
def rowOf (f : Nat) : Int := 1 * 2 ^ ((f : Int)).toNat - 1
def rankMask (f : Nat) (k : Int) : Int := rowOf f * 2 ^ (k * (f : Int)).toNat
def colStep (f : Nat) (c k : Int) : Int := Builtin.bitOr c (1 * 2 ^ (k * (f : Int)).toNat)
def colOf (f r : Nat) : Int := (rangeKs 0 r).foldl (colStep f) 0
def rmOf (f r : Nat) : List Int := (rangeKs 0 r).map (rankMask f)
def fmOf (f r : Nat) : List Int := (rangeKs 0 f).map fun k => colOf f r * 2 ^ k.toNat
theorem row_small {f : Nat} (h3 : 3 ≤ f) (h5 : f ≤ 5) : (rowOf f).natAbs < 2 ^ 64 := by
  have : f = 3 ∨ f = 4 ∨ f = 5 := by omega
  rcases this with rfl | rfl | rfl <;> decide
theorem col_small {f r : Nat} (h3 : 3 ≤ f) (h5 : f ≤ 5) (g3 : 3 ≤ r) (g5 : r ≤ 5) : (colOf f r).natAbs < 2 ^ 64 := by
  have a : f = 3 ∨ f = 4 ∨ f = 5 := by omega
  have b : r = 3 ∨ r = 4 ∨ r = 5 := by omega
  rcases a with rfl | rfl | rfl <;> rcases b with rfl | rfl | rfl <;> decide +kernel
theorem mul_bound {k : Int} {f : Nat} (h0 : 0 ≤ k) (h1 : k ≤ 5) (h5 : f ≤ 5) : 0 ≤ k * (f : Int) ∧ k * (f : Int) ≤ 1000000 := by
  have h2 := Int.mul_nonneg h0 (Int.natCast_nonneg f)
  have h3 : k * (f : Int) ≤ 5 * 5 := Int.mul_le_mul h1 (by omega) (Int.natCast_nonneg f) (by decide)
  omega
def MasksW (x dx aF aR : Addr) (es : List DictEntry) (n : Nat) (fm rm : List Int) (rest : List (Addr × Obj)) (v : Value) (news' : List (Addr × Obj)) : Prop :=
  v = .none ∧ ∃ vF vR nF nR, news' = (aF, listOf (List.toArray vF) nF) :: (aR, listOf (List.toArray vR) nR) :: (x, instObj 53 dx) :: (dx, dictOf es n) :: rest ∧ IntsAre vF fm ∧ IntsAre vR rm
set_option maxHeartbeats 8000000 in
theorem add_masks_does (f r : Nat) (hf3 : 3 ≤ f) (hf5 : f ≤ 5) (hr3 : 3 ≤ r) (hr5 : r ≤ 5) (x dx aF aR : Addr) (es : List DictEntry) (n nF nR : Nat)
    (d1 : @Ne Nat aF aR) (d2 : @Ne Nat aF x) (d3 : @Ne Nat aF dx) (d4 : @Ne Nat aR x) (d5 : @Ne Nat aR dx) (tf tr : Tok)
    (e1 : getL "files" es = some (some (.int f tf))) (e2 : getL "ranks" es = some (some (.int r tr))) (e3 : getL "file_masks" es = some (some (.ref aF))) (e4 : getL "rank_masks" es = some (some (.ref aR))) :
    PySem.Challenge.rw_tg0013_01.foot = 6 → DoesR 71 1 [(aF, listOf (List.toArray []) nF), (aR, listOf (List.toArray []) nR), (x, instObj 53 dx), (dx, dictOf es n)] [] [.ref x] (MasksW x dx aF aR es n (fmOf f r) (rmOf f r)) := by
  unfold DoesR DoesW
  k_fill
  intro _ w
  show DoesW w _ _ _ _ _ _
  refine' does_rel (n := 0) ?k6 ?k7 ?k9 ?kB ?c2 ?c3 ?c4 ?c5 ?_
  case k6 => k_is
  case k7 => k_is
  case k9 => intro _; exact BindsTo.of_eq rfl
  case kB => exact locs rfl
  case c2 => exact rfl
  case c3 => exact rfl
  case c4 => exact rfl
  case c5 => decide
  intro A g L rest c H hoff _
  have hf0 := Int.natCast_nonneg f
  have hf6 := mil hf5
  have hf7 := milI hf5
  have hr6 := mil hr5
  have hrow : (1 * 2 ^ ((f : Int)).toNat - 1 : Int).natAbs < 2 ^ 64 := row_small hf3 hf5
  have hcol : ((rangeKs 0 r).foldl (colStep f) 0).natAbs < 2 ^ 64 := col_small hf3 hf5 hr3 hr5
  (show RS _ _ _ ((aF, _) :: (aR, _) :: (x, _) :: (dx, _) :: rest) _ _)
  repeat' (k_extra "rs")
  refine' rs_for (σ := List Value × List Int × Nat × Int × Tok) (fun d => (aF, listOf (List.toArray []) nF) :: (aR, listOf (List.toArray d.1) d.2.2.1) :: (x, instObj 53 dx) :: (dx, dictOf es n) :: rest) (fun d => [("column", .int d.2.2.2.1 d.2.2.2.2)]) (fun d => IntsAre d.1 d.2.1) [] (fun pre d => d.2.1 = pre.map (rankMask f) ∧ d.2.2.2.1 = pre.foldl (colStep f) 0) ([], [], nR, 0, _) H ?qa hr6 pa_attr ?qg ?qr ?qx .nil (List.forall_mem_cons.mpr ⟨rfl, List.forall_mem_nil _⟩) ⟨rfl, rfl⟩ ?turn ?done ?qs
  case qa => k_extra "r"
  case qg => k_is
  case qr => exact rfl
  case qx => exact rfl
  case qs => intro _; exact rfl
  case turn =>
    intro d pre i t u own hi1 hi2 ho hF hP
    obtain ⟨us, ms, n1, col, tc⟩ := d
    obtain ⟨hP1, hP2⟩ := hP
    dsimp only at hF hP1 hP2 ⊢
    have hb := mul_bound (k := i) (f := f) (by rw [hi1]; exact Int.natCast_nonneg _) (lt5 hi1 hi2 hr5) hf5
    have hb0 := hb.1
    have hb1 := hb.2
    have hk0 := lo1000 hi1
    have hk5 := hi1000 hi1 hi2 hr5
    have hlen : us.length ≤ 1000 := by rw [hF.length, hP1, List.length_map]; exact small_pre hi2 hr5
    (show RS _ _ _ ((aF, _) :: (aR, _) :: (x, _) :: (dx, _) :: (rest ++ own)) _ _)
    repeat' (k_extra "rs")
    exact ⟨(us ++ [_], ms ++ [rankMask f i], n1 + 1, colStep f col i, _), subL [_, _, _, _] rest own, ownL [_, _, _, _] rest own, rfl, hF.append (.cons _ _ .nil), List.forall_mem_cons.mpr ⟨rfl, List.forall_mem_nil _⟩, (by intro z z1 z2 z3; have z4 := z2 _ (.head _); k_extra "frame end"), by rw [List.map_append, hP1]; rfl, by rw [List.foldl_append, hP2]; rfl⟩
  case done =>
    intro d u hF hP
    obtain ⟨us, ms, n1, col, tc⟩ := d
    obtain ⟨hP1, hP2⟩ := hP
    dsimp only at hF hP1 hP2 ⊢
    subst hP2
    refine' rs_for (σ := List Value × List Int × Nat) (fun d => (aF, listOf (List.toArray d.1) d.2.2) :: (aR, listOf (List.toArray us) n1) :: (x, instObj 53 dx) :: (dx, dictOf es n) :: rest) (fun _ => []) (fun d => IntsAre d.1 d.2.1) [] (fun pre d => d.2.1 = pre.map fun k => colOf f r * 2 ^ k.toNat) ([], [], nF) H ?qa2 hf6 pa_attr ?qg2 ?qr2 ?qx2 .nil (List.forall_mem_nil _) rfl ?turn2 ?done2 ?qs2
    case qa2 => k_extra "r"
    case qg2 => k_is
    case qr2 => exact rfl
    case qx2 => exact rfl
    case qs2 => intro _; exact rfl
    case turn2 =>
      intro d pre i t u' own hi1 hi2 ho hG hQ
      obtain ⟨us', ms', n2⟩ := d
      dsimp only at hG hQ ⊢
      have hk0 : 0 ≤ i := by rw [hi1]; exact Int.natCast_nonneg _
      have hk6 : i ≤ 1000000 := Int.le_trans (hi1000 hi1 hi2 hf5) (by decide)
      have hlen : us'.length ≤ 1000 := by rw [hG.length, hQ, List.length_map]; exact small_pre hi2 hf5
      (show RS _ _ _ ((aF, _) :: (aR, _) :: (x, _) :: (dx, _) :: (rest ++ own)) _ _)
      repeat' (k_extra "rs")
      exact ⟨(us' ++ [_], ms' ++ [colOf f r * 2 ^ i.toNat], n2 + 1), subL [_, _, _, _] rest own, ownL [_, _, _, _] rest own, rfl, hG.append (.cons _ _ .nil), List.forall_mem_nil _, (by intro z z1 z2 z3; k_extra "frame end"), (by show ms' ++ _ = List.map _ (pre ++ [i]); rw [List.map_append, hQ]; rfl)⟩
    case done2 =>
      intro d u' hG hQ
      obtain ⟨us', ms', n2⟩ := d
      dsimp only at hG hQ ⊢
      refine rs_nil ⟨rfl, _, _, _, _, rfl, ?_, ?_⟩
      · rw [hQ] at hG; exact hG
      · rw [hP1] at hF; exact hF
theorem grow_is {d : Int} (h0 : 0 ≤ d) (h8 : d < 8) : (decide (stepR d > 0) || d == 1) = growB d := by
  rcases eight h0 h8 with rfl | rfl | rfl | rfl | rfl | rfl | rfl | rfl <;> decide
set_option maxHeartbeats 4000000 in
theorem is_growing_says (d : Int) (t : Tok) (h0 : 0 ≤ d) (h8 : d < 8) :
    PySem.Challenge.rw_tg0013_01.foot = 6 → Says 64 1 (fun _ => True) [.int d t] (fun _ r _ => r = .bool (growB d)) := by
  unfold Says
  k_fill
  intro _ w
  show SaysW w 64 1 (fun _ => True) [.int d t] (fun _ r _ => r = .bool (growB d))
  refine' says_rel (n := 0) ?k6 ?k7 ?k9 ?kB ?c2 ?c3 ?c4 ?c5 ?_
  case k6 => k_is
  case k7 => k_is
  case k9 => intro _; exact BindsTo.of_eq rfl
  case kB => exact locs rfl
  case c2 => exact rfl
  case c3 => exact rfl
  case c4 => exact rfl
  case c5 => decide
  intro A g L c H hG
  repeat' (k_extra "rs")
  exact fun _ _ => congrArg Value.bool (grow_is h0 h8)
def deltaOf (f : Nat) (d : Int) : Int := stepR d * (f : Int) + stepF d
def rayStep (inner delta : Int) (l : List Int) (sq : Int) : List Int :=
  if Builtin.bitAnd (inner.fdiv (2 ^ sq.toNat)) 1 = 0 then l else l.set sq.toNat (Builtin.bitOr (l.getD (sq + delta).toNat 0) (1 * 2 ^ (sq + delta).toNat))
def fullOf (f r : Nat) : Int := 1 * 2 ^ ((f : Int) * (r : Int)).toNat - 1
def innerFR (f r : Nat) (d : Int) : Int := innerOf (fmOf f r) (rmOf f r) (fullOf f r) f r d
def orderOf (sz : Nat) (d : Int) : List Int := ordOf (growB d) sz
def rayOf (f r sz : Nat) (d : Int) : List Int := (orderOf sz d).foldl (rayStep (innerFR f r d) (deltaOf f d)) (List.replicate sz 0)
/-- the goals of the inner squares lie on the board -/
def GoalOk (f r sz : Nat) : Prop := ∀ d sq : Int, 0 ≤ d → d < 8 → 0 ≤ sq → sq < sz → Builtin.bitAnd ((innerFR f r d).fdiv (2 ^ sq.toNat)) 1 ≠ 0 → 0 ≤ sq + deltaOf f d ∧ sq + deltaOf f d < sz
theorem masks_of {h₀ h : Heap} {L : Addr} {news : List (Addr × Obj)} {f r : Nat} {full : Int} {fm rm : List Int} {x dx aF aR : Addr} {es : List DictEntry} {n nF nR : Nat} {vF vR : List Value} {tf tr tu : Tok} (N : News h₀ L h news) (h1 : (x, instObj 53 dx) ∈ news) (h2 : (dx, dictOf es n) ∈ news)
    (e1 : getL "files" es = some (some (.int f tf))) (e2 : getL "ranks" es = some (some (.int r tr))) (e3 : getL "full" es = some (some (.int full tu))) (e4 : getL "file_masks" es = some (some (.ref aF))) (e5 : getL "rank_masks" es = some (some (.ref aR)))
    (h3 : (aF, listOf (List.toArray vF) nF) ∈ news) (i3 : IntsAre vF fm) (h4 : (aR, listOf (List.toArray vR) nR) ∈ news) (i4 : IntsAre vR rm) : MasksH f r full fm rm x h :=
  ⟨dx, es, n, aF, vF, aR, vR, tf, tr, tu, (N _ h1).1, (N _ h2).1, e1, e2, e3, e4, ⟨_, (N _ h3).1, rfl, _, rfl⟩, i3, e5, ⟨_, (N _ h4).1, rfl, _, rfl⟩, i4⟩
theorem fm_len (f r : Nat) : (fmOf f r).length = f := by simp [fmOf, rangeKs_length]
theorem rm_len (f r : Nat) : (rmOf f r).length = r := by simp [rmOf, rangeKs_length]
def RaysW (f r sz : Nat) (x dx aRays aF aR : Addr) (es : List DictEntry) (nF nR : Nat) (vF vR : List Value) (rest : List (Addr × Obj)) (v : Value) (news' : List (Addr × Obj)) : Prop :=
  v = .none ∧ ∃ hsh tk n' aK kv ks kn rs rn new, news' = (x, instObj 53 dx) :: (dx, dictOf (putL "king" hsh (.str "king" tk) (.ref aK) es) n') :: (aRays, listOf (List.map Value.ref rs).toArray rn) :: (aF, listOf (List.toArray vF) nF) :: (aR, listOf (List.toArray vR) nR) :: (aK, listOf (List.toArray kv) kn) :: (new ++ rest) ∧
    IntsAre kv ks ∧ ks.length = sz ∧ rs.length = 8 ∧ (∀ j : Nat, j < 8 → ∃ vs k, (rs.getD j 0, listOf (List.toArray vs) k) ∈ new ∧ IntsAre vs (rayOf f r sz j)) ∧
    OwnOff new [x, dx, aRays, aF, aR, aK] ∧ OwnOff rest [aK] ∧ TbOff new rest ∧ (@Ne Nat aK x ∧ @Ne Nat aK dx ∧ @Ne Nat aK aRays ∧ @Ne Nat aK aF ∧ @Ne Nat aK aR)
theorem rel_words_11 : True := by
  k_with_none
  k_with "evat" => first | with_reducible exact at_files | with_reducible exact at_ranks | with_reducible exact at_size | with_reducible exact at_full | with_reducible exact at_rays | with_reducible exact at_king | with_reducible exact at_knight | with_reducible exact at_pawn | with_reducible exact at_file_masks | with_reducible exact at_rank_masks | with_reducible exact at_castles | with_reducible exact at_rights_lost | with_reducible exact at_has_castling
  k_with "evnth" => first | exact rfl | exact nth_ref (by omega)
  k_with "rv" => first | (apply r_name; assumption; exact rfl; exact rfl; exact rfl) | (apply r_glob; assumption; k_is; exact rfl; exact rfl) | (apply r_attrG; assumption; k_extra "rv"; assumption; assumption; k_extra "evat"; assumption; exact rfl) | (apply r_attrN; assumption; k_extra "rv"; k_mem; k_mem; k_extra "evat"; assumption; exact rfl) | (apply r_topItem; assumption; k_extra "rv"; k_extra "r"; k_is; decide; decide; exact rfl; exact rfl; (first | exact pi_name | exact pi_const | exact pi_bin)) | (apply r_itemVG; k_extra "rv"; k_extra "r"; assumption; (first | assumption | omega); (first | assumption | omega); k_extra "evnth"; (first | exact pi_name | exact pi_const | exact pi_bin)) | (apply r_itemVN; k_extra "rv"; k_extra "r"; k_mem; (first | assumption | omega); (first | assumption | omega); k_extra "evnth"; (first | exact pi_name | exact pi_const | exact pi_bin))
  k_with "r" => first | exact r_const | (apply r_of; k_extra "rv"; exact rfl) | (apply r_add; k_extra "r"; k_extra "r") | (apply r_sub; k_extra "r"; k_extra "r") | (apply r_and; k_extra "r"; k_extra "r") | (apply r_or; k_extra "r"; k_extra "r") | (apply r_shr; k_extra "r"; k_extra "r"; (first | assumption | omega)) | (apply r_shl; k_extra "r"; k_extra "r"; (first | assumption | omega); (first | assumption | omega); (first | assumption | omega)) | (apply r_mul; k_extra "r"; k_extra "r"; (first | assumption | omega); (first | assumption | omega)) | (apply r_mod; k_extra "r"; k_extra "r"; (first | assumption | omega)) | (apply r_div; k_extra "r"; k_extra "r"; (first | assumption | omega); (first | assumption | omega)) | (apply r_inv; k_extra "r") | (apply r_itemG; k_extra "rv"; k_extra "r"; assumption; assumption; (first | assumption | omega); (first | assumption | omega); (first | assumption | omega); (first | exact pi_name | exact pi_const | exact pi_bin)) | (apply r_itemN; k_extra "rv"; k_extra "r"; k_mem; assumption; (first | assumption | omega); (first | assumption | omega); (first | assumption | omega); (first | exact pi_name | exact pi_const | exact pi_bin))
  k_with "rc" => first | (apply rc_eq; k_extra "r"; k_extra "r"; exact rfl) | (apply rc_ne; k_extra "r"; k_extra "r"; exact rfl) | (apply rc_lt; k_extra "r"; k_extra "r"; exact rfl) | (apply rc_gt; k_extra "r"; k_extra "r"; exact rfl) | (apply rc_ge; k_extra "r"; k_extra "r"; exact rfl)
  k_with "rs" => first | (apply rs_set; assumption; k_extra "r"; exact rfl; exact rfl; intro _ _) | (apply rs_setV; assumption; k_extra "rv"; exact rfl; exact rfl; intro _) | (apply rs_ior; assumption; exact rfl; k_extra "r"; exact rfl; intro _ _) | (apply rs_iadd; assumption; exact rfl; k_extra "r"; exact rfl; intro _ _) | (apply rs_ifior_gt; assumption; exact rfl; k_extra "r"; k_extra "r"; exact rfl; (intro _; k_extra "r"); exact rfl; intro _ _) | (apply rs_ifior_lt; assumption; exact rfl; k_extra "r"; k_extra "r"; exact rfl; (intro _; k_extra "r"); exact rfl; intro _ _) | (apply rs_if; k_extra "rc"; all_goals intro _) | (apply rs_ret; k_extra "r"; intro _) | (apply rs_retV; k_extra "rv") | (apply rs_nil; (try (show RS _ _ _ _ _ _)))
  k_with "ra" => first | exact ra_nil | (apply ra_val; k_extra "rv"; k_extra "ra"; (first | exact pa_name | exact pa_const | exact pa_bin | exact pa_attr | exact pa_sub | exact pa_call)) | (apply ra_int; k_extra "r"; k_extra "ra"; (first | exact pa_name | exact pa_const | exact pa_bin | exact pa_attr | exact pa_sub | exact pa_call))
  k_with "r" => (apply r_callI; assumption; k_extra "rv"; k_is; k_extra "ra"; (first | exact pa_name | exact pa_const | exact pa_bin | exact pa_attr | exact pa_sub | exact pa_call); exact rfl; k_extra "says"; decide; k_extra "given")
  k_with "rv" => exact rv_bool
  k_with "rc" => (apply rc_and; k_extra "rc"; (intro _; k_extra "rc"))
  k_with "given" => first | (intro _ _ _; exact True.intro) | (intro _ zzF _; exact GeoH.keeps (by assumption) (Fr.keep zzF))
  k_with "frame end" => repeat (first | exact rfl | refine skip_ne (by with_reducible assumption) ?_ | refine skip_in (by with_reducible assumption) (by repeat (first | exact List.Mem.head _ | refine List.Mem.tail _ ?_)) ?_ | refine skip_b (by with_reducible assumption) ?_)
  exact True.intro
theorem led_words_11 : True := by
  k_with "in" => repeat (first | exact List.Mem.head _ | refine List.Mem.tail _ ?_)
  k_with "mem" => first | (with_reducible assumption) | (with_reducible exact List.mem_cons_self) | ((with_reducible refine List.mem_append_left _ ?_); k_extra "mem") | ((with_reducible refine List.mem_append_right _ ?_); k_extra "mem") | ((with_reducible refine List.mem_cons_of_mem _ ?_); k_extra "mem")
  k_with "k_mem" => k_extra "mem"
  k_with "ne" => (refine neN ?_; first | (with_reducible assumption) | (refine Ne.symm ?_; with_reducible assumption))
  k_with "all" => first | exact List.forall_mem_nil _ | (with_reducible assumption) | ((with_reducible refine List.forall_mem_cons.mpr ⟨?_, ?_⟩); k_extra "ne"; k_extra "all") | ((with_reducible refine List.forall_mem_append.mpr ⟨?_, ?_⟩); k_extra "all"; k_extra "all") | (intro zzp zzhp; refine off_at (by assumption) zzhp ?_; k_extra "in")
  k_with "upd" => first | ((with_reducible apply Upd.head); k_extra "all") | ((with_reducible apply Upd.tail); k_extra "ne"; k_extra "upd")
  k_with "size" => first | (with_reducible assumption) | exact le2000 (by with_reducible assumption) | omega
  k_with "pa" => first | exact pa_name | exact pa_const | exact pa_bin | exact pa_attr | exact pa_sub | exact pa_call | exact pa_neg
  k_with "r" => (apply r_neg; k_extra "r")
  k_with "rs" => (apply rs_append; k_extra "rv"; k_extra "mem"; k_extra "r"; k_extra "pa"; exact rfl; exact rfl; exact rfl; k_extra "size"; (intro _; k_extra "upd"); intro _)
  k_with "r" => first | (apply r_stepF; assumption; k_extra "r"; (first | assumption | omega); (first | assumption | omega); exact rfl) | (apply r_stepR; assumption; k_extra "r"; (first | assumption | omega); (first | assumption | omega); exact rfl)
  k_with "rc" => first | (apply rc_int; k_extra "r"; exact rfl) | (apply rc_not; k_extra "rc") | (apply rc_bool; k_extra "rv"; exact rfl)
  k_with "rb" => first | (apply rv_gt; k_extra "r"; k_extra "r"; exact rfl) | (apply rv_eq; k_extra "r"; k_extra "r"; exact rfl)
  k_with "rv" => first | k_extra "rb" | (apply rv_or; k_extra "rb"; k_extra "rb") | (apply r_callB; assumption; k_extra "rv"; k_is; k_extra "ra"; k_extra "pa"; exact rfl; k_extra "saysB"; decide; k_extra "given")
  k_with "rs" => first | (apply rs_setItem; k_extra "r"; k_extra "rv"; k_extra "r"; k_extra "mem"; assumption; (first | assumption | omega); (first | assumption | omega); (first | assumption | omega); exact rfl; (intro _; k_extra "upd"); intro _ _) | (apply rs_iorItem; k_extra "rv"; k_extra "r"; k_extra "mem"; k_extra "r"; assumption; (first | assumption | omega); (first | assumption | omega); (first | assumption | omega); (intro _; k_extra "upd"); intro _ _) | (apply rs_appendV; k_extra "rv"; k_extra "mem"; k_extra "rv"; k_extra "pa"; exact rfl; exact rfl; exact rfl; k_extra "size"; k_extra "upd")
  k_with "says" => (intro _; exact inner_squares_says f r (fullOf f r) (fmOf f r) (rmOf f r) _ _ _ hi0 hi8 hf1 hf5 hr1' hr5 (fm_len _ _) (rm_len _ _) rfl)
  k_with "saysB" => (intro _; exact is_growing_says _ _ hi0 hi8 rfl)
  k_with "given" => (intro _ _ zzN; exact masks_of zzN (by k_extra "mem") (by k_extra "mem") (by with_reducible assumption) (by with_reducible assumption) (by with_reducible assumption) (by with_reducible assumption) (by with_reducible assumption) (by k_extra "mem") (by with_reducible assumption) (by k_extra "mem") (by with_reducible assumption))
  exact True.intro
def RaysJ (f r sz : Nat) (x dx aRays aF aR aK : Addr) (es1 : List DictEntry) (n1 nF nR : Nat) (vF vR : List Value) (rest : List (Addr × Obj)) (i : Nat) (m : Str → Option Value) (nx : List (Addr × Obj)) : Prop :=
  ∃ kv ks kn rs rn new, nx = (x, instObj 53 dx) :: (dx, dictOf es1 n1) :: (aRays, listOf (List.map Value.ref rs).toArray rn) :: (aF, listOf (List.toArray vF) nF) :: (aR, listOf (List.toArray vR) nR) :: (aK, listOf (List.toArray kv) kn) :: (new ++ rest) ∧
    IntsAre kv ks ∧ ks.length = sz ∧ rs.length = i ∧ (∀ j : Nat, j < i → ∃ vs k, (rs.getD j 0, listOf (List.toArray vs) k) ∈ new ∧ IntsAre vs (rayOf f r sz j)) ∧
    OwnOff new [x, dx, aRays, aF, aR, aK] ∧ TbOff new rest ∧ m (Str.ofString "geo") = some (.ref x)
theorem own_cons {d : Addr} {l : List (Addr × Obj)} {adr : List Addr} (h : OwnOff l [d]) (k : OwnOff l adr) : OwnOff l (d :: adr) := fun p hp b hb => by
  rcases List.mem_cons.mp hb with rfl | hb
  · exact h p hp _ (.head _)
  · exact k p hp b hb
theorem own_app {l l' : List (Addr × Obj)} {adr : List Addr} (h : OwnOff l adr) (k : OwnOff l' adr) : OwnOff (l ++ l') adr := fun p hp => (List.mem_append.mp hp).elim (h p) (k p)
theorem tboff_own {own nx : List (Addr × Obj)} (h : TbOff own nx) : OwnOff own (nx.map (·.1)) := fun p hp b hb => by
  obtain ⟨q, hq, rfl⟩ := List.mem_map.mp hb
  exact h p hp q hq
theorem own_sub {own : List (Addr × Obj)} {adr adr' : List Addr} (h : OwnOff own adr) (hs : ∀ b ∈ adr', b ∈ adr) : OwnOff own adr' := fun p hp b hb => h p hp b (hs b hb)
theorem six_in {a b c d e f : Addr} {l : List Addr} : ∀ z ∈ [a, b, c, d, e, f], z ∈ a :: b :: c :: d :: e :: f :: l := by
  intro z hz
  simp only [List.mem_cons, List.not_mem_nil, or_false] at hz ⊢
  rcases hz with h | h | h | h | h | h <;> simp [h]
theorem rayFold_len (inner delta : Int) : ∀ (ks l : List Int), (ks.foldl (rayStep inner delta) l).length = l.length := by
  intro ks
  induction ks with
  | nil => intro l; rfl
  | cons k r ih =>
    intro l
    rw [List.foldl_cons, ih]
    unfold rayStep
    split
    · rfl
    · rw [List.length_set]
theorem getD_left {rs : List Addr} {y : Addr} {j : Nat} (h : j < rs.length) : (rs ++ [y]).getD j 0 = rs.getD j 0 := by
  rw [List.getD_eq_getElem?_getD, List.getD_eq_getElem?_getD, List.getElem?_append_left h]
theorem getD_right {rs : List Addr} {y : Addr} : (rs ++ [y]).getD rs.length 0 = y := by
  rw [List.getD_eq_getElem?_getD, List.getElem?_append_right (Nat.le_refl _)]
  simp
theorem rays_end {R : Flow → Fra → Led → Prop} {m' : Fra} {f r sz i : Nat} {x dx aRays aF aR aK aY : Addr} {es1 : List DictEntry} {nn nF nR n1 kn kn2 rn : Nat} {vF vR us kv kv2 : List Value} {ls ks2 : List Int} {rs : List Addr} {new rest own : Led}
    (ho : TbOff own ((x, instObj 53 dx) :: (dx, dictOf es1 nn) :: (aRays, listOf (List.map Value.ref rs).toArray rn) :: (aF, listOf (List.toArray vF) nF) :: (aR, listOf (List.toArray vR) nR) :: (aK, listOf (List.toArray kv) kn) :: (new ++ rest)))
    (hy : ∀ p ∈ new ++ rest ++ own, p.1 ≠ aY) (hn1 : OwnOff new [x, dx, aRays, aF, aR, aK]) (hn2 : TbOff new rest) (hr1 : rs.length = i) (hr2 : ∀ j : Nat, j < i → ∃ vs k, (rs.getD j 0, listOf (List.toArray vs) k) ∈ new ∧ IntsAre vs (rayOf f r sz j))
    (hF1 : IntsAre us ls) (hls : ls = rayOf f r sz i) (hF2 : IntsAre kv2 ks2) (hP2 : ks2.length = sz) (y1 : @Ne Nat aY x) (y2 : @Ne Nat aY dx) (y3 : @Ne Nat aY aRays) (y4 : @Ne Nat aY aF) (y5 : @Ne Nat aY aR) (y6 : @Ne Nat aY aK) (hm' : m' (Str.ofString "geo") = some (.ref x)) :
    GrowEnd (RaysJ f r sz x dx aRays aF aR aK es1 nn nF nR vF vR rest (i + 1)) own R .next m' ((aY, listOf (List.toArray us) n1) :: (x, instObj 53 dx) :: (dx, dictOf es1 nn) :: (aRays, listOf (List.toArray (List.map Value.ref rs ++ [.ref aY])) (rn + 1)) :: (aF, listOf (List.toArray vF) nF) :: (aR, listOf (List.toArray vR) nR) :: (aK, listOf (List.toArray kv2) kn2) :: (new ++ rest ++ own)) := by
  have eR : List.map Value.ref rs ++ [.ref aY] = List.map Value.ref (rs ++ [aY]) := by rw [List.map_append]; rfl
  rw [eR]
  refine ⟨(x, instObj 53 dx) :: (dx, dictOf es1 nn) :: (aRays, listOf (List.map Value.ref (rs ++ [aY])).toArray (rn + 1)) :: (aF, listOf (List.toArray vF) nF) :: (aR, listOf (List.toArray vR) nR) :: (aK, listOf (List.toArray kv2) kn2) :: (((aY, listOf (List.toArray us) n1) :: new) ++ rest), ?_, ?_, ?_, kv2, ks2, kn2, rs ++ [aY], rn + 1, (aY, listOf (List.toArray us) n1) :: new, rfl, hF2, hP2, by simp [hr1], ?_, ?_, ?_, hm'⟩
  · intro p hp
    simp only [List.cons_append, List.mem_cons, List.mem_append] at hp ⊢
    rcases hp with h | h | h | h | h | h | h | h | h <;> simp [h]
  · intro p hp
    simp only [List.mem_cons, List.mem_append]
    simp [hp]
  · intro p hp q hq
    simp only [List.cons_append, List.mem_cons, List.mem_append] at hq
    rcases hq with h | h | h | h | h | h | h | h | h
    · rw [h]; exact ho p hp _ (.head _)
    · rw [h]; exact ho p hp _ (.tail _ (.head _))
    · rw [h]; exact ho p hp (aRays, listOf (List.map Value.ref rs).toArray rn) (.tail _ (.tail _ (.head _)))
    · rw [h]; exact ho p hp _ (.tail _ (.tail _ (.tail _ (.head _))))
    · rw [h]; exact ho p hp _ (.tail _ (.tail _ (.tail _ (.tail _ (.head _)))))
    · rw [h]; exact ho p hp (aK, listOf (List.toArray kv) kn) (.tail _ (.tail _ (.tail _ (.tail _ (.tail _ (.head _))))))
    · rw [h]; exact hy p (List.mem_append_right _ hp)
    · exact ho p hp q (.tail _ (.tail _ (.tail _ (.tail _ (.tail _ (.tail _ (List.mem_append_left _ h)))))))
    · exact ho p hp q (.tail _ (.tail _ (.tail _ (.tail _ (.tail _ (.tail _ (List.mem_append_right _ h)))))))
  · intro j hj
    by_cases h : j < i
    · obtain ⟨vs, k, h1, h2⟩ := hr2 j h
      refine ⟨vs, k, ?_, h2⟩
      rw [getD_left (by omega)]
      exact .tail _ h1
    · have hji : j = i := by omega
      subst hji
      refine ⟨us, n1, ?_, ?_⟩
      · rw [← hr1, getD_right]; exact .head _
      · rw [← hls]; exact hF1
  · intro p hp b hb e
    rcases List.mem_cons.mp hp with rfl | hp
    · simp only [List.mem_cons, List.not_mem_nil, or_false] at hb
      rcases hb with h | h | h | h | h | h
      · exact y1 (e.trans h)
      · exact y2 (e.trans h)
      · exact y3 (e.trans h)
      · exact y4 (e.trans h)
      · exact y5 (e.trans h)
      · exact y6 (e.trans h)
    · exact hn1 p hp b hb e
  · intro p hp q hq e
    rcases List.mem_cons.mp hp with rfl | hp
    · exact hy q (List.mem_append_left _ (List.mem_append_right _ hq)) e.symm
    · exact hn2 p hp q hq e
theorem step_small {d : Int} (h0 : 0 ≤ d) (h8 : d < 8) : -1000 ≤ stepR d ∧ stepR d ≤ 1000 := by
  rcases eight h0 h8 with rfl | rfl | rfl | rfl | rfl | rfl | rfl | rfl <;> decide
theorem own_nil {adr : List Addr} : OwnOff [] adr := fun _ h => nomatch h
theorem tboff_nil {l : List (Addr × Obj)} : TbOff [] l := fun _ h => nomatch h
theorem fr_geo {m₁ : Str → Option Value} {y : Str} {v u : Value} (hm : m₁ (Str.ofString "geo") = some u) : (fun z => if z = y then some v else m₁ z) = fun z => if z = y then some v else if z = Str.ofString "geo" then some u else m₁ z := by
  funext z
  by_cases h1 : z = y
  · simp [h1]
  · simp only [if_neg h1]
    by_cases h2 : z = Str.ofString "geo"
    · rw [if_pos h2, h2, hm]
    · rw [if_neg h2]
theorem mil25 {f : Nat} (h : f ≤ 25) : (f : Int) ≤ 1000000 := Int.ofNat_le.mpr (Nat.le_trans h (by decide))
theorem reorder6 {a b c d e f : Addr × Obj} {rest : Led} : ∀ p ∈ b :: c :: d :: e :: f :: a :: ([] ++ rest), p ∈ a :: b :: c :: d :: e :: f :: rest := fun p hp => by
  simp only [List.nil_append, List.mem_cons] at hp ⊢
  rcases hp with h | h | h | h | h | h | h <;> simp [h]
set_option maxHeartbeats 8000000 in
theorem add_rays_does (f r sz : Nat) (hf3 : 3 ≤ f) (hf5 : f ≤ 5) (hr3 : 3 ≤ r) (hr5 : r ≤ 5) (hsz : sz ≤ 25) (hgo : GoalOk f r sz) (x dx aRays aF aR : Addr) (es : List DictEntry) (n nA nF nR : Nat) (vF vR : List Value)
    (iF : IntsAre vF (fmOf f r)) (iR : IntsAre vR (rmOf f r)) (hes : es.length ≤ 800)
    (d1 : @Ne Nat aRays x) (d2 : @Ne Nat aRays dx) (d3 : @Ne Nat aRays aF) (d4 : @Ne Nat aRays aR) (d5 : @Ne Nat x dx) (d6 : @Ne Nat x aF) (d7 : @Ne Nat x aR) (d8 : @Ne Nat dx aF) (d9 : @Ne Nat dx aR) (tf tr ts tu : Tok)
    (e1 : getL "files" es = some (some (.int f tf))) (e2 : getL "ranks" es = some (some (.int r tr))) (e3 : getL "file_masks" es = some (some (.ref aF))) (e4 : getL "rank_masks" es = some (some (.ref aR)))
    (e5 : getL "size" es = some (some (.int sz ts))) (e6 : getL "full" es = some (some (.int (fullOf f r) tu))) (e7 : getL "rays" es = some (some (.ref aRays))) (e8 : (getL "king" es).isSome = true) :
    PySem.Challenge.rw_tg0013_01.foot = 6 → DoesR 85 3 [(x, instObj 53 dx), (dx, dictOf es n), (aRays, listOf (List.toArray []) nA), (aF, listOf (List.toArray vF) nF), (aR, listOf (List.toArray vR) nR)] [] [.ref x] (RaysW f r sz x dx aRays aF aR es nF nR vF vR) := by
  unfold DoesR DoesW
  k_fill
  intro _ w
  show DoesW w _ _ _ _ _ _
  refine' does_rel (n := 2) ?k6 ?k7 ?k9 ?kB ?c2 ?c3 ?c4 ?c5 ?_
  case k6 => k_is
  case k7 => k_is
  case k9 => intro _; exact BindsTo.of_eq rfl
  case kB => exact locs rfl
  case c2 => exact rfl
  case c3 => exact rfl
  case c4 => exact rfl
  case c5 => decide
  intro A g L rest c H hoff _
  have hes9 : es.length ≤ 900 := Nat.le_trans hes (by decide)
  have hsz6 := mil25 hsz
  have hszm := Nat.le_trans hsz (show 25 ≤ 1000 by decide)
  have hsz7 : sz ≤ 1000000 := Nat.le_trans hsz (by decide)
  have hf1 : 1 ≤ f := Nat.le_trans (by decide) hf3
  have hr1' : 1 ≤ r := Nat.le_trans (by decide) hr3
  (show RS _ _ _ ((x, _) :: (dx, _) :: (aRays, _) :: (aF, _) :: (aR, _) :: rest) _ _)
  refine' rs_newAttr H (rn_mul r_const pa_const ?ka hszm) ?kb ?kc ?kd ?g1 ?g2 ?g3 ?g4 e8 hes9 rfl ?hh
  case ka => intro _ _; k_extra "r"
  case kb => intro _ _; k_extra "rv"
  case kc => k_extra "mem"
  case kd => k_extra "mem"
  case g1 => k_is
  case g2 => k_is
  case g3 => k_is
  case g4 => k_is
  case' hh => intro aK obK hsh tkK hK fK
  have k1 : @Ne Nat aK x := (fK _ (.head _)).symm
  have k2 : @Ne Nat aK dx := (fK _ (.tail _ (.head _))).symm
  have k3 : @Ne Nat aK aRays := (fK _ (.tail _ (.tail _ (.head _)))).symm
  have k4 : @Ne Nat aK aF := (fK _ (.tail _ (.tail _ (.tail _ (.head _))))).symm
  have k5 : @Ne Nat aK aR := (fK _ (.tail _ (.tail _ (.tail _ (.tail _ (.head _)))))).symm
  have hoK : OwnOff rest [x, dx, aRays, aF, aR, aK] := fun p hp b hb => by
    rcases List.mem_append.mp (show b ∈ [x, dx, aRays, aF, aR] ++ [aK] from hb) with hb | hb
    · exact hoff p hp b hb
    · rw [List.mem_singleton.mp hb]; exact fK p (.tail _ (.tail _ (.tail _ (.tail _ (.tail _ hp)))))
  refine ⟨?U, ?_⟩
  case U => k_extra "upd"
  obtain ⟨kv0, kn0, rfl, hk0⟩ := hK
  have b1 := getL_put_other (hsh := hsh) (tk := tkK) (v := .ref aK) (str_apart (a := "king") (by decide)) e1
  have b2 := getL_put_other (hsh := hsh) (tk := tkK) (v := .ref aK) (str_apart (a := "king") (by decide)) e2
  have b3 := getL_put_other (hsh := hsh) (tk := tkK) (v := .ref aK) (str_apart (a := "king") (by decide)) e3
  have b4 := getL_put_other (hsh := hsh) (tk := tkK) (v := .ref aK) (str_apart (a := "king") (by decide)) e4
  have b5 := getL_put_other (hsh := hsh) (tk := tkK) (v := .ref aK) (str_apart (a := "king") (by decide)) e5
  have b6 := getL_put_other (hsh := hsh) (tk := tkK) (v := .ref aK) (str_apart (a := "king") (by decide)) e6
  have b7 := getL_put_other (hsh := hsh) (tk := tkK) (v := .ref aK) (str_apart (a := "king") (by decide)) e7
  have b8 : getL "king" (putL "king" hsh (.str "king" tkK) (.ref aK) es) = some (some (.ref aK)) := getL_put_same _
  generalize hE1 : putL "king" hsh (.str "king" tkK) (.ref aK) es = es1 at b1 b2 b3 b4 b5 b6 b7 b8 ⊢
  generalize hN1 : putN "king" es n = n1 at b1 ⊢
  clear e1 e2 e3 e4 e5 e6 e7 e8
  refine rs_weak (news' := (x, instObj 53 dx) :: (dx, dictOf es1 n1) :: (aRays, listOf (List.toArray []) nA) :: (aF, listOf (List.toArray vF) nF) :: (aR, listOf (List.toArray vR) nR) :: (aK, listOf (List.toArray kv0) kn0) :: ([] ++ rest)) (fun p hp => reorder6 p hp) ?_
  refine' rs_grow (N := 8) (RaysJ f r sz x dx aRays aF aR aK es1 n1 nF nR vF vR rest) H r_const (by decide) pa_const ?qg ?qr ?qx ?qs ⟨_, _, _, [], nA, [], rfl, hk0, List.length_replicate, rfl, fun j hj => absurd hj (Nat.not_lt_zero _), own_nil, tboff_nil, rfl⟩ ?turn ?done
  case qg => k_is
  case qr => exact rfl
  case qx => exact rfl
  case qs => intro _; exact rfl
  case turn =>
    intro i t m₁ nx own hi ho hJ m'
    obtain ⟨kv, ks, kn, rs, rn, new, rfl, hk1, hk2, hr1, hr2, hn1, hn2, hm⟩ := hJ
    refine rs_fra (fr_geo hm) ?_
    have hi0 : (0 : Int) ≤ (i : Int) := Int.natCast_nonneg i
    have hi8 : (i : Int) < 8 := Int.ofNat_lt.mpr hi
    have hs0 := (step_small hi0 hi8).1
    have hs1 := (step_small hi0 hi8).2
    have hrs : (List.map Value.ref rs).length ≤ 1000 := by rw [List.length_map, hr1]; exact Nat.le_trans (Nat.le_of_lt hi) (by decide)
    have htl : OwnOff (new ++ rest ++ own) [x, dx, aRays, aF, aR, aK] := own_app (own_app hn1 hoK) (own_sub (tboff_own ho) six_in)
    generalize hRR : GrowEnd _ _ _ = RR
    (show RS _ _ _ ((x, _) :: (dx, _) :: (aRays, _) :: (aF, _) :: (aR, _) :: (aK, _) :: (new ++ rest ++ own)) _ _)
    generalize htle : new ++ rest ++ own = tl at htl ⊢
    repeat' (k_extra "rs")
    refine' rs_new H (rn_mul r_const pa_const ?ka2 hszm) rfl rfl ?hh2
    case ka2 => intro _ _; k_extra "r"
    case' hh2 => intro aY obY hY fY mY
    obtain ⟨us0, nY, rfl, iY⟩ := hY
    have y1 : @Ne Nat aY x := (fY _ (.head _)).symm
    have y2 : @Ne Nat aY dx := (fY _ (.tail _ (.head _))).symm
    have y3 : @Ne Nat aY aRays := (fY _ (.tail _ (.tail _ (.head _)))).symm
    have y4 : @Ne Nat aY aF := (fY _ (.tail _ (.tail _ (.tail _ (.head _))))).symm
    have y5 : @Ne Nat aY aR := (fY _ (.tail _ (.tail _ (.tail _ (.tail _ (.head _)))))).symm
    have y6 : @Ne Nat aY aK := (fY _ (.tail _ (.tail _ (.tail _ (.tail _ (.tail _ (.head _))))))).symm
    have fY2 : ∀ p ∈ tl, p.1 ≠ aY := fun p hp => fY p (.tail _ (.tail _ (.tail _ (.tail _ (.tail _ (.tail _ hp))))))
    clear fY
    refine' rs_order (B := growB i) (N := sz) H rfl ?w1 rfl rfl rfl rfl ?o1 pa_attr ?o2 ?o3 ?o4 ?o5 pa_bin pa_neg pa_neg ?o6
    case w1 => k_is
    case o1 => k_extra "r"
    case o2 => intro _ _ _; k_extra "rc"
    case o3 => intro _ _ _; k_extra "r"
    case o4 => intro _ _ _; exact r_neg r_const
    case o5 => intro _ _ _; exact r_neg r_const
    case' o6 => intro q ob hOb mQ
    refine' rs_forName (σ := List Value × List Int × Nat × List Value × List Int × Nat) (growB i) (fun d => (aY, listOf (List.toArray d.1) d.2.2.1) :: (x, instObj 53 dx) :: (dx, dictOf es1 n1) :: (aRays, listOf (List.map Value.ref rs).toArray rn) :: (aF, listOf (List.toArray vF) nF) :: (aR, listOf (List.toArray vR) nR) :: (aK, listOf (List.toArray d.2.2.2.1) d.2.2.2.2.2) :: tl) (fun _ => []) (fun d => IntsAre d.1 d.2.1 ∧ IntsAre d.2.2.2.1 d.2.2.2.2.1) ["goal"] (fun pre d => d.2.1 = pre.foldl (rayStep (innerFR f r i) (deltaOf f i)) (List.replicate sz 0) ∧ d.2.2.2.2.1.length = sz) (us0, List.replicate sz 0, nY, kv, ks, kn) H ?wa hOb hsz7 ?wx ⟨iY, hk1⟩ (List.forall_mem_nil _) ⟨rfl, hk2⟩ ?turn2 ?done2 ?ws
    case wa => k_extra "rv"
    case wx => exact rfl
    case ws => intro _; exact rfl
    case turn2 =>
      intro d pre j t' u own2 hj0 hj1 ho2 hF hP
      obtain ⟨us, ls, n2, kv2, ks2, kn2⟩ := d
      obtain ⟨hP1, hP2⟩ := hP
      obtain ⟨hF1, hF2⟩ := hF
      dsimp only at hF1 hF2 hP1 hP2 ⊢
      have hll : ls.length = sz := by rw [hP1, rayFold_len, List.length_replicate]
      have hgl := hgo i j hi0 hi8 hj0 hj1
      have hj2 : j < (ls.length : Int) := hll ▸ hj1
      have hj3 : j < (ks2.length : Int) := hP2 ▸ hj1
      have hj4 : j < 1000 := Int.lt_of_lt_of_le hj1 (Int.ofNat_le.mpr hszm)
      (show RS _ _ _ ((aY, _) :: (x, _) :: (dx, _) :: (aRays, _) :: (aF, _) :: (aR, _) :: (aK, _) :: (tl ++ own2)) _ _)
      generalize hR2 : TurnEnd _ _ _ _ _ _ _ _ _ _ _ = R2
      apply rs_if
      k_extra "rc"
      · intro hc
        obtain ⟨hg0, hg1⟩ := hgl hc
        unfold deltaOf at hg0 hg1
        have hg2 : j + (stepR i * (f : Int) + stepF i) ≤ 1000000 := Int.le_trans (Int.le_of_lt hg1) hsz6
        have hg3 : j + (stepR i * (f : Int) + stepF i) < (ls.length : Int) := hll ▸ hg1
        have h1n : (1 : Int).natAbs < 2 ^ 64 := by decide
        have hg5 : j + (stepR i * (f : Int) + stepF i) < 2 ^ 63 := Int.lt_of_lt_of_le hg1 (Int.le_trans hsz6 (by decide))
        have hg4 : j + (stepR i * (f : Int) + stepF i) < 1000 := Int.lt_of_lt_of_le hg1 (Int.ofNat_le.mpr hszm)
        repeat' (k_extra "rs")
        subst hR2
        exact ⟨(us.set j.toNat (.int _ _), ls.set j.toNat _, n2, kv2.set j.toNat (.int _ _), ks2.set j.toNat _, kn2), subL [_, _, _, _, _, _, _] tl own2, ownL [_, _, _, _, _, _, _] tl own2, rfl, ⟨by assumption, by assumption⟩, List.forall_mem_nil _, (by intro z z1 z2 z3; k_extra "frame end"), by rw [List.foldl_append, ← hP1]; exact (if_neg hc).symm, by rw [List.length_set]; exact hP2⟩
      · intro hc
        have hc0 := Decidable.of_not_not hc
        repeat' (k_extra "rs")
        subst hR2
        exact ⟨(us, ls, n2, kv2, ks2, kn2), subL [_, _, _, _, _, _, _] tl own2, ownL [_, _, _, _, _, _, _] tl own2, rfl, ⟨hF1, hF2⟩, List.forall_mem_nil _, (by intro z z1 z2 z3; k_extra "frame end"), by rw [List.foldl_append, ← hP1]; exact (if_pos hc0).symm, hP2⟩
    case done2 =>
      intro d u hF hP
      obtain ⟨us, ls, n2, kv2, ks2, kn2⟩ := d
      obtain ⟨hP1, hP2⟩ := hP
      obtain ⟨hF1, hF2⟩ := hF
      dsimp only at hF1 hF2 hP1 hP2 ⊢
      subst hRR
      subst htle
      repeat' (k_extra "rs")
      exact rays_end ho fY2 hn1 hn2 hr1 hr2 hF1 hP1 hF2 hP2 y1 y2 y3 y4 y5 y6 rfl
  case done =>
    intro m₁ nx hJ
    obtain ⟨kv, ks, kn, rs, rn, new, rfl, hk1, hk2, hr1, hr2, hn1, hn2, hm⟩ := hJ
    subst hE1
    exact rs_nil ⟨rfl, _, _, _, aK, kv, ks, kn, rs, rn, new, rfl, hk1, hk2, hr1, hr2, hn1, (fun p hp b hb => hoK p hp b (by rw [List.mem_singleton.mp hb]; exact .tail _ (.tail _ (.tail _ (.tail _ (.tail _ (.head _))))))), hn2, k1, k2, k3, k4, k5⟩
theorem rel_words_12 : True := by
  k_with_none
  k_with "evat" => first | with_reducible exact at_files | with_reducible exact at_ranks | with_reducible exact at_size | with_reducible exact at_full | with_reducible exact at_rays | with_reducible exact at_king | with_reducible exact at_knight | with_reducible exact at_pawn | with_reducible exact at_file_masks | with_reducible exact at_rank_masks | with_reducible exact at_castles | with_reducible exact at_rights_lost | with_reducible exact at_has_castling
  k_with "evnth" => first | exact rfl | exact nth_ref (by omega)
  k_with "rv" => first | (apply r_name; assumption; exact rfl; exact rfl; exact rfl) | (apply r_glob; assumption; k_is; exact rfl; exact rfl) | (apply r_attrG; assumption; k_extra "rv"; assumption; assumption; k_extra "evat"; assumption; exact rfl) | (apply r_attrN; assumption; k_extra "rv"; k_mem; k_mem; k_extra "evat"; assumption; exact rfl) | (apply r_topItem; assumption; k_extra "rv"; k_extra "r"; k_is; decide; decide; exact rfl; exact rfl; (first | exact pi_name | exact pi_const | exact pi_bin)) | (apply r_itemVG; k_extra "rv"; k_extra "r"; assumption; (first | assumption | omega); (first | assumption | omega); k_extra "evnth"; (first | exact pi_name | exact pi_const | exact pi_bin)) | (apply r_itemVN; k_extra "rv"; k_extra "r"; k_mem; (first | assumption | omega); (first | assumption | omega); k_extra "evnth"; (first | exact pi_name | exact pi_const | exact pi_bin))
  k_with "r" => first | exact r_const | (apply r_of; k_extra "rv"; exact rfl) | (apply r_add; k_extra "r"; k_extra "r") | (apply r_sub; k_extra "r"; k_extra "r") | (apply r_and; k_extra "r"; k_extra "r") | (apply r_or; k_extra "r"; k_extra "r") | (apply r_shr; k_extra "r"; k_extra "r"; (first | assumption | omega)) | (apply r_shl; k_extra "r"; k_extra "r"; (first | assumption | omega); (first | assumption | omega); (first | assumption | omega)) | (apply r_mul; k_extra "r"; k_extra "r"; (first | assumption | omega); (first | assumption | omega)) | (apply r_mod; k_extra "r"; k_extra "r"; (first | assumption | omega)) | (apply r_div; k_extra "r"; k_extra "r"; (first | assumption | omega); (first | assumption | omega)) | (apply r_inv; k_extra "r") | (apply r_itemG; k_extra "rv"; k_extra "r"; assumption; assumption; (first | assumption | omega); (first | assumption | omega); (first | assumption | omega); (first | exact pi_name | exact pi_const | exact pi_bin)) | (apply r_itemN; k_extra "rv"; k_extra "r"; k_mem; assumption; (first | assumption | omega); (first | assumption | omega); (first | assumption | omega); (first | exact pi_name | exact pi_const | exact pi_bin))
  k_with "rc" => first | (apply rc_eq; k_extra "r"; k_extra "r"; exact rfl) | (apply rc_ne; k_extra "r"; k_extra "r"; exact rfl) | (apply rc_lt; k_extra "r"; k_extra "r"; exact rfl) | (apply rc_gt; k_extra "r"; k_extra "r"; exact rfl) | (apply rc_ge; k_extra "r"; k_extra "r"; exact rfl)
  k_with "rs" => first | (apply rs_set; assumption; k_extra "r"; exact rfl; exact rfl; intro _ _) | (apply rs_setV; assumption; k_extra "rv"; exact rfl; exact rfl; intro _) | (apply rs_ior; assumption; exact rfl; k_extra "r"; exact rfl; intro _ _) | (apply rs_iadd; assumption; exact rfl; k_extra "r"; exact rfl; intro _ _) | (apply rs_ifior_gt; assumption; exact rfl; k_extra "r"; k_extra "r"; exact rfl; (intro _; k_extra "r"); exact rfl; intro _ _) | (apply rs_ifior_lt; assumption; exact rfl; k_extra "r"; k_extra "r"; exact rfl; (intro _; k_extra "r"); exact rfl; intro _ _) | (apply rs_if; k_extra "rc"; all_goals intro _) | (apply rs_ret; k_extra "r"; intro _) | (apply rs_retV; k_extra "rv") | (apply rs_nil; (try (show RS _ _ _ _ _ _)))
  k_with "ra" => first | exact ra_nil | (apply ra_val; k_extra "rv"; k_extra "ra"; (first | exact pa_name | exact pa_const | exact pa_bin | exact pa_attr | exact pa_sub | exact pa_call)) | (apply ra_int; k_extra "r"; k_extra "ra"; (first | exact pa_name | exact pa_const | exact pa_bin | exact pa_attr | exact pa_sub | exact pa_call))
  k_with "r" => (apply r_callI; assumption; k_extra "rv"; k_is; k_extra "ra"; (first | exact pa_name | exact pa_const | exact pa_bin | exact pa_attr | exact pa_sub | exact pa_call); exact rfl; k_extra "says"; decide; k_extra "given")
  k_with "rv" => exact rv_bool
  k_with "rc" => (apply rc_and; k_extra "rc"; (intro _; k_extra "rc"))
  k_with "given" => first | (intro _ _ _; exact True.intro) | (intro _ zzF _; exact GeoH.keeps (by assumption) (Fr.keep zzF))
  k_with "frame end" => repeat (first | exact rfl | refine skip_ne (by with_reducible assumption) ?_ | refine skip_in (by with_reducible assumption) (by repeat (first | exact List.Mem.head _ | refine List.Mem.tail _ ?_)) ?_ | refine skip_b (by with_reducible assumption) ?_)
  exact True.intro
theorem led_words_12 : True := by
  k_with "in" => repeat (first | exact List.Mem.head _ | refine List.Mem.tail _ ?_)
  k_with "mem" => first | (with_reducible assumption) | (with_reducible exact List.mem_cons_self) | ((with_reducible refine List.mem_append_left _ ?_); k_extra "mem") | ((with_reducible refine List.mem_append_right _ ?_); k_extra "mem") | ((with_reducible refine List.mem_cons_of_mem _ ?_); k_extra "mem")
  k_with "k_mem" => k_extra "mem"
  k_with "ne" => (refine neN ?_; first | (with_reducible assumption) | (refine Ne.symm ?_; with_reducible assumption))
  k_with "all" => first | exact List.forall_mem_nil _ | (with_reducible assumption) | ((with_reducible refine List.forall_mem_cons.mpr ⟨?_, ?_⟩); k_extra "ne"; k_extra "all") | ((with_reducible refine List.forall_mem_append.mpr ⟨?_, ?_⟩); k_extra "all"; k_extra "all") | (intro zzp zzhp; refine off_at (by assumption) zzhp ?_; k_extra "in")
  k_with "upd" => first | ((with_reducible apply Upd.head); k_extra "all") | ((with_reducible apply Upd.tail); k_extra "ne"; k_extra "upd")
  k_with "size" => first | (with_reducible assumption) | exact le2000 (by with_reducible assumption) | omega
  k_with "pa" => first | exact pa_name | exact pa_const | exact pa_bin | exact pa_attr | exact pa_sub | exact pa_call | exact pa_neg
  k_with "r" => (apply r_neg; k_extra "r")
  k_with "rs" => (apply rs_append; k_extra "rv"; k_extra "mem"; k_extra "r"; k_extra "pa"; exact rfl; exact rfl; exact rfl; k_extra "size"; (intro _; k_extra "upd"); intro _)
  k_with "r" => first | (apply r_stepF; assumption; k_extra "r"; (first | assumption | omega); (first | assumption | omega); exact rfl) | (apply r_stepR; assumption; k_extra "r"; (first | assumption | omega); (first | assumption | omega); exact rfl)
  k_with "rc" => first | (apply rc_int; k_extra "r"; exact rfl) | (apply rc_not; k_extra "rc") | (apply rc_bool; k_extra "rv"; exact rfl)
  k_with "rb" => first | (apply rv_gt; k_extra "r"; k_extra "r"; exact rfl) | (apply rv_eq; k_extra "r"; k_extra "r"; exact rfl)
  k_with "rv" => first | k_extra "rb" | (apply rv_or; k_extra "rb"; k_extra "rb") | (apply r_callB; assumption; k_extra "rv"; k_is; k_extra "ra"; k_extra "pa"; exact rfl; k_extra "saysB"; decide; k_extra "given")
  k_with "rs" => first | (apply rs_setItem; k_extra "r"; k_extra "rv"; k_extra "r"; k_extra "mem"; assumption; (first | assumption | omega); (first | assumption | omega); (first | assumption | omega); exact rfl; (intro _; k_extra "upd"); intro _ _) | (apply rs_iorItem; k_extra "rv"; k_extra "r"; k_extra "mem"; k_extra "r"; assumption; (first | assumption | omega); (first | assumption | omega); (first | assumption | omega); (intro _; k_extra "upd"); intro _ _) | (apply rs_appendV; k_extra "rv"; k_extra "mem"; k_extra "rv"; k_extra "pa"; exact rfl; exact rfl; exact rfl; k_extra "size"; k_extra "upd")
  exact True.intro
def PawnsW (p0 p1 : Addr) (rest : List (Addr × Obj)) (v : Value) (news' : List (Addr × Obj)) : Prop :=
  v = .none ∧ ∃ u0 n0 u1 n1, news' = (p0, listOf (List.toArray u0) n0) :: (p1, listOf (List.toArray u1) n1) :: rest
set_option maxHeartbeats 8000000 in
theorem add_pawns_does (sz : Nat) (hsz : sz ≤ 25) (x dx aP p0 p1 aK aRays : Addr) (r0 r1 r2 r3 r4 r5 r6 r7 : Addr) (es : List DictEntry) (n nP m0 m1 nK nr i4 i5 i6 i7 : Nat) (kv v4 v5 v6 v7 : List Value) (ks l4 l5 l6 l7 : List Int)
    (jK : IntsAre kv ks) (j4 : IntsAre v4 l4) (j5 : IntsAre v5 l5) (j6 : IntsAre v6 l6) (j7 : IntsAre v7 l7) (gK : ks.length = sz) (g4 : l4.length = sz) (g5 : l5.length = sz) (g6 : l6.length = sz) (g7 : l7.length = sz) (d1 : @Ne Nat p0 p1) (ts : Tok)
    (e1 : getL "size" es = some (some (.int sz ts))) (e2 : getL "pawn" es = some (some (.ref aP))) (e3 : getL "king" es = some (some (.ref aK))) (e4 : getL "rays" es = some (some (.ref aRays))) :
    PySem.Challenge.rw_tg0013_01.foot = 6 → DoesR 92 1 [(p0, listOf (List.toArray []) m0), (p1, listOf (List.toArray []) m1)]
      [(x, instObj 53 dx), (dx, dictOf es n), (aP, listOf (List.toArray [.ref p0, .ref p1]) nP), (aK, listOf (List.toArray kv) nK), (aRays, listOf (List.toArray [.ref r0, .ref r1, .ref r2, .ref r3, .ref r4, .ref r5, .ref r6, .ref r7]) nr), (r4, listOf (List.toArray v4) i4), (r5, listOf (List.toArray v5) i5), (r6, listOf (List.toArray v6) i6), (r7, listOf (List.toArray v7) i7)] [.ref x] (PawnsW p0 p1) := by
  unfold DoesR DoesW
  k_fill
  intro _ w
  show DoesW w _ _ _ _ _ _
  refine' does_rel (n := 0) ?k6 ?k7 ?k9 ?kB ?c2 ?c3 ?c4 ?c5 ?_
  case k6 => k_is
  case k7 => k_is
  case k9 => intro _; exact BindsTo.of_eq rfl
  case kB => exact locs rfl
  case c2 => exact rfl
  case c3 => exact rfl
  case c4 => exact rfl
  case c5 => decide
  intro A g L rest c H hoff hro
  have q1 : (x, instObj 53 dx) ∈ rest := hro _ (.head _)
  have q2 : (dx, dictOf es n) ∈ rest := hro _ (.tail _ (.head _))
  have q3 : (aP, listOf (List.toArray [.ref p0, .ref p1]) nP) ∈ rest := hro _ (.tail _ (.tail _ (.head _)))
  have q4 : (aK, listOf (List.toArray kv) nK) ∈ rest := hro _ (.tail _ (.tail _ (.tail _ (.head _))))
  have q5 : (aRays, listOf (List.toArray [.ref r0, .ref r1, .ref r2, .ref r3, .ref r4, .ref r5, .ref r6, .ref r7]) nr) ∈ rest := hro _ (.tail _ (.tail _ (.tail _ (.tail _ (.head _)))))
  have q6 : (r4, listOf (List.toArray v4) i4) ∈ rest := hro _ (.tail _ (.tail _ (.tail _ (.tail _ (.tail _ (.head _))))))
  have q7 : (r5, listOf (List.toArray v5) i5) ∈ rest := hro _ (.tail _ (.tail _ (.tail _ (.tail _ (.tail _ (.tail _ (.head _)))))))
  have q8 : (r6, listOf (List.toArray v6) i6) ∈ rest := hro _ (.tail _ (.tail _ (.tail _ (.tail _ (.tail _ (.tail _ (.tail _ (.head _))))))))
  have q9 : (r7, listOf (List.toArray v7) i7) ∈ rest := hro _ (.tail _ (.tail _ (.tail _ (.tail _ (.tail _ (.tail _ (.tail _ (.tail _ (.head _)))))))))
  clear hro
  have hsz7 : sz ≤ 1000000 := Nat.le_trans hsz (by decide)
  (show RS _ _ _ ((p0, _) :: (p1, _) :: rest) _ _)
  refine' rs_for (σ := List Value × Nat × List Value × Nat) (fun d => (p0, listOf (List.toArray d.1) d.2.1) :: (p1, listOf (List.toArray d.2.2.1) d.2.2.2) :: rest) (fun _ => []) (fun _ => True) [] (fun pre d => d.1.length = pre.length ∧ d.2.2.1.length = pre.length) ([], m0, [], m1) H ?qa hsz7 pa_attr ?qg ?qr ?qx trivial (List.forall_mem_nil _) ⟨rfl, rfl⟩ ?turn ?done ?qs
  case qa => k_extra "r"
  case qg => k_is
  case qr => exact rfl
  case qx => exact rfl
  case qs => intro _; exact rfl
  case turn =>
    intro d pre i t u own hi1 hi2 ho _ hP
    obtain ⟨us, n1, us', n2⟩ := d
    obtain ⟨hP1, hP2⟩ := hP
    dsimp only at hP1 hP2 ⊢
    have hi0 : 0 ≤ i := hi1 ▸ Int.natCast_nonneg _
    have his : i < (sz : Int) := hi1 ▸ Int.ofNat_lt.mpr hi2
    have hiK : i < (ks.length : Int) := gK ▸ his
    have hi4 : i < (l4.length : Int) := g4 ▸ his
    have hi5 : i < (l5.length : Int) := g5 ▸ his
    have hi6 : i < (l6.length : Int) := g6 ▸ his
    have hi7 : i < (l7.length : Int) := g7 ▸ his
    have hi63 : i < 2 ^ 63 := Int.lt_of_lt_of_le his (Int.le_trans (Int.ofNat_le.mpr hsz) (by decide))
    have hl1 : us.length ≤ 1000 := hP1 ▸ (Nat.le_trans (Nat.le_of_lt hi2) (Nat.le_trans hsz (by decide)))
    have hl2 : us'.length ≤ 1000 := hP2 ▸ (Nat.le_trans (Nat.le_of_lt hi2) (Nat.le_trans hsz (by decide)))
    have z4 : (0 : Int) ≤ 4 := by decide
    have z5 : (0 : Int) ≤ 5 := by decide
    have z6 : (0 : Int) ≤ 6 := by decide
    have z7 : (0 : Int) ≤ 7 := by decide
    have z0 : (0 : Int) ≤ 0 := by decide
    have z1 : (0 : Int) ≤ 1 := by decide
    have w4 : (4 : Int) < 2 ^ 63 := by decide
    have w5 : (5 : Int) < 2 ^ 63 := by decide
    have w6 : (6 : Int) < 2 ^ 63 := by decide
    have w7 : (7 : Int) < 2 ^ 63 := by decide
    have w0 : (0 : Int) < 2 ^ 63 := by decide
    have w1 : (1 : Int) < 2 ^ 63 := by decide
    generalize hRR : TurnEnd _ _ _ _ _ _ _ _ _ _ _ = RR
    (show RS _ _ _ ((p0, _) :: (p1, _) :: (rest ++ own)) _ _)
    repeat' (k_extra "rs")
    subst hRR
    exact ⟨(us ++ [_], n1 + 1, us' ++ [_], n2 + 1), subL [_, _] rest own, ownL [_, _] rest own, rfl, trivial, List.forall_mem_nil _, (by intro z z1 z2 z3; k_extra "frame end"), by rw [List.length_append, List.length_append, hP1]; rfl, by rw [List.length_append, List.length_append, hP2]; rfl⟩
  case done =>
    intro d u _ hP
    exact rs_nil ⟨rfl, _, _, _, _, rfl⟩
theorem rel_words_13 : True := by
  k_with_none
  k_with "evat" => first | with_reducible exact at_files | with_reducible exact at_ranks | with_reducible exact at_size | with_reducible exact at_full | with_reducible exact at_rays | with_reducible exact at_king | with_reducible exact at_knight | with_reducible exact at_pawn | with_reducible exact at_file_masks | with_reducible exact at_rank_masks | with_reducible exact at_castles | with_reducible exact at_rights_lost | with_reducible exact at_has_castling
  k_with "evnth" => first | exact rfl | exact nth_ref (by omega)
  k_with "rv" => first | (apply r_name; assumption; exact rfl; exact rfl; exact rfl) | (apply r_glob; assumption; k_is; exact rfl; exact rfl) | (apply r_attrG; assumption; k_extra "rv"; assumption; assumption; k_extra "evat"; assumption; exact rfl) | (apply r_attrN; assumption; k_extra "rv"; k_mem; k_mem; k_extra "evat"; assumption; exact rfl) | (apply r_topItem; assumption; k_extra "rv"; k_extra "r"; k_is; decide; decide; exact rfl; exact rfl; (first | exact pi_name | exact pi_const | exact pi_bin)) | (apply r_itemVG; k_extra "rv"; k_extra "r"; assumption; (first | assumption | omega); (first | assumption | omega); k_extra "evnth"; (first | exact pi_name | exact pi_const | exact pi_bin)) | (apply r_itemVN; k_extra "rv"; k_extra "r"; k_mem; (first | assumption | omega); (first | assumption | omega); k_extra "evnth"; (first | exact pi_name | exact pi_const | exact pi_bin))
  k_with "r" => first | exact r_const | (apply r_of; k_extra "rv"; exact rfl) | (apply r_add; k_extra "r"; k_extra "r") | (apply r_sub; k_extra "r"; k_extra "r") | (apply r_and; k_extra "r"; k_extra "r") | (apply r_or; k_extra "r"; k_extra "r") | (apply r_shr; k_extra "r"; k_extra "r"; (first | assumption | omega)) | (apply r_shl; k_extra "r"; k_extra "r"; (first | assumption | omega); (first | assumption | omega); (first | assumption | omega)) | (apply r_mul; k_extra "r"; k_extra "r"; (first | assumption | omega); (first | assumption | omega)) | (apply r_mod; k_extra "r"; k_extra "r"; (first | assumption | omega)) | (apply r_div; k_extra "r"; k_extra "r"; (first | assumption | omega); (first | assumption | omega)) | (apply r_inv; k_extra "r") | (apply r_itemG; k_extra "rv"; k_extra "r"; assumption; assumption; (first | assumption | omega); (first | assumption | omega); (first | assumption | omega); (first | exact pi_name | exact pi_const | exact pi_bin)) | (apply r_itemN; k_extra "rv"; k_extra "r"; k_mem; assumption; (first | assumption | omega); (first | assumption | omega); (first | assumption | omega); (first | exact pi_name | exact pi_const | exact pi_bin))
  k_with "rc" => first | (apply rc_eq; k_extra "r"; k_extra "r"; exact rfl) | (apply rc_ne; k_extra "r"; k_extra "r"; exact rfl) | (apply rc_lt; k_extra "r"; k_extra "r"; exact rfl) | (apply rc_gt; k_extra "r"; k_extra "r"; exact rfl) | (apply rc_ge; k_extra "r"; k_extra "r"; exact rfl)
  k_with "rs" => first | (apply rs_set; assumption; k_extra "r"; exact rfl; exact rfl; intro _ _) | (apply rs_setV; assumption; k_extra "rv"; exact rfl; exact rfl; intro _) | (apply rs_ior; assumption; exact rfl; k_extra "r"; exact rfl; intro _ _) | (apply rs_iadd; assumption; exact rfl; k_extra "r"; exact rfl; intro _ _) | (apply rs_ifior_gt; assumption; exact rfl; k_extra "r"; k_extra "r"; exact rfl; (intro _; k_extra "r"); exact rfl; intro _ _) | (apply rs_ifior_lt; assumption; exact rfl; k_extra "r"; k_extra "r"; exact rfl; (intro _; k_extra "r"); exact rfl; intro _ _) | (apply rs_if; k_extra "rc"; all_goals intro _) | (apply rs_ret; k_extra "r"; intro _) | (apply rs_retV; k_extra "rv") | (apply rs_nil; (try (show RS _ _ _ _ _ _)))
  k_with "ra" => first | exact ra_nil | (apply ra_val; k_extra "rv"; k_extra "ra"; (first | exact pa_name | exact pa_const | exact pa_bin | exact pa_attr | exact pa_sub | exact pa_call)) | (apply ra_int; k_extra "r"; k_extra "ra"; (first | exact pa_name | exact pa_const | exact pa_bin | exact pa_attr | exact pa_sub | exact pa_call))
  k_with "r" => (apply r_callI; assumption; k_extra "rv"; k_is; k_extra "ra"; (first | exact pa_name | exact pa_const | exact pa_bin | exact pa_attr | exact pa_sub | exact pa_call); exact rfl; k_extra "says"; decide; k_extra "given")
  k_with "rv" => exact rv_bool
  k_with "rc" => (apply rc_and; k_extra "rc"; (intro _; k_extra "rc"))
  k_with "given" => first | (intro _ _ _; exact True.intro) | (intro _ zzF _; exact GeoH.keeps (by assumption) (Fr.keep zzF))
  k_with "frame end" => repeat (first | exact rfl | refine skip_ne (by with_reducible assumption) ?_ | refine skip_in (by with_reducible assumption) (by repeat (first | exact List.Mem.head _ | refine List.Mem.tail _ ?_)) ?_ | refine skip_b (by with_reducible assumption) ?_)
  exact True.intro
theorem led_words_13 : True := by
  k_with "in" => repeat (first | exact List.Mem.head _ | refine List.Mem.tail _ ?_)
  k_with "mem" => first | (with_reducible assumption) | (with_reducible exact List.mem_cons_self) | ((with_reducible refine List.mem_append_left _ ?_); k_extra "mem") | ((with_reducible refine List.mem_append_right _ ?_); k_extra "mem") | ((with_reducible refine List.mem_cons_of_mem _ ?_); k_extra "mem")
  k_with "k_mem" => k_extra "mem"
  k_with "ne" => (refine neN ?_; first | (with_reducible assumption) | (refine Ne.symm ?_; with_reducible assumption))
  k_with "all" => first | exact List.forall_mem_nil _ | (with_reducible assumption) | ((with_reducible refine List.forall_mem_cons.mpr ⟨?_, ?_⟩); k_extra "ne"; k_extra "all") | ((with_reducible refine List.forall_mem_append.mpr ⟨?_, ?_⟩); k_extra "all"; k_extra "all") | (intro zzp zzhp; refine off_at (by assumption) zzhp ?_; k_extra "in")
  k_with "upd" => first | ((with_reducible apply Upd.head); k_extra "all") | ((with_reducible apply Upd.tail); k_extra "ne"; k_extra "upd")
  k_with "size" => first | (with_reducible assumption) | exact le2000 (by with_reducible assumption) | omega
  k_with "pa" => first | exact pa_name | exact pa_const | exact pa_bin | exact pa_attr | exact pa_sub | exact pa_call | exact pa_neg
  k_with "r" => (apply r_neg; k_extra "r")
  k_with "rs" => (apply rs_append; k_extra "rv"; k_extra "mem"; k_extra "r"; k_extra "pa"; exact rfl; exact rfl; exact rfl; k_extra "size"; (intro _; k_extra "upd"); intro _)
  k_with "r" => first | (apply r_stepF; assumption; k_extra "r"; (first | assumption | omega); (first | assumption | omega); exact rfl) | (apply r_stepR; assumption; k_extra "r"; (first | assumption | omega); (first | assumption | omega); exact rfl)
  k_with "rc" => first | (apply rc_int; k_extra "r"; exact rfl) | (apply rc_not; k_extra "rc") | (apply rc_bool; k_extra "rv"; exact rfl)
  k_with "rb" => first | (apply rv_gt; k_extra "r"; k_extra "r"; exact rfl) | (apply rv_eq; k_extra "r"; k_extra "r"; exact rfl)
  k_with "rv" => first | k_extra "rb" | (apply rv_or; k_extra "rb"; k_extra "rb") | (apply r_callB; assumption; k_extra "rv"; k_is; k_extra "ra"; k_extra "pa"; exact rfl; k_extra "saysB"; decide; k_extra "given")
  k_with "rs" => first | (apply rs_setItem; k_extra "r"; k_extra "rv"; k_extra "r"; k_extra "mem"; assumption; (first | assumption | omega); (first | assumption | omega); (first | assumption | omega); exact rfl; (intro _; k_extra "upd"); intro _ _) | (apply rs_iorItem; k_extra "rv"; k_extra "r"; k_extra "mem"; k_extra "r"; assumption; (first | assumption | omega); (first | assumption | omega); (first | assumption | omega); (intro _; k_extra "upd"); intro _ _) | (apply rs_appendV; k_extra "rv"; k_extra "mem"; k_extra "rv"; k_extra "pa"; exact rfl; exact rfl; exact rfl; k_extra "size"; k_extra "upd")
  exact True.intro
def notFirst (f r : Nat) : Int := Builtin.bitAnd (fullOf f r) (Builtin.bitNot ((fmOf f r).getD (0 : Int).toNat 0))
def notLast (f r : Nat) : Int := Builtin.bitAnd (fullOf f r) (Builtin.bitNot ((fmOf f r).getD ((f : Int) - 1).toNat 0))
def notFirst2 (f r : Nat) : Int := Builtin.bitAnd (notFirst f r) (Builtin.bitNot ((fmOf f r).getD (1 : Int).toNat 0))
def notLast2 (f r : Nat) : Int := Builtin.bitAnd (notLast f r) (Builtin.bitNot ((fmOf f r).getD ((f : Int) - 2).toNat 0))
def nearOf (f r : Nat) (k : Int) : Int := Builtin.bitOr (Builtin.bitAnd (1 * 2 ^ k.toNat * 2 ^ (1 : Int).toNat) (notFirst f r)) (Builtin.bitAnd ((1 * 2 ^ k.toNat : Int).fdiv (2 ^ (1 : Int).toNat)) (notLast f r))
def farOf (f r : Nat) (k : Int) : Int := Builtin.bitOr (Builtin.bitAnd (1 * 2 ^ k.toNat * 2 ^ (2 : Int).toNat) (notFirst2 f r)) (Builtin.bitAnd ((1 * 2 ^ k.toNat : Int).fdiv (2 ^ (2 : Int).toNat)) (notLast2 f r))
def knightOf (f r : Nat) (k : Int) : Int := Builtin.bitAnd (Builtin.bitOr (Builtin.bitOr (Builtin.bitOr (nearOf f r k * 2 ^ (2 * (f : Int)).toNat) ((nearOf f r k).fdiv (2 ^ (2 * (f : Int)).toNat))) (farOf f r k * 2 ^ (f : Int).toNat)) ((farOf f r k).fdiv (2 ^ (f : Int).toNat))) (fullOf f r)
def KnGoal (f r sz : Nat) : Prop := ∀ k : Int, 0 ≤ k → k < sz → (nearOf f r k).natAbs < 2 ^ 64 ∧ (farOf f r k).natAbs < 2 ^ 64
def knightsOf (f r sz : Nat) : List Int := (rangeKs 0 sz).map (knightOf f r)
def KnightsW (aN : Addr) (kn : List Int) (rest : List (Addr × Obj)) (v : Value) (news' : List (Addr × Obj)) : Prop :=
  v = .none ∧ ∃ u n, news' = (aN, listOf (List.toArray u) n) :: rest ∧ IntsAre u kn
theorem pow_small {i : Int} (h0 : 0 ≤ i) (h1 : i < 25) : (1 * 2 ^ i.toNat : Int).natAbs < 2 ^ 64 := by
  obtain ⟨n, rfl⟩ := Int.eq_ofNat_of_zero_le h0
  have h2 : n < 25 := Int.ofNat_lt.mp h1
  rw [Int.one_mul, Int.toNat_natCast, Int.natAbs_pow]
  exact Nat.lt_of_le_of_lt (Nat.pow_le_pow_right (by decide) (Nat.le_of_lt h2)) (by decide)
set_option maxHeartbeats 8000000 in
theorem add_knights_does (f r sz : Nat) (hf3 : 3 ≤ f) (hf5 : f ≤ 5) (hr3 : 3 ≤ r) (hr5 : r ≤ 5) (hsz : sz ≤ 25) (x dx aN aF : Addr) (es : List DictEntry) (n nN nF : Nat) (vF : List Value) (lF : List Int)
    (jF : IntsAre vF (fmOf f r)) (tf ts tu : Tok) (hlF : (fmOf f r).length = f) (hkg : KnGoal f r sz)
    (e1 : getL "size" es = some (some (.int sz ts))) (e2 : getL "files" es = some (some (.int f tf))) (e3 : getL "full" es = some (some (.int (fullOf f r) tu))) (e4 : getL "file_masks" es = some (some (.ref aF))) (e5 : getL "knight" es = some (some (.ref aN))) :
    PySem.Challenge.rw_tg0013_01.foot = 6 → DoesR 99 1 [(aN, listOf (List.toArray []) nN)]
      [(x, instObj 53 dx), (dx, dictOf es n), (aF, listOf (List.toArray vF) nF)] [.ref x] (KnightsW aN (knightsOf f r sz)) := by
  unfold DoesR DoesW
  k_fill
  intro _ w
  show DoesW w _ _ _ _ _ _
  refine' does_rel (n := 0) ?k6 ?k7 ?k9 ?kB ?c2 ?c3 ?c4 ?c5 ?_
  case k6 => k_is
  case k7 => k_is
  case k9 => intro _; exact BindsTo.of_eq rfl
  case kB => exact locs rfl
  case c2 => exact rfl
  case c3 => exact rfl
  case c4 => exact rfl
  case c5 => decide
  intro A g L rest c H hoff hro
  have q1 : (x, instObj 53 dx) ∈ rest := hro _ (.head _)
  have q2 : (dx, dictOf es n) ∈ rest := hro _ (.tail _ (.head _))
  have q3 : (aF, listOf (List.toArray vF) nF) ∈ rest := hro _ (.tail _ (.tail _ (.head _)))
  clear hro
  have hsz7 : sz ≤ 1000000 := Nat.le_trans hsz (by decide)
  have hf0 : (0 : Int) ≤ f := Int.natCast_nonneg f
  have hf6 := milI hf5
  have hfa : (0 : Int) ≤ (f : Int) - 1 := by omega
  have hfb : (0 : Int) ≤ (f : Int) - 2 := by omega
  have hfc : (f : Int) - 1 < ((fmOf f r).length : Int) := by rw [hlF]; omega
  have hfd : (f : Int) - 2 < ((fmOf f r).length : Int) := by rw [hlF]; omega
  have hfe : (f : Int) - 1 < 2 ^ 63 := by omega
  have hff : (f : Int) - 2 < 2 ^ 63 := by omega
  have hfg : (0 : Int) < ((fmOf f r).length : Int) := by rw [hlF]; omega
  have hfh : (1 : Int) < ((fmOf f r).length : Int) := by rw [hlF]; omega
  have z0 : (0 : Int) ≤ 0 := by decide
  have z1 : (0 : Int) ≤ 1 := by decide
  have z2 : (0 : Int) ≤ 2 := by decide
  have v1 : (1 : Int) ≤ 1000000 := by decide
  have v2 : (2 : Int) ≤ 1000000 := by decide
  have w0 : (0 : Int) < 2 ^ 63 := by decide
  have w1 : (1 : Int) < 2 ^ 63 := by decide
  have u1 : (1 : Int).natAbs < 2 ^ 64 := by decide
  have u2 : (-1000 : Int) ≤ 2 := by decide
  have u3 : (2 : Int) ≤ 1000 := by decide
  have u4 : (0 : Int) ≤ 2 * (f : Int) := by omega
  have u5 : 2 * (f : Int) ≤ 1000000 := by omega
  (show RS _ _ _ ((aN, _) :: rest) _ _)
  repeat' (k_extra "rs")
  refine' rs_for (σ := List Value × List Int × Nat) (fun d => (aN, listOf (List.toArray d.1) d.2.2) :: rest) (fun _ => []) (fun d => IntsAre d.1 d.2.1) ["b", "near", "far", "found"] (fun pre d => d.2.1 = pre.map (knightOf f r)) ([], [], nN) H ?qa hsz7 pa_attr ?qg ?qr ?qx .nil (List.forall_mem_nil _) rfl ?turn ?done ?qs
  case qa => k_extra "r"
  case qg => k_is
  case qr => exact rfl
  case qx => exact rfl
  case qs => intro _; exact rfl
  case turn =>
    intro d pre i t u own hi1 hi2 ho hF hP
    obtain ⟨us, ls, n1⟩ := d
    dsimp only at hF hP ⊢
    have hi0 : 0 ≤ i := hi1 ▸ Int.natCast_nonneg _
    have his : i < (sz : Int) := hi1 ▸ Int.ofNat_lt.mpr hi2
    have hi6 : i ≤ 1000000 := Int.le_trans (Int.le_of_lt his) (mil25 hsz)
    have hl1 : us.length ≤ 1000 := by rw [hF.length, hP, List.length_map]; exact Nat.le_trans (Nat.le_of_lt hi2) (Nat.le_trans hsz (by decide))
    have hb := pow_small hi0 (Int.lt_of_lt_of_le his (Int.ofNat_le.mpr hsz))
    obtain ⟨hg0, hg1⟩ := hkg i hi0 his
    unfold nearOf notFirst notLast at hg0
    unfold farOf notFirst2 notLast2 notFirst notLast at hg1
    generalize hRR : TurnEnd _ _ _ _ _ _ _ _ _ _ _ = RR
    (show RS _ _ _ ((aN, _) :: (rest ++ own)) _ _)
    repeat' (k_extra "rs")
    subst hRR
    exact ⟨(us ++ [_], ls ++ [knightOf f r i], n1 + 1), subL [_] rest own, ownL [_] rest own, rfl, hF.append (.cons _ _ .nil), List.forall_mem_nil _, (by intro z z1 z2 z3; k_extra "frame end"), (by show ls ++ _ = List.map _ (pre ++ [i]); rw [List.map_append, hP]; rfl)⟩
  case done =>
    intro d u hF hP
    obtain ⟨us, ls, n1⟩ := d
    dsimp only at hF hP ⊢
    subst hP
    exact rs_nil ⟨rfl, _, _, rfl, hF⟩
theorem rel_words_14 : True := by
  k_with_none
  k_with "evat" => first | with_reducible exact at_files | with_reducible exact at_ranks | with_reducible exact at_size | with_reducible exact at_full | with_reducible exact at_rays | with_reducible exact at_king | with_reducible exact at_knight | with_reducible exact at_pawn | with_reducible exact at_file_masks | with_reducible exact at_rank_masks | with_reducible exact at_castles | with_reducible exact at_rights_lost | with_reducible exact at_has_castling
  k_with "evnth" => first | exact rfl | exact nth_ref (by omega)
  k_with "rv" => first | (apply r_name; assumption; exact rfl; exact rfl; exact rfl) | (apply r_glob; assumption; k_is; exact rfl; exact rfl) | (apply r_attrG; assumption; k_extra "rv"; assumption; assumption; k_extra "evat"; assumption; exact rfl) | (apply r_attrN; assumption; k_extra "rv"; k_mem; k_mem; k_extra "evat"; assumption; exact rfl) | (apply r_topItem; assumption; k_extra "rv"; k_extra "r"; k_is; decide; decide; exact rfl; exact rfl; (first | exact pi_name | exact pi_const | exact pi_bin)) | (apply r_itemVG; k_extra "rv"; k_extra "r"; assumption; (first | assumption | omega); (first | assumption | omega); k_extra "evnth"; (first | exact pi_name | exact pi_const | exact pi_bin)) | (apply r_itemVN; k_extra "rv"; k_extra "r"; k_mem; (first | assumption | omega); (first | assumption | omega); k_extra "evnth"; (first | exact pi_name | exact pi_const | exact pi_bin))
  k_with "r" => first | exact r_const | (apply r_of; k_extra "rv"; exact rfl) | (apply r_add; k_extra "r"; k_extra "r") | (apply r_sub; k_extra "r"; k_extra "r") | (apply r_and; k_extra "r"; k_extra "r") | (apply r_or; k_extra "r"; k_extra "r") | (apply r_shr; k_extra "r"; k_extra "r"; (first | assumption | omega)) | (apply r_shl; k_extra "r"; k_extra "r"; (first | assumption | omega); (first | assumption | omega); (first | assumption | omega)) | (apply r_mul; k_extra "r"; k_extra "r"; (first | assumption | omega); (first | assumption | omega)) | (apply r_mod; k_extra "r"; k_extra "r"; (first | assumption | omega)) | (apply r_div; k_extra "r"; k_extra "r"; (first | assumption | omega); (first | assumption | omega)) | (apply r_inv; k_extra "r") | (apply r_itemG; k_extra "rv"; k_extra "r"; assumption; assumption; (first | assumption | omega); (first | assumption | omega); (first | assumption | omega); (first | exact pi_name | exact pi_const | exact pi_bin)) | (apply r_itemN; k_extra "rv"; k_extra "r"; k_mem; assumption; (first | assumption | omega); (first | assumption | omega); (first | assumption | omega); (first | exact pi_name | exact pi_const | exact pi_bin))
  k_with "rc" => first | (apply rc_eq; k_extra "r"; k_extra "r"; exact rfl) | (apply rc_ne; k_extra "r"; k_extra "r"; exact rfl) | (apply rc_lt; k_extra "r"; k_extra "r"; exact rfl) | (apply rc_gt; k_extra "r"; k_extra "r"; exact rfl) | (apply rc_ge; k_extra "r"; k_extra "r"; exact rfl)
  k_with "rs" => first | (apply rs_set; assumption; k_extra "r"; exact rfl; exact rfl; intro _ _) | (apply rs_setV; assumption; k_extra "rv"; exact rfl; exact rfl; intro _) | (apply rs_ior; assumption; exact rfl; k_extra "r"; exact rfl; intro _ _) | (apply rs_iadd; assumption; exact rfl; k_extra "r"; exact rfl; intro _ _) | (apply rs_ifior_gt; assumption; exact rfl; k_extra "r"; k_extra "r"; exact rfl; (intro _; k_extra "r"); exact rfl; intro _ _) | (apply rs_ifior_lt; assumption; exact rfl; k_extra "r"; k_extra "r"; exact rfl; (intro _; k_extra "r"); exact rfl; intro _ _) | (apply rs_if; k_extra "rc"; all_goals intro _) | (apply rs_ret; k_extra "r"; intro _) | (apply rs_retV; k_extra "rv") | (apply rs_nil; (try (show RS _ _ _ _ _ _)))
  k_with "ra" => first | exact ra_nil | (apply ra_val; k_extra "rv"; k_extra "ra"; (first | exact pa_name | exact pa_const | exact pa_bin | exact pa_attr | exact pa_sub | exact pa_call)) | (apply ra_int; k_extra "r"; k_extra "ra"; (first | exact pa_name | exact pa_const | exact pa_bin | exact pa_attr | exact pa_sub | exact pa_call))
  k_with "r" => (apply r_callI; assumption; k_extra "rv"; k_is; k_extra "ra"; (first | exact pa_name | exact pa_const | exact pa_bin | exact pa_attr | exact pa_sub | exact pa_call); exact rfl; k_extra "says"; decide; k_extra "given")
  k_with "rv" => exact rv_bool
  k_with "rc" => (apply rc_and; k_extra "rc"; (intro _; k_extra "rc"))
  k_with "given" => first | (intro _ _ _; exact True.intro) | (intro _ zzF _; exact GeoH.keeps (by assumption) (Fr.keep zzF))
  k_with "frame end" => repeat (first | exact rfl | refine skip_ne (by with_reducible assumption) ?_ | refine skip_in (by with_reducible assumption) (by repeat (first | exact List.Mem.head _ | refine List.Mem.tail _ ?_)) ?_ | refine skip_b (by with_reducible assumption) ?_)
  exact True.intro
theorem led_words_14 : True := by
  k_with "in" => repeat (first | exact List.Mem.head _ | refine List.Mem.tail _ ?_)
  k_with "mem" => first | (with_reducible assumption) | (with_reducible exact List.mem_cons_self) | ((with_reducible refine List.mem_append_left _ ?_); k_extra "mem") | ((with_reducible refine List.mem_append_right _ ?_); k_extra "mem") | ((with_reducible refine List.mem_cons_of_mem _ ?_); k_extra "mem")
  k_with "k_mem" => k_extra "mem"
  k_with "ne" => (refine neN ?_; first | (with_reducible assumption) | (refine Ne.symm ?_; with_reducible assumption))
  k_with "all" => first | exact List.forall_mem_nil _ | (with_reducible assumption) | ((with_reducible refine List.forall_mem_cons.mpr ⟨?_, ?_⟩); k_extra "ne"; k_extra "all") | ((with_reducible refine List.forall_mem_append.mpr ⟨?_, ?_⟩); k_extra "all"; k_extra "all") | (intro zzp zzhp; refine off_at (by assumption) zzhp ?_; k_extra "in")
  k_with "upd" => first | ((with_reducible apply Upd.head); k_extra "all") | ((with_reducible apply Upd.tail); k_extra "ne"; k_extra "upd")
  k_with "size" => first | (with_reducible assumption) | exact le2000 (by with_reducible assumption) | omega
  k_with "pa" => first | exact pa_name | exact pa_const | exact pa_bin | exact pa_attr | exact pa_sub | exact pa_call | exact pa_neg
  k_with "r" => (apply r_neg; k_extra "r")
  k_with "rs" => (apply rs_append; k_extra "rv"; k_extra "mem"; k_extra "r"; k_extra "pa"; exact rfl; exact rfl; exact rfl; k_extra "size"; (intro _; k_extra "upd"); intro _)
  k_with "r" => first | (apply r_stepF; assumption; k_extra "r"; (first | assumption | omega); (first | assumption | omega); exact rfl) | (apply r_stepR; assumption; k_extra "r"; (first | assumption | omega); (first | assumption | omega); exact rfl)
  k_with "rc" => first | (apply rc_int; k_extra "r"; exact rfl) | (apply rc_not; k_extra "rc") | (apply rc_bool; k_extra "rv"; exact rfl)
  k_with "rb" => first | (apply rv_gt; k_extra "r"; k_extra "r"; exact rfl) | (apply rv_eq; k_extra "r"; k_extra "r"; exact rfl)
  k_with "rv" => first | k_extra "rb" | (apply rv_or; k_extra "rb"; k_extra "rb") | (apply r_callB; assumption; k_extra "rv"; k_is; k_extra "ra"; k_extra "pa"; exact rfl; k_extra "saysB"; decide; k_extra "given")
  k_with "rs" => first | (apply rs_setItem; k_extra "r"; k_extra "rv"; k_extra "r"; k_extra "mem"; assumption; (first | assumption | omega); (first | assumption | omega); (first | assumption | omega); exact rfl; (intro _; k_extra "upd"); intro _ _) | (apply rs_iorItem; k_extra "rv"; k_extra "r"; k_extra "mem"; k_extra "r"; assumption; (first | assumption | omega); (first | assumption | omega); (first | assumption | omega); (intro _; k_extra "upd"); intro _ _) | (apply rs_appendV; k_extra "rv"; k_extra "mem"; k_extra "rv"; k_extra "pa"; exact rfl; exact rfl; exact rfl; k_extra "size"; k_extra "upd")
  k_with "rc" => (apply rc_and_no; (apply rc_bool; k_extra "rv"; exact rfl); exact Bool.false_ne_true)
  k_with "rv" => exact rv_none
  exact True.intro
def CastlesW (x dx aC : Addr) (es : List DictEntry) (rest : List (Addr × Obj)) (v : Value) (news' : List (Addr × Obj)) : Prop :=
  v = .none ∧ ∃ u c es' n' q, news' = (aC, listOf (List.toArray u) c) :: (x, instObj 53 dx) :: (dx, dictOf es' n') :: q :: rest ∧
    ∀ (name : Str) (v : Value), (Str.ofString "rights_lost" == name) = false → getL name es = some (some v) → getL name es' = some (some v)
theorem four {k : Int} (h0 : 0 ≤ k) (h4 : k < 4) : k = 0 ∨ k = 1 ∨ k = 2 ∨ k = 3 := by omega
theorem half_small {k : Int} (h0 : 0 ≤ k) (h4 : k < 4) : -1000 ≤ k.fdiv (2 ^ (1 : Int).toNat) ∧ k.fdiv (2 ^ (1 : Int).toNat) ≤ 1000 := by
  rcases four h0 h4 with rfl | rfl | rfl | rfl <;> decide
theorem half_mul {k : Int} {r : Nat} (h0 : 0 ≤ k) (h4 : k < 4) (hr : r ≤ 5) : -1000 ≤ k.fdiv (2 ^ (1 : Int).toNat) * ((r : Int) - 1) ∧ k.fdiv (2 ^ (1 : Int).toNat) * ((r : Int) - 1) ≤ 1000 := by
  have e : k.fdiv (2 ^ (1 : Int).toNat) = 0 ∨ k.fdiv (2 ^ (1 : Int).toNat) = 1 := by rcases four h0 h4 with rfl | rfl | rfl | rfl <;> decide
  rcases e with e | e <;> rw [e] <;> omega
theorem reorder5 {a b c d : Addr × Obj} {rest : Led} : ∀ p ∈ b :: c :: d :: a :: rest, p ∈ a :: b :: c :: d :: rest := fun p hp => by
  simp only [List.mem_cons] at hp ⊢
  rcases hp with h | h | h | h | h <;> simp [h]
set_option maxHeartbeats 8000000 in
theorem add_castles_does (f r sz : Nat) (hf3 : 3 ≤ f) (hf5 : f ≤ 5) (hr3 : 3 ≤ r) (hr5 : r ≤ 5) (hsz : sz ≤ 25) (x dx aC : Addr) (es : List DictEntry) (n nC : Nat) (hes : es.length ≤ 800)
    (d1 : @Ne Nat aC x) (d2 : @Ne Nat aC dx) (d3 : @Ne Nat x dx) (tf tr ts : Tok)
    (e1 : getL "size" es = some (some (.int sz ts))) (e2 : getL "files" es = some (some (.int f tf))) (e3 : getL "ranks" es = some (some (.int r tr))) (e4 : getL "castles" es = some (some (.ref aC))) (e5 : getL "has_castling" es = some (some (.bool false))) (e6 : (getL "rights_lost" es).isSome = true) :
    PySem.Challenge.rw_tg0013_01.foot = 6 → DoesR 106 1 [(aC, listOf (List.toArray []) nC), (x, instObj 53 dx), (dx, dictOf es n)] [] [.ref x] (CastlesW x dx aC es) := by
  unfold DoesR DoesW
  k_fill
  intro _ w
  show DoesW w _ _ _ _ _ _
  refine' does_rel (n := 0) ?k6 ?k7 ?k9 ?kB ?c2 ?c3 ?c4 ?c5 ?_
  case k6 => k_is
  case k7 => k_is
  case k9 => intro _; exact BindsTo.of_eq rfl
  case kB => exact locs rfl
  case c2 => exact rfl
  case c3 => exact rfl
  case c4 => exact rfl
  case c5 => decide
  intro A g L rest c H hoff _
  have hes9 : es.length ≤ 900 := Nat.le_trans hes (by decide)
  have hszm := Nat.le_trans hsz (show 25 ≤ 1000 by decide)
  have z1 : (0 : Int) ≤ 1 := by decide
  have z2 : (2 : Int) ≠ 0 := by decide
  have z3 : (2 : Int).natAbs < 1073741824 := by decide
  have z4 : (-1000 : Int) ≤ 2 := by decide
  have z5 : (2 : Int) ≤ 1000 := by decide
  (show RS _ _ _ ((aC, _) :: (x, _) :: (dx, _) :: rest) _ _)
  refine' rs_newAttr H (rn_mul r_const pa_const ?ka hszm) ?kb ?kc ?kd ?g1 ?g2 ?g3 ?g4 e6 hes9 rfl ?hh
  case ka => intro _ _; k_extra "r"
  case kb => intro _ _; k_extra "rv"
  case kc => k_extra "mem"
  case kd => k_extra "mem"
  case g1 => k_is
  case g2 => k_is
  case g3 => k_is
  case g4 => k_is
  case' hh => intro aK obK hsh tkK hK fK
  have k1 : @Ne Nat aK aC := (fK _ (.head _)).symm
  have k2 : @Ne Nat aK x := (fK _ (.tail _ (.head _))).symm
  have k3 : @Ne Nat aK dx := (fK _ (.tail _ (.tail _ (.head _)))).symm
  have k4 : ∀ p ∈ rest, p.1 ≠ aK := fun p hp => fK p (.tail _ (.tail _ (.tail _ hp)))
  clear fK
  refine ⟨?U, ?_⟩
  case U => k_extra "upd"
  have hb : ∀ (name : Str) (v : Value), (Str.ofString "rights_lost" == name) = false → getL name es = some (some v) → getL name (putL "rights_lost" hsh (.str "rights_lost" tkK) (.ref aK) es) = some (some v) := fun name v hn hv => getL_put_other (str_apart hn) hv
  have b2 := hb _ _ (by decide) e2
  have b3 := hb _ _ (by decide) e3
  have b4 := hb _ _ (by decide) e4
  have b5 := hb _ _ (by decide) e5
  generalize putL "rights_lost" hsh (.str "rights_lost" tkK) (.ref aK) es = es1 at hb b2 b3 b4 b5 ⊢
  generalize putN "rights_lost" es n = n1 at hb ⊢
  clear e1 e2 e3 e4 e5 e6
  refine rs_weak (news' := (aC, listOf (List.toArray []) nC) :: (x, instObj 53 dx) :: (dx, dictOf es1 n1) :: (aK, obK) :: rest) reorder5 ?_
  repeat' (k_extra "rs")
  refine' rs_for (N := 4) (σ := List Value × Nat) (fun d => (aC, listOf (List.toArray d.1) d.2) :: (x, instObj 53 dx) :: (dx, dictOf es1 n1) :: (aK, obK) :: rest) (fun _ => []) (fun _ => True) ["base", "corner", "way", "goal"] (fun pre d => d.1.length = pre.length) ([], nC) H r_const (by decide) pa_const ?qg ?qr ?qx trivial (List.forall_mem_nil _) rfl ?turn ?done ?qs
  case qg => k_is
  case qr => exact rfl
  case qx => exact rfl
  case qs => intro _; exact rfl
  case turn =>
    intro d pre i t u own hi1 hi2 ho _ hP
    obtain ⟨us, n2⟩ := d
    dsimp only at hP ⊢
    have hi0 : 0 ≤ i := hi1 ▸ Int.natCast_nonneg _
    have hi4 : i < 4 := hi1 ▸ Int.ofNat_lt.mpr hi2
    have hb0 := (half_small hi0 hi4).1
    have hb1 := (half_small hi0 hi4).2
    have hb2 := (half_mul (r := r) hi0 hi4 hr5).1
    have hb3 := (half_mul (r := r) hi0 hi4 hr5).2
    have hl1 : us.length ≤ 1000 := hP ▸ (Nat.le_trans (Nat.le_of_lt hi2) (by decide))
    generalize hRR : TurnEnd _ _ _ _ _ _ _ _ _ _ _ = RR
    (show RS _ _ _ ((aC, _) :: (x, _) :: (dx, _) :: (aK, _) :: (rest ++ own)) _ _)
    repeat' (k_extra "rs")
    all_goals first
      | exact False.elim (by assumption)
      | (subst hRR; exact ⟨(us ++ [_], n2 + 1), subL [_, _, _, _] rest own, ownL [_, _, _, _] rest own, rfl, trivial, List.forall_mem_nil _, (by intro z z1 z2 z3; k_extra "frame end"), (by show (us ++ _).length = (pre ++ [i]).length; rw [List.length_append, List.length_append, hP]; rfl)⟩)
  case done =>
    intro d u _ hP
    exact rs_nil ⟨rfl, _, _, _, _, _, rfl, hb⟩
theorem rel_words_15 : True := by
  k_with_none
  k_with "evat" => first | with_reducible exact at_files | with_reducible exact at_ranks | with_reducible exact at_size | with_reducible exact at_full | with_reducible exact at_rays | with_reducible exact at_king | with_reducible exact at_knight | with_reducible exact at_pawn | with_reducible exact at_file_masks | with_reducible exact at_rank_masks | with_reducible exact at_castles | with_reducible exact at_rights_lost | with_reducible exact at_has_castling
  k_with "evnth" => first | exact rfl | exact nth_ref (by omega)
  k_with "rv" => first | (apply r_name; assumption; exact rfl; exact rfl; exact rfl) | (apply r_glob; assumption; k_is; exact rfl; exact rfl) | (apply r_attrG; assumption; k_extra "rv"; assumption; assumption; k_extra "evat"; assumption; exact rfl) | (apply r_attrN; assumption; k_extra "rv"; k_mem; k_mem; k_extra "evat"; assumption; exact rfl) | (apply r_topItem; assumption; k_extra "rv"; k_extra "r"; k_is; decide; decide; exact rfl; exact rfl; (first | exact pi_name | exact pi_const | exact pi_bin)) | (apply r_itemVG; k_extra "rv"; k_extra "r"; assumption; (first | assumption | omega); (first | assumption | omega); k_extra "evnth"; (first | exact pi_name | exact pi_const | exact pi_bin)) | (apply r_itemVN; k_extra "rv"; k_extra "r"; k_mem; (first | assumption | omega); (first | assumption | omega); k_extra "evnth"; (first | exact pi_name | exact pi_const | exact pi_bin))
  k_with "r" => first | exact r_const | (apply r_of; k_extra "rv"; exact rfl) | (apply r_add; k_extra "r"; k_extra "r") | (apply r_sub; k_extra "r"; k_extra "r") | (apply r_and; k_extra "r"; k_extra "r") | (apply r_or; k_extra "r"; k_extra "r") | (apply r_shr; k_extra "r"; k_extra "r"; (first | assumption | omega)) | (apply r_shl; k_extra "r"; k_extra "r"; (first | assumption | omega); (first | assumption | omega); (first | assumption | omega)) | (apply r_mul; k_extra "r"; k_extra "r"; (first | assumption | omega); (first | assumption | omega)) | (apply r_mod; k_extra "r"; k_extra "r"; (first | assumption | omega)) | (apply r_div; k_extra "r"; k_extra "r"; (first | assumption | omega); (first | assumption | omega)) | (apply r_inv; k_extra "r") | (apply r_itemG; k_extra "rv"; k_extra "r"; assumption; assumption; (first | assumption | omega); (first | assumption | omega); (first | assumption | omega); (first | exact pi_name | exact pi_const | exact pi_bin)) | (apply r_itemN; k_extra "rv"; k_extra "r"; k_mem; assumption; (first | assumption | omega); (first | assumption | omega); (first | assumption | omega); (first | exact pi_name | exact pi_const | exact pi_bin))
  k_with "rc" => first | (apply rc_eq; k_extra "r"; k_extra "r"; exact rfl) | (apply rc_ne; k_extra "r"; k_extra "r"; exact rfl) | (apply rc_lt; k_extra "r"; k_extra "r"; exact rfl) | (apply rc_gt; k_extra "r"; k_extra "r"; exact rfl) | (apply rc_ge; k_extra "r"; k_extra "r"; exact rfl)
  k_with "rs" => first | (apply rs_set; assumption; k_extra "r"; exact rfl; exact rfl; intro _ _) | (apply rs_setV; assumption; k_extra "rv"; exact rfl; exact rfl; intro _) | (apply rs_ior; assumption; exact rfl; k_extra "r"; exact rfl; intro _ _) | (apply rs_iadd; assumption; exact rfl; k_extra "r"; exact rfl; intro _ _) | (apply rs_ifior_gt; assumption; exact rfl; k_extra "r"; k_extra "r"; exact rfl; (intro _; k_extra "r"); exact rfl; intro _ _) | (apply rs_ifior_lt; assumption; exact rfl; k_extra "r"; k_extra "r"; exact rfl; (intro _; k_extra "r"); exact rfl; intro _ _) | (apply rs_if; k_extra "rc"; all_goals intro _) | (apply rs_ret; k_extra "r"; intro _) | (apply rs_retV; k_extra "rv") | (apply rs_nil; (try (show RS _ _ _ _ _ _)))
  k_with "ra" => first | exact ra_nil | (apply ra_val; k_extra "rv"; k_extra "ra"; (first | exact pa_name | exact pa_const | exact pa_bin | exact pa_attr | exact pa_sub | exact pa_call)) | (apply ra_int; k_extra "r"; k_extra "ra"; (first | exact pa_name | exact pa_const | exact pa_bin | exact pa_attr | exact pa_sub | exact pa_call))
  k_with "r" => (apply r_callI; assumption; k_extra "rv"; k_is; k_extra "ra"; (first | exact pa_name | exact pa_const | exact pa_bin | exact pa_attr | exact pa_sub | exact pa_call); exact rfl; k_extra "says"; decide; k_extra "given")
  k_with "rv" => exact rv_bool
  k_with "rc" => (apply rc_and; k_extra "rc"; (intro _; k_extra "rc"))
  k_with "given" => first | (intro _ _ _; exact True.intro) | (intro _ zzF _; exact GeoH.keeps (by assumption) (Fr.keep zzF))
  k_with "frame end" => repeat (first | exact rfl | refine skip_ne (by with_reducible assumption) ?_ | refine skip_in (by with_reducible assumption) (by repeat (first | exact List.Mem.head _ | refine List.Mem.tail _ ?_)) ?_ | refine skip_b (by with_reducible assumption) ?_)
  exact True.intro
theorem led_words_15 : True := by
  k_with "in" => repeat (first | exact List.Mem.head _ | refine List.Mem.tail _ ?_)
  k_with "mem" => first | (with_reducible assumption) | (with_reducible exact List.mem_cons_self) | ((with_reducible refine List.mem_append_left _ ?_); k_extra "mem") | ((with_reducible refine List.mem_append_right _ ?_); k_extra "mem") | ((with_reducible refine List.mem_cons_of_mem _ ?_); k_extra "mem")
  k_with "k_mem" => k_extra "mem"
  k_with "ne" => (refine neN ?_; first | (with_reducible assumption) | (refine Ne.symm ?_; with_reducible assumption))
  k_with "all" => first | exact List.forall_mem_nil _ | (with_reducible assumption) | ((with_reducible refine List.forall_mem_cons.mpr ⟨?_, ?_⟩); k_extra "ne"; k_extra "all") | ((with_reducible refine List.forall_mem_append.mpr ⟨?_, ?_⟩); k_extra "all"; k_extra "all") | (intro zzp zzhp; refine off_at (by assumption) zzhp ?_; k_extra "in")
  k_with "upd" => first | ((with_reducible apply Upd.head); k_extra "all") | ((with_reducible apply Upd.tail); k_extra "ne"; k_extra "upd")
  k_with "size" => first | (with_reducible assumption) | exact le2000 (by with_reducible assumption) | omega
  k_with "pa" => first | exact pa_name | exact pa_const | exact pa_bin | exact pa_attr | exact pa_sub | exact pa_call | exact pa_neg
  k_with "r" => (apply r_neg; k_extra "r")
  k_with "rs" => (apply rs_append; k_extra "rv"; k_extra "mem"; k_extra "r"; k_extra "pa"; exact rfl; exact rfl; exact rfl; k_extra "size"; (intro _; k_extra "upd"); intro _)
  k_with "r" => first | (apply r_stepF; assumption; k_extra "r"; (first | assumption | omega); (first | assumption | omega); exact rfl) | (apply r_stepR; assumption; k_extra "r"; (first | assumption | omega); (first | assumption | omega); exact rfl)
  k_with "rc" => first | (apply rc_int; k_extra "r"; exact rfl) | (apply rc_not; k_extra "rc") | (apply rc_bool; k_extra "rv"; exact rfl)
  k_with "rb" => first | (apply rv_gt; k_extra "r"; k_extra "r"; exact rfl) | (apply rv_eq; k_extra "r"; k_extra "r"; exact rfl)
  k_with "rv" => first | k_extra "rb" | (apply rv_or; k_extra "rb"; k_extra "rb") | (apply r_callB; assumption; k_extra "rv"; k_is; k_extra "ra"; k_extra "pa"; exact rfl; k_extra "saysB"; decide; k_extra "given")
  k_with "rs" => first | (apply rs_setItem; k_extra "r"; k_extra "rv"; k_extra "r"; k_extra "mem"; assumption; (first | assumption | omega); (first | assumption | omega); (first | assumption | omega); exact rfl; (intro _; k_extra "upd"); intro _ _) | (apply rs_iorItem; k_extra "rv"; k_extra "r"; k_extra "mem"; k_extra "r"; assumption; (first | assumption | omega); (first | assumption | omega); (first | assumption | omega); (intro _; k_extra "upd"); intro _ _) | (apply rs_appendV; k_extra "rv"; k_extra "mem"; k_extra "rv"; k_extra "pa"; exact rfl; exact rfl; exact rfl; k_extra "size"; k_extra "upd")
  k_with "rs" => (apply rs_iand; assumption; exact rfl; k_extra "r"; exact rfl; intro _ _)
  exact True.intro
theorem init_words : True := by
  k_with "rv" => (apply rv_and_no; k_extra "rv")
  k_with "rs" => (apply rs_initN; assumption; (intro _ _; k_extra "rv"); k_extra "mem"; k_extra "mem"; assumption; exact rfl; exact rfl; k_extra "in"; exact rfl; (intro zza zzf; (have zzk := zzf _ (show (dx, dictOf _ _) ∈ _ by k_extra "mem")); (replace zznd := nd_put (rest := rest) zznd zzf rfl); clear zzf; refine' ⟨?_, ?_⟩; (intro _ _; k_extra "upd"); intro _ _ _))
  k_with "rs" => (apply rs_initNN; assumption; (intro _ _ _; k_extra "rv"); k_extra "mem"; k_extra "mem"; assumption; exact rfl; exact rfl; k_extra "in"; exact rfl; (intro zza zza2 zza3 zzf zzf2 zzf3; (have zzk := zzf _ (show (dx, dictOf _ _) ∈ _ by k_extra "mem")); (have zzk2 := zzf2 _ (show (dx, dictOf _ _) ∈ _ by k_extra "mem")); (have zzk3 := zzf3 _ (show (dx, dictOf _ _) ∈ _ by k_extra "mem")); (replace zznd := nd_put (rest := rest) zznd zzf rfl); (replace zznd := nd_put (rest := rest) zznd zzf2 rfl); (replace zznd := nd_put (rest := rest) zznd zzf3 rfl); clear zzf zzf2 zzf3; refine' ⟨?_, ?_⟩; (intro _ _; k_extra "upd"); intro _ _ _))
  k_with "rs" => (apply rs_initV; assumption; k_extra "rv"; k_extra "rv"; k_extra "mem"; k_extra "mem"; assumption; exact rfl; exact rfl; k_extra "in"; exact rfl; (intro _ _; k_extra "upd"); intro _ _ _)
  k_with "rs" => (apply rs_initI; assumption; k_extra "r"; k_extra "rv"; k_extra "mem"; k_extra "mem"; assumption; exact rfl; exact rfl; k_extra "in"; exact rfl; (intro _ _; k_extra "upd"); intro _ _ _ _)
  exact True.intro
theorem nd_put {l rest : Led} {adr : List Addr} {a : Addr} (h : adr.Nodup) (hf : ∀ p ∈ l, p.1 ≠ a) (he : l.map (·.1) = adr ++ rest.map (·.1)) : (a :: adr).Nodup :=
  List.nodup_cons.mpr ⟨fun hm => by
    have h2 : a ∈ l.map (·.1) := he ▸ List.mem_append_left _ hm
    obtain ⟨p, hp, e⟩ := List.mem_map.mp h2
    exact hf p hp e, h⟩
theorem nd_two {a b : Addr} (h : @Ne Nat a b) : [a, b].Nodup := List.nodup_cons.mpr ⟨fun hm => h (List.mem_singleton.mp hm), List.nodup_cons.mpr ⟨List.not_mem_nil, List.nodup_nil⟩⟩
def InitW (f r : Nat) (rest : Led) (v : Value) (news' : Led) : Prop :=
  ∃ (x dx a0 a1 a2 a3 a4 a5 a6 a7 a8 a9 : Addr) (es : List DictEntry) (n : Nat) (tf tr t3 t4 : Tok), v = .ref x ∧ news' = (a0, listOf (List.toArray []) 0) :: (a1, listOf (List.toArray []) 0) :: (a2, listOf (List.toArray [.ref a4, .ref a3]) 0) :: (a3, listOf (List.toArray []) 0) :: (a4, listOf (List.toArray []) 0) :: (a5, listOf (List.toArray []) 0) :: (a6, listOf (List.toArray []) 0) :: (a7, listOf (List.toArray []) 0) :: (a8, listOf (List.toArray []) 0) :: (a9, listOf (List.toArray []) 0) :: (x, instObj 53 dx) :: (dx, dictOf es n) :: rest ∧
    [a0, a1, a2, a3, a4, a5, a6, a7, a8, a9, x, dx].Nodup ∧ AttrsAre es [("rights_lost", .ref a0), ("castles", .ref a1), ("pawn", .ref a2), ("knight", .ref a5), ("king", .ref a6), ("rays", .ref a7), ("rank_masks", .ref a8), ("file_masks", .ref a9), ("has_castling", .bool false), ("has_double", .bool false), ("full", .int (fullOf f r) t4), ("size", .int ((f : Int) * (r : Int)) t3), ("ranks", .int r tr), ("files", .int f tf)]
set_option maxHeartbeats 8000000 in
theorem init_does (f r : Nat) (tf tr : Tok) (hf5 : f ≤ 5) (hp0 : 0 ≤ (f : Int) * (r : Int)) (hp1 : (f : Int) * (r : Int) ≤ 1000000) : PySem.Challenge.rw_tg0013_01.foot = 6 → DoesR 53 3 [] [] [.int f tf, .int r tr, .bool false, .bool false] (InitW f r) := by
  unfold DoesR DoesW
  k_fill
  intro _ w
  show DoesW w _ _ _ _ _ _
  refine' inits_rel ?m1 ?m2 ?m3 ?k6 ?k7 ?k9 ?kB ?c2 ?c3 ?c4 ?c5 ?_
  case m1 => k_is
  case m2 => k_is
  case m3 => k_is
  case k6 => k_is
  case k7 => k_is
  case k9 => intro _ _; exact BindsTo.of_eq rfl
  case kB => intro _; exact locs rfl
  case c2 => exact rfl
  case c3 => exact rfl
  case c4 => exact rfl
  case c5 => decide
  intro A g L rest x dx c H d0 d1
  have hn := attrs_nil
  have zznd := nd_two d0
  have hf0 := lo1000 (i := f) rfl
  have hf6 : (f : Int) ≤ 1000 := Int.ofNat_le.mpr (Nat.le_trans hf5 (by decide))
  have u1 : (1 : Int).natAbs < 2 ^ 64 := by decide
  repeat' (k_extra "rs")
  exact ⟨rfl, x, dx, _, _, _, _, _, _, _, _, _, _, _, _, _, _, _, _, rfl, rfl, zznd, by assumption⟩
def geoOf (f r : Nat) : GeoD := { files := f, ranks := r, size := f * r, rays := (List.range 8).map (fun j : Nat => rayOf f r (f * r) (j : Int)), knight := knightsOf f r (f * r) }
def MakeV (f r : Nat) (g : Heap) (v : Value) (h' : Heap) : Prop :=
  ∃ (x dx : Addr) (es : List DictEntry) (n : Nat) (more : List (Addr × Obj)) (t : Tok), v = .ref x ∧ getL "size" es = some (some (.int ((f * r : Nat) : Int) t)) ∧
    (∀ p ∈ (x, instObj 53 dx) :: (dx, dictOf es n) :: more, h'.get? p.1 = some p.2 ∧ g.get? p.1 = none) ∧ ∀ h : Heap, (∀ p ∈ (x, instObj 53 dx) :: (dx, dictOf es n) :: more, h.get? p.1 = some p.2) → GeoH (geoOf f r) x h
theorem fr_small {f r : Nat} (h5 : f ≤ 5) (g5 : r ≤ 5) : 0 ≤ (f : Int) * (r : Int) ∧ (f : Int) * (r : Int) ≤ 25 := by
  have h2 := Int.mul_nonneg (Int.natCast_nonneg f) (Int.natCast_nonneg r)
  have h3 : (f : Int) * (r : Int) ≤ 5 * 5 := Int.mul_le_mul (by omega) (by omega) (Int.natCast_nonneg r) (by decide)
  omega
theorem ray_len (f r sz : Nat) (d : Int) : (rayOf f r sz d).length = sz := by
  unfold rayOf
  rw [rayFold_len, List.length_replicate]
theorem rays_get {f r j : Nat} (hj : j < 8) : (geoOf f r).rays.getD j [] = rayOf f r (f * r) (j : Int) := by
  show ((List.range 8).map (fun j : Nat => rayOf f r (f * r) (j : Int))).getD j [] = _
  rw [List.getD_eq_getElem?_getD, List.getElem?_map, List.getElem?_range hj]
  rfl
theorem eight_names {rs : List Addr} (h : rs.length = 8) : ∃ r0 r1 r2 r3 r4 r5 r6 r7, rs = [r0, r1, r2, r3, r4, r5, r6, r7] := by
  match rs, h with
  | [r0, r1, r2, r3, r4, r5, r6, r7], _ => exact ⟨r0, r1, r2, r3, r4, r5, r6, r7, rfl⟩
theorem nd_at {l : List Addr} (h : l.Nodup) {a b : Addr} (i j : Nat) (hi : l[i]? = some a) (hj : l[j]? = some b) (hne : i ≠ j) : @Ne Nat a b := by
  obtain ⟨hi1, rfl⟩ := List.getElem?_eq_some_iff.mp hi
  obtain ⟨hj1, rfl⟩ := List.getElem?_eq_some_iff.mp hj
  have h2 := List.pairwise_iff_getElem.mp h
  rcases Nat.lt_or_gt_of_ne hne with h3 | h3
  · exact h2 i j hi1 hj1 h3
  · exact (h2 j i hj1 hi1 h3).symm
theorem step_ok {main extra led others : Led} {d : Addr × Obj} (idx : List Nat) (hn : idx.Nodup) (hb : (idx.all fun i => Nat.blt i main.length) = true) (he : led ++ others = idx.map fun i => main.getD i d) (ND : (main.map (·.1)).Nodup) (TB : TbOff extra main) :
    (∀ p ∈ led ++ (others ++ extra), p ∈ main ++ extra) ∧ OwnOff (others ++ extra) (led.map (·.1)) ∧ ((led ++ others).map (·.1)).Nodup ∧ TbOff extra (led ++ others) := by
  have hlt : ∀ i ∈ idx, i < main.length := fun i hi => Nat.le_of_ble_eq_true (List.all_eq_true.mp hb i hi)
  have hin : ∀ p ∈ led ++ others, p ∈ main := by
    rw [he]
    intro p hp
    obtain ⟨i, hi, rfl⟩ := List.mem_map.mp hp
    rw [List.getD_eq_getElem?_getD, List.getElem?_eq_getElem (hlt i hi)]
    exact List.getElem_mem _
  have hnd : ((led ++ others).map (·.1)).Nodup := by
    rw [he]
    refine List.pairwise_map.mpr (List.pairwise_map.mpr (List.Pairwise.imp_of_mem ?_ hn))
    intro i j hi hj hij
    have h1 := hlt i hi
    have h2 := hlt j hj
    rw [List.getD_eq_getElem?_getD, List.getElem?_eq_getElem h1, List.getD_eq_getElem?_getD, List.getElem?_eq_getElem h2]
    exact nd_at ND i j (by rw [List.getElem?_map, List.getElem?_eq_getElem h1]; rfl) (by rw [List.getElem?_map, List.getElem?_eq_getElem h2]; rfl) hij
  have htb : TbOff extra (led ++ others) := fun p hp q hq => TB p hp q (hin q hq)
  refine ⟨?_, ?_, hnd, htb⟩
  · intro p hp
    rw [← List.append_assoc] at hp
    rcases List.mem_append.mp hp with hp | hp
    · exact List.mem_append_left _ (hin p hp)
    · exact List.mem_append_right _ hp
  · intro p hp b hb2
    rw [List.map_append] at hnd
    rcases List.mem_append.mp hp with hp | hp
    · exact fun e => (List.nodup_append.mp hnd).2.2 b hb2 p.1 (List.mem_map_of_mem hp) e.symm
    · obtain ⟨q, hq, rfl⟩ := List.mem_map.mp hb2
      exact htb p hp q (List.mem_append_left _ hq)
theorem tb_mk {extra l l2 : Led} (h : OwnOff extra (l.map (·.1))) (h2 : TbOff extra l2) : TbOff extra (l ++ l2) := fun p hp q hq => (List.mem_append.mp hq).elim (fun hq => h p hp _ (List.mem_map_of_mem hq)) (h2 p hp q)
theorem rot6 {a b c d e k : Addr} : ∀ z ∈ [k, a, b, c, d, e], z ∈ [a, b, c, d, e, k] := fun z hz => by
  rcases List.mem_cons.mp hz with rfl | hz
  · exact List.mem_append_right [a, b, c, d, e] (.head _)
  · exact List.mem_append_left [k] hz
theorem reorder_k {a b c d e k : Addr × Obj} {others new : Led} : ∀ p ∈ (k :: a :: b :: c :: d :: e :: others) ++ new, p ∈ a :: b :: c :: d :: e :: k :: (new ++ others) := fun p hp => by
  rcases List.mem_append.mp hp with hp | hp
  · rcases List.mem_cons.mp hp with rfl | hp
    · exact List.mem_append_right [a, b, c, d, e] (.head _)
    · rcases List.mem_append.mp (show p ∈ [a, b, c, d, e] ++ others from hp) with hp | hp
      · exact List.mem_append_left (k :: (new ++ others)) hp
      · exact List.mem_append_right [a, b, c, d, e, k] (List.mem_append_right _ hp)
  · exact List.mem_append_right [a, b, c, d, e, k] (List.mem_append_left _ hp)
theorem reorder_m {a b c d e q : Addr × Obj} {new : Led} : ∀ p ∈ b :: c :: d :: e :: new, p ∈ a :: b :: c :: q :: ([d, e] ++ new) := fun p hp => by
  rcases List.mem_append.mp (show p ∈ [b, c] ++ (d :: e :: new) from hp) with hp | hp
  · exact .tail _ (List.mem_append_left (q :: ([d, e] ++ new)) hp)
  · exact List.mem_append_right [a, b, c, q] hp
theorem tb_addr {extra l l' : Led} (h : TbOff extra l) (he : l.map (·.1) = l'.map (·.1)) : TbOff extra l' := fun p hp q hq => by
  have h2 : q.1 ∈ l.map (·.1) := he ▸ List.mem_map_of_mem hq
  obtain ⟨q', hq', e⟩ := List.mem_map.mp h2
  rw [← e]
  exact h p hp q' hq'
theorem lt_no {f k : Nat} (h : k ≤ f) : ¬ (f : Int) < (k : Int) := fun q => Nat.not_lt.mpr h (Int.ofNat_lt.mp q)
theorem gt_no {f k : Nat} (h : f ≤ k) : ¬ (k : Int) < (f : Int) := fun q => Nat.not_lt.mpr h (Int.ofNat_lt.mp q)
set_option maxHeartbeats 8000000 in
theorem make_geometry_says (f r : Nat) (tf tr : Tok) (hf3 : 3 ≤ f) (hf5 : f ≤ 5) (hr3 : 3 ≤ r) (hr5 : r ≤ 5) (hgo : GoalOk f r (f * r)) (hkg : KnGoal f r (f * r)) : PySem.Challenge.rw_tg0013_01.foot = 6 → Says 113 8 (fun _ => True) [.int f tf, .int r tr, .bool false, .bool false] (MakeV f r) := by
  unfold Says
  k_fill
  intro _ w
  show SaysW w 113 8 (fun _ => True) [.int f tf, .int r tr, .bool false, .bool false] (MakeV f r)
  refine' says_rel (n := 7) ?k6 ?k7 ?k9 ?kB ?c2 ?c3 ?c4 ?c5 ?_
  case k6 => k_is
  case k7 => k_is
  case k9 => intro _; exact BindsTo.of_eq rfl
  case kB => exact locs rfl
  case c2 => exact rfl
  case c3 => exact rfl
  case c4 => exact rfl
  case c5 => decide
  intro A gh L c H _
  have hp0 := (fr_small hf5 hr5).1
  have hp1 := (fr_small hf5 hr5).2
  have hp2 := Int.le_trans hp1 (show (25 : Int) ≤ 1000000 by decide)
  refine' rs_if (rc_or4 ?a1 (lt_no (k := 2) (Nat.le_trans (by decide) hf3)) ?a2 (gt_no (k := 8) (Nat.le_trans hf5 (by decide))) ?a3 (lt_no (k := 3) hr3) ?a4 (gt_no (k := 8) (Nat.le_trans hr5 (by decide)))) (fun h => h.elim) (fun _ => rs_nil ?_)
  case a1 => k_extra "rc"
  case a2 => k_extra "rc"
  case a3 => k_extra "rc"
  case a4 => k_extra "rc"
  (show RS _ _ _ _ _ _)
  refine' rs_doesSet (led := []) (ro := []) (dk := 3) (rest0 := []) H ?b1 ?b2 ?b3 ?b4 rfl ?b5 (by decide) (fun p hp => hp) (fun p hp => nomatch hp) (fun p hp => nomatch hp) rfl rfl ?_
  case b1 => k_extra "rv"
  case b2 => k_is
  case b3 => k_extra "ra"
  case b4 => k_extra "pa"
  case b5 => intro _; exact init_does f r tf tr hf5 hp0 hp2 rfl
  intro v news' hW
  obtain ⟨x, dx, a0, a1, a2, a3, a4, a5, a6, a7, a8, a9, es, n, tf1, tr1, t3, t4, rfl, rfl, ND, hA⟩ := hW
  have c1 := hA.got ("files", .int f tf1) (by k_extra "in")
  have c2 := hA.got ("ranks", .int r tr1) (by k_extra "in")
  have c3 := hA.got ("size", .int ((f : Int) * (r : Int)) t3) (by k_extra "in")
  have c4 := hA.got ("full", .int (fullOf f r) t4) (by k_extra "in")
  have c5 := hA.got ("has_castling", .bool false) (by k_extra "in")
  have c6 := hA.got ("file_masks", .ref a9) (by k_extra "in")
  have c7 := hA.got ("rank_masks", .ref a8) (by k_extra "in")
  have c8 := hA.got ("rays", .ref a7) (by k_extra "in")
  have c9 := hA.got ("king", .ref a6) (by k_extra "in")
  have c10 := hA.got ("knight", .ref a5) (by k_extra "in")
  have c11 := hA.got ("pawn", .ref a2) (by k_extra "in")
  have c12 := hA.got ("castles", .ref a1) (by k_extra "in")
  have c13 := hA.got ("rights_lost", .ref a0) (by k_extra "in")
  have c14 : es.length ≤ 14 := hA.len
  clear hA
  dsimp only at c1 c2 c3 c4 c5 c6 c7 c8 c9 c10 c11 c12 c13
  intro m1
  have c3' : getL "size" es = some (some (.int ((f * r : Nat) : Int) t3)) := by rw [Int.natCast_mul]; exact c3
  have hsz : f * r ≤ 25 := Int.ofNat_le.mp (by rw [Int.natCast_mul]; exact hp1)
  obtain ⟨s1, o1, ND1, TB1⟩ := step_ok (extra := []) (main := [(a0, listOf (List.toArray []) 0), (a1, listOf (List.toArray []) 0), (a2, listOf (List.toArray [.ref a4, .ref a3]) 0), (a3, listOf (List.toArray []) 0), (a4, listOf (List.toArray []) 0), (a5, listOf (List.toArray []) 0), (a6, listOf (List.toArray []) 0), (a7, listOf (List.toArray []) 0), (a8, listOf (List.toArray []) 0), (a9, listOf (List.toArray []) 0), (x, instObj 53 dx), (dx, dictOf es n)]) (led := [(a9, listOf (List.toArray []) 0), (a8, listOf (List.toArray []) 0), (x, instObj 53 dx), (dx, dictOf es n)]) (others := [(a0, listOf (List.toArray []) 0), (a1, listOf (List.toArray []) 0), (a2, listOf (List.toArray [.ref a4, .ref a3]) 0), (a3, listOf (List.toArray []) 0), (a4, listOf (List.toArray []) 0), (a5, listOf (List.toArray []) 0), (a6, listOf (List.toArray []) 0), (a7, listOf (List.toArray []) 0)]) (d := (x, instObj 53 dx)) [9, 8, 10, 11, 0, 1, 2, 3, 4, 5, 6, 7] (by decide) rfl rfl ND tboff_nil
  refine' rs_does (led := [(a9, listOf (List.toArray []) 0), (a8, listOf (List.toArray []) 0), (x, instObj 53 dx), (dx, dictOf es n)]) (ro := []) (dk := 1) (rest0 := [(a0, listOf (List.toArray []) 0), (a1, listOf (List.toArray []) 0), (a2, listOf (List.toArray [.ref a4, .ref a3]) 0), (a3, listOf (List.toArray []) 0), (a4, listOf (List.toArray []) 0), (a5, listOf (List.toArray []) 0), (a6, listOf (List.toArray []) 0), (a7, listOf (List.toArray []) 0)] ++ []) H ?x1 ?x2 ?x3 ?x4 rfl ?x5 (by decide) s1 o1 ?x6 rfl rfl ?_
  case x1 => k_extra "rv"
  case x2 => k_is
  case x3 => k_extra "ra"
  case x4 => k_extra "pa"
  case x5 => intro _; exact add_masks_does f r hf3 hf5 hr3 hr5 x dx a9 a8 es n 0 0 (nd_at ND 9 8 rfl rfl (by decide)) (nd_at ND 9 10 rfl rfl (by decide)) (nd_at ND 9 11 rfl rfl (by decide)) (nd_at ND 8 10 rfl rfl (by decide)) (nd_at ND 8 11 rfl rfl (by decide)) tf1 tr1 c1 c2 c6 c7 rfl
  case x6 => exact fun p hp => nomatch hp
  intro v1 news1 hW1
  obtain ⟨_, vF, vR, nF, nR, rfl, iF, iR⟩ := hW1
  clear s1 o1
  obtain ⟨s2, o2, ND2, TB2⟩ := step_ok (extra := []) (main := [(a9, listOf (List.toArray vF) nF), (a8, listOf (List.toArray vR) nR), (x, instObj 53 dx), (dx, dictOf es n), (a0, listOf (List.toArray []) 0), (a1, listOf (List.toArray []) 0), (a2, listOf (List.toArray [.ref a4, .ref a3]) 0), (a3, listOf (List.toArray []) 0), (a4, listOf (List.toArray []) 0), (a5, listOf (List.toArray []) 0), (a6, listOf (List.toArray []) 0), (a7, listOf (List.toArray []) 0)]) (led := [(x, instObj 53 dx), (dx, dictOf es n), (a7, listOf (List.toArray []) 0), (a9, listOf (List.toArray vF) nF), (a8, listOf (List.toArray vR) nR)]) (others := [(a0, listOf (List.toArray []) 0), (a1, listOf (List.toArray []) 0), (a2, listOf (List.toArray [.ref a4, .ref a3]) 0), (a3, listOf (List.toArray []) 0), (a4, listOf (List.toArray []) 0), (a5, listOf (List.toArray []) 0), (a6, listOf (List.toArray []) 0)]) (d := (x, instObj 53 dx)) [2, 3, 11, 0, 1, 4, 5, 6, 7, 8, 9, 10] (by decide) rfl rfl ND1 tboff_nil
  refine' rs_does (led := [(x, instObj 53 dx), (dx, dictOf es n), (a7, listOf (List.toArray []) 0), (a9, listOf (List.toArray vF) nF), (a8, listOf (List.toArray vR) nR)]) (ro := []) (dk := 3) (rest0 := [(a0, listOf (List.toArray []) 0), (a1, listOf (List.toArray []) 0), (a2, listOf (List.toArray [.ref a4, .ref a3]) 0), (a3, listOf (List.toArray []) 0), (a4, listOf (List.toArray []) 0), (a5, listOf (List.toArray []) 0), (a6, listOf (List.toArray []) 0)] ++ []) H ?x1 ?x2 ?x3 ?x4 rfl ?x5 (by decide) s2 o2 ?x6 rfl rfl ?_
  case x1 => k_extra "rv"
  case x2 => k_is
  case x3 => k_extra "ra"
  case x4 => k_extra "pa"
  case x5 => intro _; exact add_rays_does f r (f * r) hf3 hf5 hr3 hr5 hsz hgo x dx a7 a9 a8 es n 0 nF nR vF vR iF iR (Nat.le_trans c14 (by decide)) (nd_at ND 7 10 rfl rfl (by decide)) (nd_at ND 7 11 rfl rfl (by decide)) (nd_at ND 7 9 rfl rfl (by decide)) (nd_at ND 7 8 rfl rfl (by decide)) (nd_at ND 10 11 rfl rfl (by decide)) (nd_at ND 10 9 rfl rfl (by decide)) (nd_at ND 10 8 rfl rfl (by decide)) (nd_at ND 11 9 rfl rfl (by decide)) (nd_at ND 11 8 rfl rfl (by decide)) tf1 tr1 t3 t4 c1 c2 c6 c7 c3' c4 c8 (by rw [c9]; rfl) rfl
  case x6 => exact fun p hp => nomatch hp
  intro v2 news2 hW2
  obtain ⟨_, hsh, tkk, n2, aK, kv, ks, kn, rs, rn, new, rfl, hk1, hk2, hr1, hr2, hn1, hq3, hn2, dK⟩ := hW2
  clear s2 o2
  have ND2' := nd_put (a := aK) (rest := []) ND2 (List.forall_mem_cons.mpr ⟨dK.1.symm, List.forall_mem_cons.mpr ⟨dK.2.1.symm, List.forall_mem_cons.mpr ⟨dK.2.2.1.symm, List.forall_mem_cons.mpr ⟨dK.2.2.2.1.symm, List.forall_mem_cons.mpr ⟨dK.2.2.2.2.symm, fun p hp => hq3 p hp aK (.head _)⟩⟩⟩⟩⟩) (List.append_nil _).symm
  have b1 := getL_put_other (hsh := hsh) (tk := tkk) (v := .ref aK) (str_apart (a := "king") (by decide)) c1
  have b2 := getL_put_other (hsh := hsh) (tk := tkk) (v := .ref aK) (str_apart (a := "king") (by decide)) c2
  have b3 := getL_put_other (hsh := hsh) (tk := tkk) (v := .ref aK) (str_apart (a := "king") (by decide)) c3'
  have b4 := getL_put_other (hsh := hsh) (tk := tkk) (v := .ref aK) (str_apart (a := "king") (by decide)) c4
  have b5 := getL_put_other (hsh := hsh) (tk := tkk) (v := .ref aK) (str_apart (a := "king") (by decide)) c5
  have b6 := getL_put_other (hsh := hsh) (tk := tkk) (v := .ref aK) (str_apart (a := "king") (by decide)) c6
  have b8 := getL_put_other (hsh := hsh) (tk := tkk) (v := .ref aK) (str_apart (a := "king") (by decide)) c8
  have b10 := getL_put_other (hsh := hsh) (tk := tkk) (v := .ref aK) (str_apart (a := "king") (by decide)) c10
  have b11 := getL_put_other (hsh := hsh) (tk := tkk) (v := .ref aK) (str_apart (a := "king") (by decide)) c11
  have b12 := getL_put_other (hsh := hsh) (tk := tkk) (v := .ref aK) (str_apart (a := "king") (by decide)) c12
  have b13 := getL_put_other (hsh := hsh) (tk := tkk) (v := .ref aK) (str_apart (a := "king") (by decide)) c13
  have b9 : getL "king" (putL "king" hsh (.str "king" tkk) (.ref aK) es) = some (some (.ref aK)) := getL_put_same _
  have b14 : (putL "king" hsh (.str "king" tkk) (.ref aK) es).length ≤ 15 := Nat.le_trans (putL_len es) (Nat.succ_le_succ c14)
  generalize putL "king" hsh (.str "king" tkk) (.ref aK) es = es2 at b1 b2 b3 b4 b5 b6 b8 b9 b10 b11 b12 b13 b14 ⊢
  clear c1 c2 c3 c3' c4 c5 c6 c7 c8 c9 c10 c11 c12 c13 c14
  obtain ⟨r0, r1, r2, r3, r4, r5, r6, r7, rfl⟩ := eight_names hr1
  obtain ⟨v4, i4, m4, j4⟩ := hr2 4 (by decide)
  obtain ⟨v5, i5, m5, j5⟩ := hr2 5 (by decide)
  obtain ⟨v6, i6, m6, j6⟩ := hr2 6 (by decide)
  obtain ⟨v7, i7, m7, j7⟩ := hr2 7 (by decide)
  replace m4 : (r4, listOf (List.toArray v4) i4) ∈ new := m4
  replace m5 : (r5, listOf (List.toArray v5) i5) ∈ new := m5
  replace m6 : (r6, listOf (List.toArray v6) i6) ∈ new := m6
  replace m7 : (r7, listOf (List.toArray v7) i7) ∈ new := m7
  have TB2' : TbOff new [(aK, listOf (List.toArray kv) kn), (x, instObj 53 dx), (dx, dictOf es2 n2), (a7, listOf (List.toArray [.ref r0, .ref r1, .ref r2, .ref r3, .ref r4, .ref r5, .ref r6, .ref r7]) rn), (a9, listOf (List.toArray vF) nF), (a8, listOf (List.toArray vR) nR), (a0, listOf (List.toArray []) 0), (a1, listOf (List.toArray []) 0), (a2, listOf (List.toArray [.ref a4, .ref a3]) 0), (a3, listOf (List.toArray []) 0), (a4, listOf (List.toArray []) 0), (a5, listOf (List.toArray []) 0), (a6, listOf (List.toArray []) 0)] := tb_mk (l := [(aK, listOf (List.toArray kv) kn), (x, instObj 53 dx), (dx, dictOf es2 n2), (a7, listOf (List.toArray [.ref r0, .ref r1, .ref r2, .ref r3, .ref r4, .ref r5, .ref r6, .ref r7]) rn), (a9, listOf (List.toArray vF) nF), (a8, listOf (List.toArray vR) nR)]) (own_sub hn1 rot6) hn2
  refine rs_weak (news' := [(aK, listOf (List.toArray kv) kn), (x, instObj 53 dx), (dx, dictOf es2 n2), (a7, listOf (List.toArray [.ref r0, .ref r1, .ref r2, .ref r3, .ref r4, .ref r5, .ref r6, .ref r7]) rn), (a9, listOf (List.toArray vF) nF), (a8, listOf (List.toArray vR) nR), (a0, listOf (List.toArray []) 0), (a1, listOf (List.toArray []) 0), (a2, listOf (List.toArray [.ref a4, .ref a3]) 0), (a3, listOf (List.toArray []) 0), (a4, listOf (List.toArray []) 0), (a5, listOf (List.toArray []) 0), (a6, listOf (List.toArray []) 0)] ++ new) (fun p hp => reorder_k p hp) ?_
  obtain ⟨s3, o3, ND3, TB3⟩ := step_ok (extra := new) (main := [(aK, listOf (List.toArray kv) kn), (x, instObj 53 dx), (dx, dictOf es2 n2), (a7, listOf (List.toArray [.ref r0, .ref r1, .ref r2, .ref r3, .ref r4, .ref r5, .ref r6, .ref r7]) rn), (a9, listOf (List.toArray vF) nF), (a8, listOf (List.toArray vR) nR), (a0, listOf (List.toArray []) 0), (a1, listOf (List.toArray []) 0), (a2, listOf (List.toArray [.ref a4, .ref a3]) 0), (a3, listOf (List.toArray []) 0), (a4, listOf (List.toArray []) 0), (a5, listOf (List.toArray []) 0), (a6, listOf (List.toArray []) 0)]) (led := [(a4, listOf (List.toArray []) 0), (a3, listOf (List.toArray []) 0)]) (others := [(aK, listOf (List.toArray kv) kn), (x, instObj 53 dx), (dx, dictOf es2 n2), (a7, listOf (List.toArray [.ref r0, .ref r1, .ref r2, .ref r3, .ref r4, .ref r5, .ref r6, .ref r7]) rn), (a9, listOf (List.toArray vF) nF), (a8, listOf (List.toArray vR) nR), (a0, listOf (List.toArray []) 0), (a1, listOf (List.toArray []) 0), (a2, listOf (List.toArray [.ref a4, .ref a3]) 0), (a5, listOf (List.toArray []) 0), (a6, listOf (List.toArray []) 0)]) (d := (x, instObj 53 dx)) [10, 9, 0, 1, 2, 3, 4, 5, 6, 7, 8, 11, 12] (by decide) rfl rfl ND2' TB2'
  refine' rs_does (led := [(a4, listOf (List.toArray []) 0), (a3, listOf (List.toArray []) 0)]) (ro := [(x, instObj 53 dx), (dx, dictOf es2 n2), (a2, listOf (List.toArray [.ref a4, .ref a3]) 0), (aK, listOf (List.toArray kv) kn), (a7, listOf (List.toArray [.ref r0, .ref r1, .ref r2, .ref r3, .ref r4, .ref r5, .ref r6, .ref r7]) rn), (r4, listOf (List.toArray v4) i4), (r5, listOf (List.toArray v5) i5), (r6, listOf (List.toArray v6) i6), (r7, listOf (List.toArray v7) i7)]) (dk := 1) (rest0 := [(aK, listOf (List.toArray kv) kn), (x, instObj 53 dx), (dx, dictOf es2 n2), (a7, listOf (List.toArray [.ref r0, .ref r1, .ref r2, .ref r3, .ref r4, .ref r5, .ref r6, .ref r7]) rn), (a9, listOf (List.toArray vF) nF), (a8, listOf (List.toArray vR) nR), (a0, listOf (List.toArray []) 0), (a1, listOf (List.toArray []) 0), (a2, listOf (List.toArray [.ref a4, .ref a3]) 0), (a5, listOf (List.toArray []) 0), (a6, listOf (List.toArray []) 0)] ++ new) H ?x1 ?x2 ?x3 ?x4 rfl ?x5 (by decide) s3 o3 ?x6 rfl rfl ?_
  case x1 => k_extra "rv"
  case x2 => k_is
  case x3 => k_extra "ra"
  case x4 => k_extra "pa"
  case x5 => intro _; exact add_pawns_does (f * r) hsz x dx a2 a4 a3 aK a7 r0 r1 r2 r3 r4 r5 r6 r7 es2 n2 0 0 0 kn rn i4 i5 i6 i7 kv v4 v5 v6 v7 ks _ _ _ _ hk1 j4 j5 j6 j7 hk2 (ray_len _ _ _ _) (ray_len _ _ _ _) (ray_len _ _ _ _) (ray_len _ _ _ _) (nd_at ND 4 3 rfl rfl (by decide)) t3 b3 b11 b9 b8 rfl
  case x6 => exact List.forall_mem_cons.mpr ⟨by k_extra "mem", List.forall_mem_cons.mpr ⟨by k_extra "mem", List.forall_mem_cons.mpr ⟨by k_extra "mem", List.forall_mem_cons.mpr ⟨by k_extra "mem", List.forall_mem_cons.mpr ⟨by k_extra "mem", List.forall_mem_cons.mpr ⟨by k_extra "mem", List.forall_mem_cons.mpr ⟨by k_extra "mem", List.forall_mem_cons.mpr ⟨by k_extra "mem", List.forall_mem_cons.mpr ⟨by k_extra "mem", List.forall_mem_nil _⟩⟩⟩⟩⟩⟩⟩⟩⟩
  intro v3 news3 hW3
  obtain ⟨_, u0, w0, u1, w1, rfl⟩ := hW3
  clear s3 o3
  obtain ⟨s4, o4, ND4, TB4⟩ := step_ok (extra := new) (main := [(a4, listOf (List.toArray u0) w0), (a3, listOf (List.toArray u1) w1), (aK, listOf (List.toArray kv) kn), (x, instObj 53 dx), (dx, dictOf es2 n2), (a7, listOf (List.toArray [.ref r0, .ref r1, .ref r2, .ref r3, .ref r4, .ref r5, .ref r6, .ref r7]) rn), (a9, listOf (List.toArray vF) nF), (a8, listOf (List.toArray vR) nR), (a0, listOf (List.toArray []) 0), (a1, listOf (List.toArray []) 0), (a2, listOf (List.toArray [.ref a4, .ref a3]) 0), (a5, listOf (List.toArray []) 0), (a6, listOf (List.toArray []) 0)]) (led := [(a5, listOf (List.toArray []) 0)]) (others := [(x, instObj 53 dx), (dx, dictOf es2 n2), (a7, listOf (List.toArray [.ref r0, .ref r1, .ref r2, .ref r3, .ref r4, .ref r5, .ref r6, .ref r7]) rn), (a9, listOf (List.toArray vF) nF), (a1, listOf (List.toArray []) 0)]) (d := (x, instObj 53 dx)) [11, 3, 4, 5, 6, 9] (by decide) rfl rfl ND3 (tb_addr TB3 rfl)
  refine' rs_does (led := [(a5, listOf (List.toArray []) 0)]) (ro := [(x, instObj 53 dx), (dx, dictOf es2 n2), (a9, listOf (List.toArray vF) nF)]) (dk := 1) (rest0 := [(x, instObj 53 dx), (dx, dictOf es2 n2), (a7, listOf (List.toArray [.ref r0, .ref r1, .ref r2, .ref r3, .ref r4, .ref r5, .ref r6, .ref r7]) rn), (a9, listOf (List.toArray vF) nF), (a1, listOf (List.toArray []) 0)] ++ new) H ?x1 ?x2 ?x3 ?x4 rfl ?x5 (by decide) s4 o4 ?x6 rfl rfl ?_
  case x1 => k_extra "rv"
  case x2 => k_is
  case x3 => k_extra "ra"
  case x4 => k_extra "pa"
  case x5 => intro _; exact add_knights_does f r (f * r) hf3 hf5 hr3 hr5 hsz x dx a5 a9 es2 n2 0 nF vF [] iF tf1 t3 t4 (fm_len _ _) hkg b3 b1 b4 b6 b10 rfl
  case x6 => exact List.forall_mem_cons.mpr ⟨by k_extra "mem", List.forall_mem_cons.mpr ⟨by k_extra "mem", List.forall_mem_cons.mpr ⟨by k_extra "mem", List.forall_mem_nil _⟩⟩⟩
  intro v4 news4 hW4
  obtain ⟨_, uN, wN, rfl, iN⟩ := hW4
  clear s4 o4
  obtain ⟨s5, o5, ND5, TB5⟩ := step_ok (extra := new) (main := [(a5, listOf (List.toArray uN) wN), (x, instObj 53 dx), (dx, dictOf es2 n2), (a7, listOf (List.toArray [.ref r0, .ref r1, .ref r2, .ref r3, .ref r4, .ref r5, .ref r6, .ref r7]) rn), (a9, listOf (List.toArray vF) nF), (a1, listOf (List.toArray []) 0)]) (led := [(a1, listOf (List.toArray []) 0), (x, instObj 53 dx), (dx, dictOf es2 n2)]) (others := [(a5, listOf (List.toArray uN) wN), (a7, listOf (List.toArray [.ref r0, .ref r1, .ref r2, .ref r3, .ref r4, .ref r5, .ref r6, .ref r7]) rn)]) (d := (x, instObj 53 dx)) [5, 1, 2, 0, 3] (by decide) rfl rfl ND4 (tb_addr TB4 rfl)
  refine' rs_does (led := [(a1, listOf (List.toArray []) 0), (x, instObj 53 dx), (dx, dictOf es2 n2)]) (ro := []) (dk := 1) (rest0 := [(a5, listOf (List.toArray uN) wN), (a7, listOf (List.toArray [.ref r0, .ref r1, .ref r2, .ref r3, .ref r4, .ref r5, .ref r6, .ref r7]) rn)] ++ new) H ?x1 ?x2 ?x3 ?x4 rfl ?x5 (by decide) s5 o5 ?x6 rfl rfl ?_
  case x1 => k_extra "rv"
  case x2 => k_is
  case x3 => k_extra "ra"
  case x4 => k_extra "pa"
  case x5 => intro _; exact add_castles_does f r (f * r) hf3 hf5 hr3 hr5 hsz x dx a1 es2 n2 0 (Nat.le_trans b14 (by decide)) (nd_at ND 1 10 rfl rfl (by decide)) (nd_at ND 1 11 rfl rfl (by decide)) (nd_at ND 10 11 rfl rfl (by decide)) tf1 tr1 t3 b3 b1 b2 b12 b5 (by rw [b13]; rfl) rfl
  case x6 => exact fun p hp => nomatch hp
  intro v5 news5 hW5
  obtain ⟨_, uC, wC, es3, n3, qR, rfl, hg3⟩ := hW5
  have g1 := hg3 "files" _ (by decide) b1
  have g2 := hg3 "ranks" _ (by decide) b2
  have g3 := hg3 "size" _ (by decide) b3
  have g8 := hg3 "rays" _ (by decide) b8
  have g10 := hg3 "knight" _ (by decide) b10
  apply rs_retV
  k_extra "rv"
  intro h N
  refine ⟨x, dx, es3, n3, (a5, listOf (List.toArray uN) wN) :: (a7, listOf (List.map Value.ref [r0, r1, r2, r3, r4, r5, r6, r7]).toArray rn) :: new, _, rfl, g3, fun p hp => ?_, fun h hh => ?_⟩
  · have h9 := N p (reorder_m p hp)
    exact ⟨h9.1, h9.2.2⟩
  · refine ⟨dx, es3, n3, hh _ (.head _), hh _ (.tail _ (.head _)), ⟨_, g1⟩, ⟨_, g2⟩, ⟨_, g3⟩, ⟨a7, [r0, r1, r2, r3, r4, r5, r6, r7], g8, ⟨_, hh _ (.tail _ (.tail _ (.tail _ (.head _)))), rfl, _, rfl⟩, rfl, ?_⟩, ⟨a5, uN, g10, ⟨_, hh _ (.tail _ (.tail _ (.head _))), rfl, _, rfl⟩, iN⟩⟩
    intro j hj
    obtain ⟨vs, k, q1, q2⟩ := hr2 j hj
    refine ⟨vs, ⟨_, hh _ (.tail _ (.tail _ (.tail _ (.tail _ q1)))), rfl, _, rfl⟩, ?_⟩
    rw [rays_get hj]
    exact q2
theorem rel_words_4 : True := by
  k_with_none
  k_with "evat" => first | with_reducible exact at_files | with_reducible exact at_ranks | with_reducible exact at_size | with_reducible exact at_full | with_reducible exact at_rays | with_reducible exact at_king | with_reducible exact at_knight | with_reducible exact at_pawn | with_reducible exact at_file_masks | with_reducible exact at_rank_masks | with_reducible exact at_castles | with_reducible exact at_rights_lost | with_reducible exact at_has_castling
  k_with "evnth" => first | exact rfl | exact nth_ref (by omega)
  k_with "rv" => first | (apply r_name; assumption; exact rfl; exact rfl; exact rfl) | (apply r_glob; assumption; k_is; exact rfl; exact rfl) | (apply r_attrG; assumption; k_extra "rv"; assumption; assumption; k_extra "evat"; assumption; exact rfl) | (apply r_attrN; assumption; k_extra "rv"; k_mem; k_mem; k_extra "evat"; assumption; exact rfl) | (apply r_topItem; assumption; k_extra "rv"; k_extra "r"; k_is; decide; decide; exact rfl; exact rfl; (first | exact pi_name | exact pi_const | exact pi_bin)) | (apply r_itemVG; k_extra "rv"; k_extra "r"; assumption; (first | assumption | omega); (first | assumption | omega); k_extra "evnth"; (first | exact pi_name | exact pi_const | exact pi_bin)) | (apply r_itemVN; k_extra "rv"; k_extra "r"; k_mem; (first | assumption | omega); (first | assumption | omega); k_extra "evnth"; (first | exact pi_name | exact pi_const | exact pi_bin))
  k_with "r" => first | exact r_const | (apply r_of; k_extra "rv"; exact rfl) | (apply r_add; k_extra "r"; k_extra "r") | (apply r_sub; k_extra "r"; k_extra "r") | (apply r_and; k_extra "r"; k_extra "r") | (apply r_or; k_extra "r"; k_extra "r") | (apply r_shr; k_extra "r"; k_extra "r"; (first | assumption | omega)) | (apply r_shl; k_extra "r"; k_extra "r"; (first | assumption | omega); (first | assumption | omega); (first | assumption | omega)) | (apply r_mul; k_extra "r"; k_extra "r"; (first | assumption | omega); (first | assumption | omega)) | (apply r_mod; k_extra "r"; k_extra "r"; (first | assumption | omega)) | (apply r_div; k_extra "r"; k_extra "r"; (first | assumption | omega); (first | assumption | omega)) | (apply r_inv; k_extra "r") | (apply r_itemG; k_extra "rv"; k_extra "r"; assumption; assumption; (first | assumption | omega); (first | assumption | omega); (first | assumption | omega); (first | exact pi_name | exact pi_const | exact pi_bin)) | (apply r_itemN; k_extra "rv"; k_extra "r"; k_mem; assumption; (first | assumption | omega); (first | assumption | omega); (first | assumption | omega); (first | exact pi_name | exact pi_const | exact pi_bin))
  k_with "rc" => first | (apply rc_eq; k_extra "r"; k_extra "r"; exact rfl) | (apply rc_ne; k_extra "r"; k_extra "r"; exact rfl) | (apply rc_lt; k_extra "r"; k_extra "r"; exact rfl) | (apply rc_gt; k_extra "r"; k_extra "r"; exact rfl) | (apply rc_ge; k_extra "r"; k_extra "r"; exact rfl)
  k_with "rs" => first | (apply rs_set; assumption; k_extra "r"; exact rfl; exact rfl; intro _ _) | (apply rs_setV; assumption; k_extra "rv"; exact rfl; exact rfl; intro _) | (apply rs_ior; assumption; exact rfl; k_extra "r"; exact rfl; intro _ _) | (apply rs_iadd; assumption; exact rfl; k_extra "r"; exact rfl; intro _ _) | (apply rs_ifior_gt; assumption; exact rfl; k_extra "r"; k_extra "r"; exact rfl; (intro _; k_extra "r"); exact rfl; intro _ _) | (apply rs_ifior_lt; assumption; exact rfl; k_extra "r"; k_extra "r"; exact rfl; (intro _; k_extra "r"); exact rfl; intro _ _) | (apply rs_if; k_extra "rc"; all_goals intro _) | (apply rs_ret; k_extra "r"; intro _) | (apply rs_retV; k_extra "rv") | (apply rs_nil; (try (show RS _ _ _ _ _ _)))
  k_with "ra" => first | exact ra_nil | (apply ra_val; k_extra "rv"; k_extra "ra"; (first | exact pa_name | exact pa_const | exact pa_bin | exact pa_attr | exact pa_sub | exact pa_call)) | (apply ra_int; k_extra "r"; k_extra "ra"; (first | exact pa_name | exact pa_const | exact pa_bin | exact pa_attr | exact pa_sub | exact pa_call))
  k_with "r" => (apply r_callI; assumption; k_extra "rv"; k_is; k_extra "ra"; (first | exact pa_name | exact pa_const | exact pa_bin | exact pa_attr | exact pa_sub | exact pa_call); exact rfl; k_extra "says"; decide; k_extra "given")
  k_with "rv" => exact rv_bool
  k_with "rc" => (apply rc_and; k_extra "rc"; (intro _; k_extra "rc"))
  k_with "given" => first | (intro _ _ _; exact True.intro) | (intro _ zzF _; exact GeoH.keeps (by assumption) (Fr.keep zzF))
  k_with "frame end" => repeat (first | exact rfl | refine skip_ne (by with_reducible assumption) ?_ | refine skip_in (by with_reducible assumption) (by repeat (first | exact List.Mem.head _ | refine List.Mem.tail _ ?_)) ?_ | refine skip_b (by with_reducible assumption) ?_)
  exact True.intro
theorem led_words_4 : True := by
  k_with "in" => repeat (first | exact List.Mem.head _ | refine List.Mem.tail _ ?_)
  k_with "mem" => first | (with_reducible assumption) | (with_reducible exact List.mem_cons_self) | ((with_reducible refine List.mem_append_left _ ?_); k_extra "mem") | ((with_reducible refine List.mem_append_right _ ?_); k_extra "mem") | ((with_reducible refine List.mem_cons_of_mem _ ?_); k_extra "mem")
  k_with "k_mem" => k_extra "mem"
  k_with "ne" => (refine neN ?_; first | (with_reducible assumption) | (refine Ne.symm ?_; with_reducible assumption))
  k_with "all" => first | exact List.forall_mem_nil _ | (with_reducible assumption) | ((with_reducible refine List.forall_mem_cons.mpr ⟨?_, ?_⟩); k_extra "ne"; k_extra "all") | ((with_reducible refine List.forall_mem_append.mpr ⟨?_, ?_⟩); k_extra "all"; k_extra "all") | (intro zzp zzhp; refine off_at (by assumption) zzhp ?_; k_extra "in")
  k_with "upd" => first | ((with_reducible apply Upd.head); k_extra "all") | ((with_reducible apply Upd.tail); k_extra "ne"; k_extra "upd")
  k_with "size" => first | (with_reducible assumption) | exact le2000 (by with_reducible assumption) | omega
  k_with "pa" => first | exact pa_name | exact pa_const | exact pa_bin | exact pa_attr | exact pa_sub | exact pa_call | exact pa_neg
  k_with "r" => (apply r_neg; k_extra "r")
  k_with "rs" => (apply rs_append; k_extra "rv"; k_extra "mem"; k_extra "r"; k_extra "pa"; exact rfl; exact rfl; exact rfl; k_extra "size"; (intro _; k_extra "upd"); intro _)
  k_with "rc" => first | (apply rc_int; k_extra "r"; exact rfl) | (apply rc_not; k_extra "rc") | (apply rc_bool; k_extra "rv"; exact rfl)
  k_with "rb" => first | (apply rv_gt; k_extra "r"; k_extra "r"; exact rfl) | (apply rv_eq; k_extra "r"; k_extra "r"; exact rfl)
  k_with "rv" => first | k_extra "rb" | (apply rv_or; k_extra "rb"; k_extra "rb") | (apply r_callB; assumption; k_extra "rv"; k_is; k_extra "ra"; k_extra "pa"; exact rfl; k_extra "saysB"; decide; k_extra "given")
  k_with "rs" => first | (apply rs_setItem; k_extra "r"; k_extra "rv"; k_extra "r"; k_extra "mem"; assumption; (first | assumption | omega); (first | assumption | omega); (first | assumption | omega); exact rfl; (intro _; k_extra "upd"); intro _ _) | (apply rs_iorItem; k_extra "rv"; k_extra "r"; k_extra "mem"; k_extra "r"; assumption; (first | assumption | omega); (first | assumption | omega); (first | assumption | omega); (intro _; k_extra "upd"); intro _ _) | (apply rs_appendV; k_extra "rv"; k_extra "mem"; k_extra "rv"; k_extra "pa"; exact rfl; exact rfl; exact rfl; k_extra "size"; k_extra "upd")
  k_with "rs" => (apply rs_iand; assumption; exact rfl; k_extra "r"; exact rfl; intro _ _)
  exact True.intro
theorem says_words_4 : True := by
  k_with "says" => (intro _; exact count_bits_says _ _ (by first | with_reducible assumption | exact and_pos (by with_reducible assumption) (by with_reducible assumption)) rfl)
  k_with "says" => (intro _; exact square_colour_says _ _ _ _ (by with_reducible assumption) (by with_reducible assumption) rfl)
  k_with "says" => (intro _; exact piece_rook_says _ (by with_reducible assumption) _ _ _ _ _ _ (by with_reducible assumption) (by with_reducible assumption) rfl)
  k_with "says" => (intro _; exact piece_bishop_says _ (by with_reducible assumption) _ _ _ _ _ _ (by with_reducible assumption) (by with_reducible assumption) rfl)
  k_with "says" => (intro _; exact piece_queen_says _ (by with_reducible assumption) _ _ _ _ _ _ (by with_reducible assumption) (by with_reducible assumption) rfl)
  k_with "says" => (intro _; exact piece_knight_says _ (by with_reducible assumption) _ _ _ _ _ _ (by with_reducible assumption) (by with_reducible assumption) rfl)
  k_with "rcl" => first | exact rcl_nil | (apply rcl_cons; k_extra "rc"; (intro _; k_extra "rcl"))
  k_with "rc" => (apply rc_all; k_extra "rcl")
  k_with "rc" => (apply rc_or; k_extra "rc"; (intro _; k_extra "rc"))
  k_with "rs" => (apply rs_ints2; assumption; k_extra "r"; k_extra "r"; k_extra "pa"; k_extra "pa"; exact rfl; exact rfl; exact rfl; exact rfl; intro _ _ _)
  exact True.intro
structure RookOk (g : GeoD) (a : Int) : Prop where
  pos : ∀ sq : Int, 0 ≤ sq → sq < g.size → 0 ≤ g.rook sq
  cnt : (popN (g.rook a).toNat : Int) = g.files + g.ranks - 2
  amid : ∀ goal : Int, 0 ≤ goal → goal < g.size → goal ≠ a → (popN (Builtin.bitAnd (g.rook a) (g.rook goal)).toNat : Int) = if goal.fmod g.files = a.fmod g.files then (g.ranks : Int) - 2 else if goal.fdiv g.files = a.fdiv g.files then (g.files : Int) - 2 else 2
set_option maxHeartbeats 4000000 in
theorem rook_right_says (g : GeoD) (ok : GeoOk g) (x : Addr) (a : Int) (ta : Tok) (hs0 : 0 ≤ a) (hs1 : a < g.size) (R : RookOk g a) :
    PySem.Challenge.rw_tg0013_01.foot = 6 → Says 183 8 (GeoH g x) [.ref x, .int a ta] (fun _ r _ => r = .bool true) := by
  unfold Says
  k_fill
  intro _ w
  show SaysW w _ _ _ _ _
  refine' says_rel (n := 7) ?k6 ?k7 ?k9 ?kB ?c2 ?c3 ?c4 ?c5 ?_
  case k6 => k_is
  case k7 => k_is
  case k9 => intro _; exact BindsTo.of_eq rfl
  case kB => exact locs rfl
  case c2 => exact rfl
  case c3 => exact rfl
  case c4 => exact rfl
  case c5 => decide
  intro A gh L c H hG
  have hG' := hG
  obtain ⟨dx, es, nn, hx, hdx, hE⟩ := hG
  obtain ⟨t1, h1⟩ := hE.files
  obtain ⟨t2, h2⟩ := hE.ranks
  obtain ⟨t3, h3⟩ := hE.size
  have hsz := ok.sz
  have hf3 := ok.f3
  have hf5 := ok.f5
  have hr3 := ok.r3
  have hr5 := ok.r5
  have hp := R.pos a hs0 hs1
  have hsm := Nat.le_trans hsz (show 25 ≤ 1000000 by decide)
  have hfz : (g.files : Int) ≠ 0 := by omega
  have hfs : (g.files : Int).natAbs < 1073741824 := by omega
  have hc := R.cnt
  apply rs_set
  assumption
  k_extra "r"
  exact rfl
  exact rfl
  intro _ _
  apply rs_if
  k_extra "rc"
  · intro h; exact absurd hc h
  intro _
  apply rs_nil
  (show RS _ _ _ _ _ _)
  refine' rs_search ["amid"] H ?qa hsm pa_attr ?qg ?qr ?qx ?qs ?_ ?_
  case qa => k_extra "r"
  case qg => k_is
  case qr => exact rfl
  case qx => exact rfl
  case qs => intro _; rfl
  · intro i t u own hi0 hi1 ho m'
    have hpk := R.pos i hi0 hi1
    have hak := R.amid i hi0 hi1
    generalize hRR : TurnS _ _ _ _ _ _ = RR
    apply rs_set
    assumption
    k_extra "r"
    exact rfl
    exact rfl
    intro _ _
    apply rs_if
    k_extra "rc"
    · intro h1
      apply rs_set
      assumption
      k_extra "r"
      exact rfl
      exact rfl
      intro _ _
      apply rs_nil
      (show RS _ _ _ _ _ _)
      apply rs_if
      k_extra "rc"
      · intro h
        exact absurd ((hak h.1).trans (if_pos h1)) h.2.1
      · intro _
        repeat' (k_extra "rs")
        subst hRR
        exact turnS_end (by intro z z1 z2; k_extra "frame end")
    · intro h1
      apply rs_if
      k_extra "rc"
      · intro h2
        apply rs_set
        assumption
        k_extra "r"
        exact rfl
        exact rfl
        intro _ _
        apply rs_nil
        apply rs_nil
        (show RS _ _ _ _ _ _)
        apply rs_if
        k_extra "rc"
        · intro h
          exact absurd ((hak h.1).trans ((if_neg h1).trans (if_pos h2))) h.2.1
        · intro _
          repeat' (k_extra "rs")
          subst hRR
          exact turnS_end (by intro z z1 z2; k_extra "frame end")
      · intro h2
        apply rs_nil
        apply rs_nil
        (show RS _ _ _ _ _ _)
        apply rs_if
        k_extra "rc"
        · intro h
          exact absurd ((hak h.1).trans ((if_neg h1).trans (if_neg h2))) h.2.1
        · intro _
          repeat' (k_extra "rs")
          subst hRR
          exact turnS_end (by intro z z1 z2; k_extra "frame end")
  · intro u m'
    repeat' (k_extra "rs")
    exact fun _ _ => rfl
theorem rel_words_5 : True := by
  k_with_none
  k_with "evat" => first | with_reducible exact at_files | with_reducible exact at_ranks | with_reducible exact at_size | with_reducible exact at_full | with_reducible exact at_rays | with_reducible exact at_king | with_reducible exact at_knight | with_reducible exact at_pawn | with_reducible exact at_file_masks | with_reducible exact at_rank_masks | with_reducible exact at_castles | with_reducible exact at_rights_lost | with_reducible exact at_has_castling
  k_with "evnth" => first | exact rfl | exact nth_ref (by omega)
  k_with "rv" => first | (apply r_name; assumption; exact rfl; exact rfl; exact rfl) | (apply r_glob; assumption; k_is; exact rfl; exact rfl) | (apply r_attrG; assumption; k_extra "rv"; assumption; assumption; k_extra "evat"; assumption; exact rfl) | (apply r_attrN; assumption; k_extra "rv"; k_mem; k_mem; k_extra "evat"; assumption; exact rfl) | (apply r_topItem; assumption; k_extra "rv"; k_extra "r"; k_is; decide; decide; exact rfl; exact rfl; (first | exact pi_name | exact pi_const | exact pi_bin)) | (apply r_itemVG; k_extra "rv"; k_extra "r"; assumption; (first | assumption | omega); (first | assumption | omega); k_extra "evnth"; (first | exact pi_name | exact pi_const | exact pi_bin)) | (apply r_itemVN; k_extra "rv"; k_extra "r"; k_mem; (first | assumption | omega); (first | assumption | omega); k_extra "evnth"; (first | exact pi_name | exact pi_const | exact pi_bin))
  k_with "r" => first | exact r_const | (apply r_of; k_extra "rv"; exact rfl) | (apply r_add; k_extra "r"; k_extra "r") | (apply r_sub; k_extra "r"; k_extra "r") | (apply r_and; k_extra "r"; k_extra "r") | (apply r_or; k_extra "r"; k_extra "r") | (apply r_shr; k_extra "r"; k_extra "r"; (first | assumption | omega)) | (apply r_shl; k_extra "r"; k_extra "r"; (first | assumption | omega); (first | assumption | omega); (first | assumption | omega)) | (apply r_mul; k_extra "r"; k_extra "r"; (first | assumption | omega); (first | assumption | omega)) | (apply r_mod; k_extra "r"; k_extra "r"; (first | assumption | omega)) | (apply r_div; k_extra "r"; k_extra "r"; (first | assumption | omega); (first | assumption | omega)) | (apply r_inv; k_extra "r") | (apply r_itemG; k_extra "rv"; k_extra "r"; assumption; assumption; (first | assumption | omega); (first | assumption | omega); (first | assumption | omega); (first | exact pi_name | exact pi_const | exact pi_bin)) | (apply r_itemN; k_extra "rv"; k_extra "r"; k_mem; assumption; (first | assumption | omega); (first | assumption | omega); (first | assumption | omega); (first | exact pi_name | exact pi_const | exact pi_bin))
  k_with "rc" => first | (apply rc_eq; k_extra "r"; k_extra "r"; exact rfl) | (apply rc_ne; k_extra "r"; k_extra "r"; exact rfl) | (apply rc_lt; k_extra "r"; k_extra "r"; exact rfl) | (apply rc_gt; k_extra "r"; k_extra "r"; exact rfl) | (apply rc_ge; k_extra "r"; k_extra "r"; exact rfl)
  k_with "rs" => first | (apply rs_set; assumption; k_extra "r"; exact rfl; exact rfl; intro _ _) | (apply rs_setV; assumption; k_extra "rv"; exact rfl; exact rfl; intro _) | (apply rs_ior; assumption; exact rfl; k_extra "r"; exact rfl; intro _ _) | (apply rs_iadd; assumption; exact rfl; k_extra "r"; exact rfl; intro _ _) | (apply rs_ifior_gt; assumption; exact rfl; k_extra "r"; k_extra "r"; exact rfl; (intro _; k_extra "r"); exact rfl; intro _ _) | (apply rs_ifior_lt; assumption; exact rfl; k_extra "r"; k_extra "r"; exact rfl; (intro _; k_extra "r"); exact rfl; intro _ _) | (apply rs_if; k_extra "rc"; all_goals intro _) | (apply rs_ret; k_extra "r"; intro _) | (apply rs_retV; k_extra "rv") | (apply rs_nil; (try (show RS _ _ _ _ _ _)))
  k_with "ra" => first | exact ra_nil | (apply ra_val; k_extra "rv"; k_extra "ra"; (first | exact pa_name | exact pa_const | exact pa_bin | exact pa_attr | exact pa_sub | exact pa_call)) | (apply ra_int; k_extra "r"; k_extra "ra"; (first | exact pa_name | exact pa_const | exact pa_bin | exact pa_attr | exact pa_sub | exact pa_call))
  k_with "r" => (apply r_callI; assumption; k_extra "rv"; k_is; k_extra "ra"; (first | exact pa_name | exact pa_const | exact pa_bin | exact pa_attr | exact pa_sub | exact pa_call); exact rfl; k_extra "says"; decide; k_extra "given")
  k_with "rv" => exact rv_bool
  k_with "rc" => (apply rc_and; k_extra "rc"; (intro _; k_extra "rc"))
  k_with "given" => first | (intro _ _ _; exact True.intro) | (intro _ zzF _; exact GeoH.keeps (by assumption) (Fr.keep zzF))
  k_with "frame end" => repeat (first | exact rfl | refine skip_ne (by with_reducible assumption) ?_ | refine skip_in (by with_reducible assumption) (by repeat (first | exact List.Mem.head _ | refine List.Mem.tail _ ?_)) ?_ | refine skip_b (by with_reducible assumption) ?_)
  exact True.intro
theorem led_words_5 : True := by
  k_with "in" => repeat (first | exact List.Mem.head _ | refine List.Mem.tail _ ?_)
  k_with "mem" => first | (with_reducible assumption) | (with_reducible exact List.mem_cons_self) | ((with_reducible refine List.mem_append_left _ ?_); k_extra "mem") | ((with_reducible refine List.mem_append_right _ ?_); k_extra "mem") | ((with_reducible refine List.mem_cons_of_mem _ ?_); k_extra "mem")
  k_with "k_mem" => k_extra "mem"
  k_with "ne" => (refine neN ?_; first | (with_reducible assumption) | (refine Ne.symm ?_; with_reducible assumption))
  k_with "all" => first | exact List.forall_mem_nil _ | (with_reducible assumption) | ((with_reducible refine List.forall_mem_cons.mpr ⟨?_, ?_⟩); k_extra "ne"; k_extra "all") | ((with_reducible refine List.forall_mem_append.mpr ⟨?_, ?_⟩); k_extra "all"; k_extra "all") | (intro zzp zzhp; refine off_at (by assumption) zzhp ?_; k_extra "in")
  k_with "upd" => first | ((with_reducible apply Upd.head); k_extra "all") | ((with_reducible apply Upd.tail); k_extra "ne"; k_extra "upd")
  k_with "size" => first | (with_reducible assumption) | exact le2000 (by with_reducible assumption) | omega
  k_with "pa" => first | exact pa_name | exact pa_const | exact pa_bin | exact pa_attr | exact pa_sub | exact pa_call | exact pa_neg
  k_with "r" => (apply r_neg; k_extra "r")
  k_with "rs" => (apply rs_append; k_extra "rv"; k_extra "mem"; k_extra "r"; k_extra "pa"; exact rfl; exact rfl; exact rfl; k_extra "size"; (intro _; k_extra "upd"); intro _)
  k_with "rc" => first | (apply rc_int; k_extra "r"; exact rfl) | (apply rc_not; k_extra "rc") | (apply rc_bool; k_extra "rv"; exact rfl)
  k_with "rb" => first | (apply rv_gt; k_extra "r"; k_extra "r"; exact rfl) | (apply rv_eq; k_extra "r"; k_extra "r"; exact rfl)
  k_with "rv" => first | k_extra "rb" | (apply rv_or; k_extra "rb"; k_extra "rb") | (apply r_callB; assumption; k_extra "rv"; k_is; k_extra "ra"; k_extra "pa"; exact rfl; k_extra "saysB"; decide; k_extra "given")
  k_with "rs" => first | (apply rs_setItem; k_extra "r"; k_extra "rv"; k_extra "r"; k_extra "mem"; assumption; (first | assumption | omega); (first | assumption | omega); (first | assumption | omega); exact rfl; (intro _; k_extra "upd"); intro _ _) | (apply rs_iorItem; k_extra "rv"; k_extra "r"; k_extra "mem"; k_extra "r"; assumption; (first | assumption | omega); (first | assumption | omega); (first | assumption | omega); (intro _; k_extra "upd"); intro _ _) | (apply rs_appendV; k_extra "rv"; k_extra "mem"; k_extra "rv"; k_extra "pa"; exact rfl; exact rfl; exact rfl; k_extra "size"; k_extra "upd")
  k_with "rs" => (apply rs_iand; assumption; exact rfl; k_extra "r"; exact rfl; intro _ _)
  exact True.intro
theorem says_words_5 : True := by
  k_with "says" => (intro _; exact count_bits_says _ _ (by first | with_reducible assumption | exact and_pos (by with_reducible assumption) (by with_reducible assumption)) rfl)
  k_with "says" => (intro _; exact square_colour_says _ _ _ _ (by with_reducible assumption) (by with_reducible assumption) rfl)
  k_with "says" => (intro _; exact piece_rook_says _ (by with_reducible assumption) _ _ _ _ _ _ (by with_reducible assumption) (by with_reducible assumption) rfl)
  k_with "says" => (intro _; exact piece_bishop_says _ (by with_reducible assumption) _ _ _ _ _ _ (by with_reducible assumption) (by with_reducible assumption) rfl)
  k_with "says" => (intro _; exact piece_queen_says _ (by with_reducible assumption) _ _ _ _ _ _ (by with_reducible assumption) (by with_reducible assumption) rfl)
  k_with "says" => (intro _; exact piece_knight_says _ (by with_reducible assumption) _ _ _ _ _ _ (by with_reducible assumption) (by with_reducible assumption) rfl)
  k_with "rcl" => first | exact rcl_nil | (apply rcl_cons; k_extra "rc"; (intro _; k_extra "rcl"))
  k_with "rc" => (apply rc_all; k_extra "rcl")
  k_with "rc" => (apply rc_or; k_extra "rc"; (intro _; k_extra "rc"))
  k_with "rs" => (apply rs_ints2; assumption; k_extra "r"; k_extra "r"; k_extra "pa"; k_extra "pa"; exact rfl; exact rfl; exact rfl; exact rfl; intro _ _ _)
  exact True.intro
def GeoD.colour (g : GeoD) (sq : Int) : Int := Builtin.bitAnd (sq.fmod g.files + sq.fdiv g.files) 1
def bitAt (b sq : Int) : Int := Builtin.bitAnd (b.fdiv (2 ^ sq.toNat)) 1
structure BishopOk (g : GeoD) (a : Int) : Prop where
  apart : Builtin.bitAnd (g.bishop a) (g.rook a) = 0
  both : g.queen a = Builtin.bitOr (g.bishop a) (g.rook a)
  other : ∀ goal : Int, 0 ≤ goal → goal < g.size → Builtin.bitAnd (goal.fmod g.files + goal.fdiv g.files) 1 ≠ Builtin.bitAnd (a.fmod g.files + a.fdiv g.files) 1 → Builtin.bitAnd (g.bishop a) (g.bishop goal) = 0 ∧ Builtin.bitAnd ((g.bishop a).fdiv (2 ^ goal.toNat)) 1 ≠ 1
  alike : ∀ goal : Int, 0 ≤ goal → goal < g.size → Builtin.bitAnd (goal.fmod g.files + goal.fdiv g.files) 1 = Builtin.bitAnd (a.fmod g.files + a.fdiv g.files) 1 → goal ≠ a → (g.files : Int) = g.ranks → Builtin.bitAnd (g.bishop a) (g.bishop goal) = 0 → Builtin.bitAnd ((g.bishop a).fdiv (2 ^ goal.toNat)) 1 ≠ 0
  sym : ∀ goal : Int, 0 ≤ goal → goal < g.size → Builtin.bitAnd ((g.bishop a).fdiv (2 ^ goal.toNat)) 1 = Builtin.bitAnd ((g.bishop goal).fdiv (2 ^ a.toNat)) 1
set_option maxHeartbeats 4000000 in
theorem bishop_right_says (g : GeoD) (ok : GeoOk g) (x : Addr) (a : Int) (ta : Tok) (hs0 : 0 ≤ a) (hs1 : a < g.size) (R : BishopOk g a) :
    PySem.Challenge.rw_tg0013_01.foot = 6 → Says 190 8 (GeoH g x) [.ref x, .int a ta] (fun _ r _ => r = .bool true) := by
  unfold Says
  k_fill
  intro _ w
  show SaysW w _ _ _ _ _
  refine' says_rel (n := 7) ?k6 ?k7 ?k9 ?kB ?c2 ?c3 ?c4 ?c5 ?_
  case k6 => k_is
  case k7 => k_is
  case k9 => intro _; exact BindsTo.of_eq rfl
  case kB => exact locs rfl
  case c2 => exact rfl
  case c3 => exact rfl
  case c4 => exact rfl
  case c5 => decide
  intro A gh L c H hG
  have hG' := hG
  obtain ⟨dx, es, nn, hx, hdx, hE⟩ := hG
  obtain ⟨t1, h1⟩ := hE.files
  obtain ⟨t2, h2⟩ := hE.ranks
  obtain ⟨t3, h3⟩ := hE.size
  have hsz := ok.sz
  have hf5 := ok.f5
  have hf0 : 0 < g.files := Nat.lt_of_lt_of_le (by decide) ok.f3
  have hsm := Nat.le_trans hsz (show 25 ≤ 1000000 by decide)
  have hap := R.apart
  have hbo := R.both
  apply rs_set
  assumption
  k_extra "r"
  exact rfl
  exact rfl
  intro _ _
  apply rs_ints2
  assumption
  k_extra "r"
  k_extra "r"
  k_extra "pa"
  k_extra "pa"
  exact rfl
  exact rfl
  exact rfl
  exact rfl
  intro _ _ _
  apply rs_if
  k_extra "rc"
  · intro h; exact False.elim (h.elim (absurd hap) (absurd hbo))
  intro _
  apply rs_nil
  (show RS _ _ _ _ _ _)
  refine' rs_search ["there", "is_alike"] H ?qa hsm pa_attr ?qg ?qr ?qx ?qs ?_ ?_
  case qa => k_extra "r"
  case qg => k_is
  case qr => exact rfl
  case qx => exact rfl
  case qs => intro _; rfl
  · intro i t u own hi0 hi1 ho m'
    have hot := R.other i hi0 hi1
    have hal := R.alike i hi0 hi1
    have hsy := R.sym i hi0 hi1
    generalize hRR : TurnS _ _ _ _ _ _ = RR
    apply rs_set
    assumption
    k_extra "r"
    exact rfl
    exact rfl
    intro _ _
    apply rs_setV
    assumption
    k_extra "rv"
    exact rfl
    exact rfl
    intro _
    apply rs_if
    k_extra "rc"
    · intro h
      have h2 := hot (ne_of_beq h.1)
      exact False.elim (h.2.1.elim (absurd h2.1) h2.2)
    intro _
    apply rs_nil
    apply rs_if
    k_extra "rc"
    · intro h
      exact (hal (eq_of_beq h.1) h.2.1 h.2.2.1 h.2.2.2.1 h.2.2.2.2.1).elim
    intro _
    apply rs_nil
    apply rs_if
    k_extra "rc"
    · intro h
      exact absurd hsy h
    intro _
    repeat' (k_extra "rs")
    subst hRR
    exact turnS_end (by intro z z1 z2; k_extra "frame end")
  · intro u m'
    repeat' (k_extra "rs")
    exact fun _ _ => rfl
theorem rel_words_6 : True := by
  k_with_none
  k_with "evat" => first | with_reducible exact at_files | with_reducible exact at_ranks | with_reducible exact at_size | with_reducible exact at_full | with_reducible exact at_rays | with_reducible exact at_king | with_reducible exact at_knight | with_reducible exact at_pawn | with_reducible exact at_file_masks | with_reducible exact at_rank_masks | with_reducible exact at_castles | with_reducible exact at_rights_lost | with_reducible exact at_has_castling
  k_with "evnth" => first | exact rfl | exact nth_ref (by omega)
  k_with "rv" => first | (apply r_name; assumption; exact rfl; exact rfl; exact rfl) | (apply r_glob; assumption; k_is; exact rfl; exact rfl) | (apply r_attrG; assumption; k_extra "rv"; assumption; assumption; k_extra "evat"; assumption; exact rfl) | (apply r_attrN; assumption; k_extra "rv"; k_mem; k_mem; k_extra "evat"; assumption; exact rfl) | (apply r_topItem; assumption; k_extra "rv"; k_extra "r"; k_is; decide; decide; exact rfl; exact rfl; (first | exact pi_name | exact pi_const | exact pi_bin)) | (apply r_itemVG; k_extra "rv"; k_extra "r"; assumption; (first | assumption | omega); (first | assumption | omega); k_extra "evnth"; (first | exact pi_name | exact pi_const | exact pi_bin)) | (apply r_itemVN; k_extra "rv"; k_extra "r"; k_mem; (first | assumption | omega); (first | assumption | omega); k_extra "evnth"; (first | exact pi_name | exact pi_const | exact pi_bin))
  k_with "r" => first | exact r_const | (apply r_of; k_extra "rv"; exact rfl) | (apply r_add; k_extra "r"; k_extra "r") | (apply r_sub; k_extra "r"; k_extra "r") | (apply r_and; k_extra "r"; k_extra "r") | (apply r_or; k_extra "r"; k_extra "r") | (apply r_shr; k_extra "r"; k_extra "r"; (first | assumption | omega)) | (apply r_shl; k_extra "r"; k_extra "r"; (first | assumption | omega); (first | assumption | omega); (first | assumption | omega)) | (apply r_mul; k_extra "r"; k_extra "r"; (first | assumption | omega); (first | assumption | omega)) | (apply r_mod; k_extra "r"; k_extra "r"; (first | assumption | omega)) | (apply r_div; k_extra "r"; k_extra "r"; (first | assumption | omega); (first | assumption | omega)) | (apply r_inv; k_extra "r") | (apply r_itemG; k_extra "rv"; k_extra "r"; assumption; assumption; (first | assumption | omega); (first | assumption | omega); (first | assumption | omega); (first | exact pi_name | exact pi_const | exact pi_bin)) | (apply r_itemN; k_extra "rv"; k_extra "r"; k_mem; assumption; (first | assumption | omega); (first | assumption | omega); (first | assumption | omega); (first | exact pi_name | exact pi_const | exact pi_bin))
  k_with "rc" => first | (apply rc_eq; k_extra "r"; k_extra "r"; exact rfl) | (apply rc_ne; k_extra "r"; k_extra "r"; exact rfl) | (apply rc_lt; k_extra "r"; k_extra "r"; exact rfl) | (apply rc_gt; k_extra "r"; k_extra "r"; exact rfl) | (apply rc_ge; k_extra "r"; k_extra "r"; exact rfl)
  k_with "rs" => first | (apply rs_set; assumption; k_extra "r"; exact rfl; exact rfl; intro _ _) | (apply rs_setV; assumption; k_extra "rv"; exact rfl; exact rfl; intro _) | (apply rs_ior; assumption; exact rfl; k_extra "r"; exact rfl; intro _ _) | (apply rs_iadd; assumption; exact rfl; k_extra "r"; exact rfl; intro _ _) | (apply rs_ifior_gt; assumption; exact rfl; k_extra "r"; k_extra "r"; exact rfl; (intro _; k_extra "r"); exact rfl; intro _ _) | (apply rs_ifior_lt; assumption; exact rfl; k_extra "r"; k_extra "r"; exact rfl; (intro _; k_extra "r"); exact rfl; intro _ _) | (apply rs_if; k_extra "rc"; all_goals intro _) | (apply rs_ret; k_extra "r"; intro _) | (apply rs_retV; k_extra "rv") | (apply rs_nil; (try (show RS _ _ _ _ _ _)))
  k_with "ra" => first | exact ra_nil | (apply ra_val; k_extra "rv"; k_extra "ra"; (first | exact pa_name | exact pa_const | exact pa_bin | exact pa_attr | exact pa_sub | exact pa_call)) | (apply ra_int; k_extra "r"; k_extra "ra"; (first | exact pa_name | exact pa_const | exact pa_bin | exact pa_attr | exact pa_sub | exact pa_call))
  k_with "r" => (apply r_callI; assumption; k_extra "rv"; k_is; k_extra "ra"; (first | exact pa_name | exact pa_const | exact pa_bin | exact pa_attr | exact pa_sub | exact pa_call); exact rfl; k_extra "says"; decide; k_extra "given")
  k_with "rv" => exact rv_bool
  k_with "rc" => (apply rc_and; k_extra "rc"; (intro _; k_extra "rc"))
  k_with "given" => first | (intro _ _ _; exact True.intro) | (intro _ zzF _; exact GeoH.keeps (by assumption) (Fr.keep zzF))
  k_with "frame end" => repeat (first | exact rfl | refine skip_ne (by with_reducible assumption) ?_ | refine skip_in (by with_reducible assumption) (by repeat (first | exact List.Mem.head _ | refine List.Mem.tail _ ?_)) ?_ | refine skip_b (by with_reducible assumption) ?_)
  exact True.intro
theorem led_words_6 : True := by
  k_with "in" => repeat (first | exact List.Mem.head _ | refine List.Mem.tail _ ?_)
  k_with "mem" => first | (with_reducible assumption) | (with_reducible exact List.mem_cons_self) | ((with_reducible refine List.mem_append_left _ ?_); k_extra "mem") | ((with_reducible refine List.mem_append_right _ ?_); k_extra "mem") | ((with_reducible refine List.mem_cons_of_mem _ ?_); k_extra "mem")
  k_with "k_mem" => k_extra "mem"
  k_with "ne" => (refine neN ?_; first | (with_reducible assumption) | (refine Ne.symm ?_; with_reducible assumption))
  k_with "all" => first | exact List.forall_mem_nil _ | (with_reducible assumption) | ((with_reducible refine List.forall_mem_cons.mpr ⟨?_, ?_⟩); k_extra "ne"; k_extra "all") | ((with_reducible refine List.forall_mem_append.mpr ⟨?_, ?_⟩); k_extra "all"; k_extra "all") | (intro zzp zzhp; refine off_at (by assumption) zzhp ?_; k_extra "in")
  k_with "upd" => first | ((with_reducible apply Upd.head); k_extra "all") | ((with_reducible apply Upd.tail); k_extra "ne"; k_extra "upd")
  k_with "size" => first | (with_reducible assumption) | exact le2000 (by with_reducible assumption) | omega
  k_with "pa" => first | exact pa_name | exact pa_const | exact pa_bin | exact pa_attr | exact pa_sub | exact pa_call | exact pa_neg
  k_with "r" => (apply r_neg; k_extra "r")
  k_with "rs" => (apply rs_append; k_extra "rv"; k_extra "mem"; k_extra "r"; k_extra "pa"; exact rfl; exact rfl; exact rfl; k_extra "size"; (intro _; k_extra "upd"); intro _)
  k_with "rc" => first | (apply rc_int; k_extra "r"; exact rfl) | (apply rc_not; k_extra "rc") | (apply rc_bool; k_extra "rv"; exact rfl)
  k_with "rb" => first | (apply rv_gt; k_extra "r"; k_extra "r"; exact rfl) | (apply rv_eq; k_extra "r"; k_extra "r"; exact rfl)
  k_with "rv" => first | k_extra "rb" | (apply rv_or; k_extra "rb"; k_extra "rb") | (apply r_callB; assumption; k_extra "rv"; k_is; k_extra "ra"; k_extra "pa"; exact rfl; k_extra "saysB"; decide; k_extra "given")
  k_with "rs" => first | (apply rs_setItem; k_extra "r"; k_extra "rv"; k_extra "r"; k_extra "mem"; assumption; (first | assumption | omega); (first | assumption | omega); (first | assumption | omega); exact rfl; (intro _; k_extra "upd"); intro _ _) | (apply rs_iorItem; k_extra "rv"; k_extra "r"; k_extra "mem"; k_extra "r"; assumption; (first | assumption | omega); (first | assumption | omega); (first | assumption | omega); (intro _; k_extra "upd"); intro _ _) | (apply rs_appendV; k_extra "rv"; k_extra "mem"; k_extra "rv"; k_extra "pa"; exact rfl; exact rfl; exact rfl; k_extra "size"; k_extra "upd")
  k_with "rs" => (apply rs_iand; assumption; exact rfl; k_extra "r"; exact rfl; intro _ _)
  exact True.intro
theorem says_words_6 : True := by
  k_with "says" => (intro _; exact count_bits_says _ _ (by first | with_reducible assumption | exact and_pos (by with_reducible assumption) (by with_reducible assumption)) rfl)
  k_with "says" => (intro _; exact square_colour_says _ _ _ _ (by with_reducible assumption) (by with_reducible assumption) rfl)
  k_with "says" => (intro _; exact piece_rook_says _ (by with_reducible assumption) _ _ _ _ _ _ (by with_reducible assumption) (by with_reducible assumption) rfl)
  k_with "says" => (intro _; exact piece_bishop_says _ (by with_reducible assumption) _ _ _ _ _ _ (by with_reducible assumption) (by with_reducible assumption) rfl)
  k_with "says" => (intro _; exact piece_queen_says _ (by with_reducible assumption) _ _ _ _ _ _ (by with_reducible assumption) (by with_reducible assumption) rfl)
  k_with "says" => (intro _; exact piece_knight_says _ (by with_reducible assumption) _ _ _ _ _ _ (by with_reducible assumption) (by with_reducible assumption) rfl)
  k_with "rcl" => first | exact rcl_nil | (apply rcl_cons; k_extra "rc"; (intro _; k_extra "rcl"))
  k_with "rc" => (apply rc_all; k_extra "rcl")
  k_with "rc" => (apply rc_or; k_extra "rc"; (intro _; k_extra "rc"))
  k_with "rs" => (apply rs_ints2; assumption; k_extra "r"; k_extra "r"; k_extra "pa"; k_extra "pa"; exact rfl; exact rfl; exact rfl; exact rfl; intro _ _ _)
  exact True.intro
/-- one goal of a round: the leaps, the edge -/
def leapStep (bits sq : Int) (p : List Int × List Int) (goal : Int) : List Int × List Int :=
  if Builtin.bitAnd (bits.fdiv (2 ^ goal.toNat)) 1 = 1 ∧ p.1.getD goal.toNat 0 < 0 then (p.1.set goal.toNat (p.1.getD sq.toNat 0 + 1), p.2 ++ [goal]) else p
def leapTurn (g : GeoD) (sq : Int) (leaps rest : List Int) : List Int × List Int := (rangeKs 0 g.size).foldl (leapStep (g.knight.getD sq.toNat 0) sq) (leaps, rest)
/-- the rounds, within f pops: the leaps, the number of pops -/
def bfs (g : GeoD) : Nat → List Int → List Int → Option (List Int × Nat)
  | 0, _, _ => none
  | _ + 1, leaps, [] => some (leaps, 0)
  | f + 1, leaps, sq :: rest => (bfs g f (leapTurn g sq leaps rest).1 (leapTurn g sq leaps rest).2).map fun p => (p.1, p.2 + 1)
theorem bfs_more (g : GeoD) : ∀ (f : Nat) (l e : List Int) (r : List Int × Nat), bfs g f l e = some r → bfs g (f + 1) l e = some r := by
  intro f
  induction f with
  | zero => intro l e r h; cases h
  | succ f ih =>
    intro l e r h
    cases e with
    | nil => exact h
    | cons sq rest =>
      rw [bfs] at h ⊢
      cases h2 : bfs g f (leapTurn g sq l rest).1 (leapTurn g sq l rest).2 with
      | none => rw [h2] at h; cases h
      | some q => rw [ih _ _ _ h2]; rw [h2] at h; exact h
theorem leapFold_len (bits sq : Int) : ∀ (ks : List Int) (p : List Int × List Int), (ks.foldl (leapStep bits sq) p).1.length = p.1.length ∧ p.2.length ≤ (ks.foldl (leapStep bits sq) p).2.length ∧ (ks.foldl (leapStep bits sq) p).2.length ≤ p.2.length + ks.length := by
  intro ks
  induction ks with
  | nil => intro p; exact ⟨rfl, Nat.le_refl _, Nat.le_refl _⟩
  | cons k r ih =>
    intro p
    rw [List.foldl_cons, List.length_cons]
    obtain ⟨h1, h2, h3⟩ := ih (leapStep bits sq p k)
    have h4 : (leapStep bits sq p k).1.length = p.1.length ∧ p.2.length ≤ (leapStep bits sq p k).2.length ∧ (leapStep bits sq p k).2.length ≤ p.2.length + 1 := by
      unfold leapStep
      split
      · simp
      · simp
    exact ⟨h1.trans h4.1, Nat.le_trans h4.2.1 h2, by omega⟩
theorem bfs_len (g : GeoD) : ∀ (f : Nat) (l e r : List Int) (k : Nat), bfs g f l e = some (r, k) → e.length ≤ k ∧ k < f := by
  intro f
  induction f with
  | zero => intro l e r k h; cases h
  | succ f ih =>
    intro l e r k h
    cases e with
    | nil => cases h; exact ⟨Nat.le_refl _, Nat.succ_pos _⟩
    | cons sq rest =>
      rw [bfs] at h
      cases h2 : bfs g f (leapTurn g sq l rest).1 (leapTurn g sq l rest).2 with
      | none => rw [h2] at h; cases h
      | some q =>
        rw [h2] at h
        obtain ⟨q1, q2⟩ := q
        cases h
        have h3 := ih _ _ _ _ h2
        have h4 := (leapFold_len (g.knight.getD sq.toNat 0) sq (rangeKs 0 g.size) (l, rest)).2.1
        rw [List.length_cons]
        have h5 : (leapTurn g sq l rest).2 = ((rangeKs 0 g.size).foldl (leapStep (g.knight.getD sq.toNat 0) sq) (l, rest)).2 := rfl
        rw [h5] at h3
        dsimp only at h4 ⊢
        omega
/-- between two pops -/
def RoundInv (g : GeoD) (res leaps edge : List Int) : Prop :=
  (∃ k, bfs g 1000 leaps edge = some (res, k)) ∧ leaps.length = g.size ∧ (∀ e ∈ edge, 0 ≤ e ∧ e < g.size)
def roundMu (g : GeoD) (leaps edge : List Int) : Nat := ((bfs g 1000 leaps edge).map (·.2)).getD 0
theorem round_turn {g : GeoD} {res leaps rest : List Int} {sq : Int} (h : RoundInv g res leaps (sq :: rest)) (hl : (leapTurn g sq leaps rest).1.length = g.size) (he : ∀ e ∈ (leapTurn g sq leaps rest).2, 0 ≤ e ∧ e < g.size) :
    RoundInv g res (leapTurn g sq leaps rest).1 (leapTurn g sq leaps rest).2 ∧ roundMu g (leapTurn g sq leaps rest).1 (leapTurn g sq leaps rest).2 < roundMu g leaps (sq :: rest) := by
  obtain ⟨⟨k, h1⟩, h2, h3⟩ := h
  have h0 := h1
  rw [bfs] at h1
  cases h4 : bfs g 999 (leapTurn g sq leaps rest).1 (leapTurn g sq leaps rest).2 with
  | none => rw [h4] at h1; cases h1
  | some q =>
    rw [h4] at h1
    cases h1
    have h5 := bfs_more g _ _ _ _ h4
    refine ⟨⟨⟨_, h5⟩, hl, he⟩, ?_⟩
    unfold roundMu
    rw [h5, h0]
    exact Nat.lt_succ_self _
theorem round_len {g : GeoD} {res leaps edge : List Int} (h : RoundInv g res leaps edge) : edge.length ≤ 1000 := by
  obtain ⟨⟨k, h1⟩, _⟩ := h
  have := bfs_len g _ _ _ _ _ h1
  omega
theorem round_done {g : GeoD} {res leaps : List Int} (h : RoundInv g res leaps []) : leaps = res := by
  obtain ⟨⟨k, h1⟩, _⟩ := h
  cases h1
  rfl
/-- within a round: pre is looked at -/
def GoalInv (g : GeoD) (sq : Int) (l₀ rest pre l e : List Int) : Prop := (l, e) = pre.foldl (leapStep (g.knight.getD sq.toNat 0) sq) (l₀, rest) ∧ l.length = g.size ∧ (∀ z ∈ e, 0 ≤ z ∧ z < g.size) ∧ e.length ≤ rest.length + pre.length

theorem goal_yes {g : GeoD} {sq goal : Int} {l₀ rest pre l e : List Int} (h : GoalInv g sq l₀ rest pre l e) (h0 : 0 ≤ goal) (h1 : goal < g.size) (hb : Builtin.bitAnd ((g.knight.getD sq.toNat 0).fdiv (2 ^ goal.toNat)) 1 = 1) (hn : l.getD goal.toNat 0 < 0) :
    GoalInv g sq l₀ rest (pre ++ [goal]) (l.set goal.toNat (l.getD sq.toNat 0 + 1)) (e ++ [goal]) := by
  obtain ⟨h2, h3, h4, h5⟩ := h
  refine ⟨?_, by rw [List.length_set]; exact h3, ?_, by simp; omega⟩
  · rw [List.foldl_append, ← h2, List.foldl_cons, List.foldl_nil, leapStep, if_pos ⟨hb, hn⟩]
  · intro z hz
    rcases List.mem_append.mp hz with hz | hz
    · exact h4 z hz
    · rw [List.mem_singleton.mp hz]; exact ⟨h0, h1⟩
theorem goal_no {g : GeoD} {sq goal : Int} {l₀ rest pre l e : List Int} (h : GoalInv g sq l₀ rest pre l e) (hc : ¬ (Builtin.bitAnd ((g.knight.getD sq.toNat 0).fdiv (2 ^ goal.toNat)) 1 = 1 ∧ l.getD goal.toNat 0 < 0)) :
    GoalInv g sq l₀ rest (pre ++ [goal]) l e := by
  obtain ⟨h2, h3, h4, h5⟩ := h
  refine ⟨?_, h3, h4, by simp; omega⟩
  rw [List.foldl_append, ← h2, List.foldl_cons, List.foldl_nil, leapStep, if_neg hc]
theorem goal_done {g : GeoD} {res : List Int} {sq : Int} {l₀ rest l e : List Int} {n : Nat} (hn : n = g.size) (h : GoalInv g sq l₀ rest (rangeKs 0 n) l e) (hI : RoundInv g res l₀ (sq :: rest)) : RoundInv g res l e ∧ roundMu g l e < roundMu g l₀ (sq :: rest) := by
  subst hn
  obtain ⟨h2, h3, h4, h5⟩ := h
  have e1 : leapTurn g sq l₀ rest = (l, e) := h2.symm
  have := round_turn hI (by rw [e1]; exact h3) (by rw [e1]; exact h4)
  rw [e1] at this
  exact this
set_option maxHeartbeats 4000000 in
theorem rounds_says (g : GeoD) (ok : GeoOk g) (x : Addr) (a : Int) (ta : Tok) (res : List Int) (hs0 : 0 ≤ a) (hs1 : a < g.size) (hr : RoundInv g res ((List.replicate g.size (-1)).set a.toNat 0) [a]) :
    PySem.Challenge.rw_tg0013_01.foot = 6 → Says 197 20 (GeoH g x) [.ref x, .int a ta] (ListV res) := by
  unfold Says
  k_fill
  intro _ w
  show SaysW w _ _ _ _ _
  refine' says_rel (n := 19) ?k6 ?k7 ?k9 ?kB ?c2 ?c3 ?c4 ?c5 ?_
  case k6 => k_is
  case k7 => k_is
  case k9 => intro _; exact BindsTo.of_eq rfl
  case kB => exact locs rfl
  case c2 => exact rfl
  case c3 => exact rfl
  case c4 => exact rfl
  case c5 => decide
  intro A gh L c H hG
  have hG' := hG
  obtain ⟨dx, es0, nn, hx, hdx, hE⟩ := hG
  obtain ⟨t3, h3⟩ := hE.size
  have hsz := ok.sz
  have hsm := Nat.le_trans hsz (show 25 ≤ 1000 by decide)
  have hsM := Nat.le_trans hsz (show 25 ≤ 1000000 by decide)
  have hsI : (g.size : Int) ≤ 1000 := Int.ofNat_le.mpr hsm
  have ha1 : a < ((List.replicate g.size (-1 : Int)).length : Int) := by rw [List.length_replicate]; exact hs1
  have ha2 := Int.lt_of_lt_of_le hs1 hsI
  refine' rs_new H (rn_mul (r_neg r_const) pa_neg ?ka hsm) rfl rfl ?hh
  case ka => intro _ _; k_extra "r"
  case' hh => intro aL obL hL _ m1
  obtain ⟨vs0, j0, rfl, hi0⟩ := hL
  repeat' (k_extra "rs")
  rename_i hi1
  refine' rs_new H (rn_list1 ?kb pa_name) rfl rfl ?hh3
  case kb => k_extra "r"
  case' hh3 => intro aE obE hE2 fE m2
  obtain ⟨vs1, j1, rfl, hi2⟩ := hE2
  have d1 : @Ne Nat aL aE := fE _ (.head _)
  clear fE
  refine' rs_while (σ := (List Value × List Int × Nat) × (List Value × List Int × Nat)) (fun d => [(aE, listOf (List.toArray d.2.1) d.2.2.2), (aL, listOf (List.toArray d.1.1) d.1.2.2)]) (fun _ => []) (fun d => IntsAre d.1.1 d.1.2.1 ∧ IntsAre d.2.1 d.2.2.1) ["square", "bits", "goal"] (fun d => RoundInv g res d.1.2.1 d.2.2.1) (fun d => roundMu g d.1.2.1 d.2.2.1) ((_, _, _), (_, _, _)) ⟨hi1, hi2⟩ (List.forall_mem_nil _) hr (fun d => d.2.2.1 ≠ []) ?hT ?turn ?done
  case hT =>
    intro d u hF _
    obtain ⟨⟨us, ls, n1⟩, vs, es, n2⟩ := d
    obtain ⟨hF1, hF2⟩ := hF
    dsimp only at hF1 hF2 ⊢
    apply rc_ne_nil
    assumption
    decide
    k_extra "rv"
    k_extra "mem"
    assumption
  case turn =>
    intro d u hF hP hT m3
    obtain ⟨⟨us, ls, n1⟩, vs, es, n2⟩ := d
    obtain ⟨hF1, hF2⟩ := hF
    dsimp only at hF1 hF2 hP hT ⊢
    have hlen := round_len hP
    have hll := hP.2.1
    have hel := hP.2.2
    cases hF2 with
    | nil => exact absurd rfl hT
    | cons e t hF3 =>
      rename_i vs es
      have he0 := (hel e (.head _)).1
      have he1 := (hel e (.head _)).2
      have hel2 : es.length ≤ 999 := Nat.le_of_succ_le_succ hlen
      have hel3 : vs.length ≤ 1000 := hF3.length ▸ Nat.le_succ_of_le hel2
      have hgs : GoalInv g e ls es [] ls es := ⟨rfl, hll, fun z hz => hel z (.tail _ hz), Nat.le_refl _⟩
      generalize hRR : TurnW _ _ _ _ _ _ _ _ _ = RR
      apply rs_pop0
      assumption
      k_extra "rv"
      k_extra "mem"
      exact rfl
      exact rfl
      exact rfl
      k_extra "size"
      k_extra "upd"
      intro m4
      repeat' (k_extra "rs")
      refine' rs_for (σ := (List Value × List Int × Nat) × (List Value × List Int × Nat)) (fun d => [(aE, listOf (List.toArray d.2.1) d.2.2.2), (aL, listOf (List.toArray d.1.1) d.1.2.2)]) (fun _ => []) (fun d => IntsAre d.1.1 d.1.2.1 ∧ IntsAre d.2.1 d.2.2.1) [] (fun pre d => GoalInv g e ls es pre d.1.2.1 d.2.2.1) ((us, ls, n1), (vs, es, _)) H ?qa hsM pa_attr ?qg ?qr ?qx ⟨hF1, hF3⟩ (List.forall_mem_nil _) hgs ?turn2 ?done2 ?qs
      case qa => k_extra "r"
      case qg => k_is
      case qr => exact rfl
      case qx => exact rfl
      case qs => intro _; exact rfl
      case turn2 =>
        intro d pre i t u own hq1 hq2 ho hF hI
        obtain ⟨⟨us2, ls2, k1⟩, vs2, es2, k2⟩ := d
        obtain ⟨hG1, hG2⟩ := hF
        dsimp only at hG1 hG2 hI ⊢
        have hi0 : 0 ≤ i := hq1 ▸ Int.natCast_nonneg _
        have his : i < (g.size : Int) := hq1 ▸ Int.ofNat_lt.mpr hq2
        have hl1 := hI.2.1
        have hl2 := hI.2.2.2
        have hia : i < (ls2.length : Int) := hl1 ▸ his
        have hea : e < (ls2.length : Int) := hl1 ▸ he1
        have hi63 := lt_63 his hsz
        have he63 := lt_63 he1 hsz
        have hiK := Int.lt_of_lt_of_le his hsI
        have hlv : vs2.length ≤ 2000 := by rw [hG2.length]; exact Nat.le_trans hl2 (Nat.le_trans (Nat.add_le_add hel2 (Nat.le_trans (Nat.le_of_lt hq2) hsz)) (by decide))
        (show RS _ _ _ ((aE, _) :: (aL, _) :: own) _ _)
        generalize hR2 : TurnEnd _ _ _ _ _ _ _ _ _ _ _ = R2
        apply rs_if
        k_extra "rc"
        · intro hc
          repeat' (k_extra "rs")
          subst hR2
          exact ⟨((_, ls2.set i.toNat (ls2.getD e.toNat 0 + 1), k1), (vs2 ++ [_], es2 ++ [i], k2 + 1)), fun _ hp => List.mem_append_left own hp, fun _ hp => List.mem_append_right [_, _] hp, rfl, ⟨by assumption, hG2.append (.cons _ _ .nil)⟩, List.forall_mem_nil _, (by intro z z1 z2 z3; k_extra "frame end"), goal_yes hI hi0 his hc.1 hc.2.1⟩
        · intro hc
          repeat' (k_extra "rs")
          subst hR2
          exact ⟨((us2, ls2, k1), (vs2, es2, k2)), fun _ hp => List.mem_append_left own hp, fun _ hp => List.mem_append_right [_, _] hp, rfl, ⟨hG1, hG2⟩, List.forall_mem_nil _, (by intro z z1 z2 z3; k_extra "frame end"), goal_no hI (fun h => hc ⟨h.1, h.2, trivial⟩)⟩
      case done2 =>
        intro d u hF hI
        obtain ⟨⟨us2, ls2, k1⟩, vs2, es2, k2⟩ := d
        obtain ⟨hG1, hG2⟩ := hF
        dsimp only at hG1 hG2 hI ⊢
        have hT := goal_done rfl hI hP
        refine rs_nil ?_
        subst hRR
        exact ⟨((us2, ls2, k1), (vs2, es2, k2)), fun _ hp => hp, ⟨hG1, hG2⟩, List.forall_mem_nil _, (by intro z z1 z2; k_extra "frame end"), hT.1, hT.2⟩
  case done =>
    intro d u hF hP hT m3
    obtain ⟨⟨us, ls, n1⟩, vs, es, n2⟩ := d
    obtain ⟨hF1, hF2⟩ := hF
    dsimp only at hF1 hF2 hP hT ⊢
    have he := Decidable.of_not_not hT
    subst he
    apply rs_retV
    k_extra "rv"
    intro h N
    have hm := N (aL, listOf us.toArray n1) (.tail _ (.head _))
    exact ⟨aL, us, n1, rfl, hm.2.2, hm.1, round_done hP ▸ hF1⟩
theorem words_of_R7 : True := by
  k_with_none
  k_with "InvEndN" => (refine' search_end ?F ?N ?a ?b ?c; (case F => assumption); (case N => assumption); (case a => (intro zzp zzhp; first | (exact absurd zzhp List.not_mem_nil) | (simp only [List.mem_append, List.mem_cons] at *; simp_all))); (case b => (intro zzp zzhp; first | assumption | (simp only [List.nil_append, List.mem_append, List.mem_cons]; simp [zzhp]))); (case c => (intro zzz zzh1 zzh2; walk_at "frame end")))
  k_with "frame end" => repeat (first | exact rfl | refine skip_ne (by with_reducible assumption) ?_ | refine skip_in (by with_reducible assumption) (by repeat (first | exact List.Mem.head _ | refine List.Mem.tail _ ?_)) ?_ | refine skip_b (by with_reducible assumption) ?_)
  k_with "k_steps" => repeat' (first | (k_unfold; (try dsimp only)) | (k_end; wrow_close) | ((with_reducible show wpAny _ _ (exec _ _) _ _ _); (with_reducible refine tok_next ?_); intro _) | (walk1; (try dsimp only)) | (dsimp only; walk1) | (leave1; walk_say "STEP leave1"; try dsimp only) | fail "no step")
  k_with "storeName" => (k_here; k_dflt (refine' storeX_L ?F ?N ?_ ?a ?b; (case F => k_asm); (case N => k_asm); (case a => rfl); (case b => rfl); k_whole; intro zzhq zzFq zzNq; (try k_sweep); refine fr_let zzFq ?_; clear zzFq; intro zzmLq zzFq))
  k_with "conj" => first | with_reducible assumption | with_reducible exact cj0 (by assumption) | with_reducible exact cj1 (by assumption) | with_reducible exact cj2 (by assumption) | with_reducible exact cj3 (by assumption) | with_reducible exact cj4 (by assumption) | with_reducible exact cj5 (by assumption) | with_reducible exact cj6 (by assumption) | with_reducible exact cj7 (by assumption) | with_reducible exact cj8 (by assumption) | with_reducible exact cj9 (by assumption) | with_reducible exact cj10 (by assumption) | with_reducible exact cj11 (by assumption) | with_reducible exact cj12 (by assumption) | with_reducible exact cl1 (by assumption) | with_reducible exact cl2 (by assumption) | with_reducible exact cl3 (by assumption) | with_reducible exact cl4 (by assumption) | with_reducible exact cl5 (by assumption) | with_reducible exact cl6 (by assumption) | with_reducible exact cl7 (by assumption) | with_reducible exact cl8 (by assumption) | with_reducible exact cl9 (by assumption) | with_reducible exact cl10 (by assumption) | with_reducible exact cl11 (by assumption) | with_reducible exact cl12 (by assumption)
  k_with "k_ne" => (refine neN ?_; (try dsimp only); first | (refine Nat.ne_of_gt ?_; walk_at "conj") | (refine Nat.ne_of_lt ?_; walk_at "conj") | walk_at "conj" | (refine Ne.symm ?_; walk_at "conj"))
  k_with "ktr_units" => exact units_of (by assumption) rfl
  k_with "ktr_room" => first | exact room1 (by assumption) rfl | exact room2 (by assumption) rfl | exact room3 (by assumption) rfl
  k_with "getAttr ref" => (k_here; k_dflt (refine' geo_get ?F ?X ?h1 ?h2 ?k5 ?k6 ?k7 ?k8 ?l ?h ?_; (case F => k_asm); (case h1 => assumption); (case h2 => assumption); (case X => k_asm); (case k5 => k_is); (case k6 => k_is); (case k7 => k_is); (case k8 => k_is); (case l => assumption); (case h => k_handed); k_whole))
  k_with "tb_start" => (refine' enter_ro ?k1 ?k2 ?k3 ?k4 ?kK ?kR ?k6 ?k7 ?k8 ?k9 ?kB ?_ ?c2 ?c3 ?c4 ?c5; (case k1 => assumption); (case k2 => assumption); (case k3 => assumption); (case k4 => assumption); (case kK => assumption); (case kR => assumption); (case k6 => k_is); (case k7 => k_is); (case k8 => omega); (case k9 => exact BindsTo.of_eq rfl); (case c5 => decide); (case kB => exact locs rfl); (case c2 => exact rfl); (case c3 => exact rfl); (case c4 => exact rfl); k_whole; intro zzLq zzhq zztkq zzFq zzNq zzBq zzXq zzTq; (simp only [List.map_cons, List.map_nil, List.zip_cons_cons, List.zip_nil_left, List.reverse_cons, List.reverse_nil, List.nil_append, List.cons_append] at zzFq); (try dsimp only); (try k_fold))
  k_with "tb_rel" => ((try dsimp only); (try k_unfold); (show EndV _ _ _ _ _ _); refine ⟨_, _, _, rfl, (by assumption), ?_⟩; first | exact ⟨_, rfl⟩ | exact rfl)
  k_with "binaryOp FloorDiv int int" => ((with_reducible refine floordiv_int ?b ?_ (Or.inl (PyProof.noPylong_small ?p))); (case b => omega); (case p => omega))
  k_with "binaryOp Mod int int" => ((with_reducible refine mod_int' ?b ?_); (case b => omega))
  k_with "binaryOp RShift int int" => ((with_reducible refine rshift_int ?b ?_); (case b => omega))
  k_with "binaryOp LShift int int" => ((with_reducible refine lshift_int_small ?a ?b ?c ?_); (case a => omega); (case b => omega); (case c => omega))
  k_with "subscriptTail" => (k_here; (with_reducible show wpAny _ _ (subscriptTail _ _ (Value.ref _) (Value.int _ _)) _ _ _); k_dflt (refine' sub_ints ?F ?l ?i ?a ?b ?c ?_ ?s; (case F => k_asm); (case l => assumption); (case i => assumption); (case a => omega); (case b => omega); (case c => omega); (case s => with_unfolding_all rfl); k_whole); intro _)
  k_with "subscriptTail" => (k_here; (with_reducible show wpAny _ _ (subscriptTail _ _ (Value.ref _) (Value.int _ _)) _ _ _); k_dflt (refine' sub_refs ?F ?l ?a ?b ?c ?_ ?s ?g; (case F => k_asm); (case l => assumption); (case a => omega); (case b => omega); (case c => omega); (case s => with_unfolding_all rfl); (case g => intro _; with_unfolding_all rfl); k_whole))
  k_with "storeName" => (k_here; k_dflt (refine' storeX_L ?F ?N ?_ ?a ?b; (case F => k_asm); (case N => k_asm); (case a => rfl); (case b => rfl); k_whole; intro zzhq zzFq zzNq; (try k_sweep)))
  k_with "storeName" => (k_here; k_dflt (refine' storeX_L ?F ?N ?_ ?a ?b; (case F => k_asm); (case N => k_asm); (case a => rfl); (case b => rfl); k_whole; intro zzhq zzFq zzNq; (try k_sweep); refine fr_let zzFq ?_; clear zzFq; intro zzmLq zzFq))
  k_with "ktr_unf" => first | omega | exact and_pos (by omega) (by omega)
  k_with "call ref" => (k_here; k_dflt (refine' says_int (square_colour_says ?g _ _ _ ?c0 ?c1 rfl) ?k1 ?k2 ?k3 ?k4 ?k5 ?kK ?kG ?kd ?ku ?_; (case k1 => k_asm); (case k2 => k_asm); (case k3 => k_asm); (case k4 => k_asm); (case k5 => k_asm); (case kK => first | exact rfl | assumption); (case kG => exact GeoH.keeps (by assumption) (Fr.keep (by assumption))); (case c0 => omega); (case c1 => omega); (case kd => ktr_room); (case ku => ktr_units); k_whole); intro zzt9 zzh9 zztk9 zzF9 zzN9; (try k_sweep))
  k_with "pyIter ref" => (with_reducible refine hold ?_)
  k_with "compareOp NotEq ref ref" => (k_here; (with_reducible show wpAny _ _ (compareOp CmpOp.NotEq (Value.ref _) (Value.ref _)) _ _ _); (with_unfolding_all refine' ne_intsK ?k1 ?k2 ?k3 ?k4 ?k5 ?_; (case k1 => is_list); (case k2 => l_intsC); (case k3 => is_list); (case k4 => l_intsC); (case k5 => ktr_units); k_whole))
  k_with "storeName" => (k_here; k_dflt (refine' storeX_L ?F ?N ?_ ?a ?b; (case F => k_asm); (case N => k_asm); (case a => rfl); (case b => rfl); k_whole; intro zzhq zzFq zzNq; (try k_sweep)))
  k_with "storeName" => (k_here; k_dflt (refine' storeX_L ?F ?N ?_ ?a ?b; (case F => k_asm); (case N => k_asm); (case a => rfl); (case b => rfl); k_whole; intro zzhq zzFq zzNq; (try k_sweep); refine fr_let zzFq ?_; clear zzFq; intro zzmLq zzFq))
  exact True.intro
section
variable {prog : Program} {w : World} {p : Program} {loose : List Str} {mean : ExcName → Option Value} {mg mb : Str → Option Value} {dp un : Nat} {gd : Option (List Code)} {cn : Str} {cs : Scope} {a : Addr} {ccd : Value} {cl : List (Str × Addr)} {outer : List Env} {A₀ : Around} {base h₀ : Heap} {L : Addr} {m : Str → Option Value} {s : Shared} {Q E : Value → Shared → Prop}
  {K : Frag} {f : Addr} {vs : List Value} {V : Heap → Value → Heap → Prop}
  {name qual : Str} {params : Arguments} {body : List Stmt} {scope : Scope} {dV kV doc pm cdv ct oc : Value} {an od : Option Addr} {osl : Array (Option Value)}
/-- the entry where names are cells -/
theorem enter_roC (B : Below A₀ base outer h₀) (F : Fr h₀ L s.heap m) (X : K.In h₀) (T : Top p loose mean mg mb h₀) (hk : cs.kind = .function)
    (hret : ∀ r h' tk', s.heap.StaysIn h' → Fr h₀ L h' m → Got V s.heap r h' → Q r { s with heap := h', toks := tk' })
    (ho : K.lookup f = some ⟨oc, od, .func (fnOf name qual params body scope dV kV doc pm an cdv ct), osl⟩) (hcd : codeIn K cdv qual = true) (hroom : dp < recursionLimit)
    (hbind : BindsTo s (fnOf name qual params body scope dV kV doc pm an cdv ct) ⟨vs, []⟩ ((params.args.map (·.arg)).zip vs)) (hkind : (((params.args.map (·.arg)).zip vs).all fun y => scope.names.lookup y.1 == some .local || scope.names.lookup y.1 == some .cell) = true)
    (hnd : ((cellsFrom 0 scope.names []).map (·.1)).Nodup)
    (h : ∀ L' h₁ tk₁ cells, Fr s.heap L' h₁ (bindL (envOfC qual scope L' f cdv).kindOf ((params.args.map (·.arg)).zip vs) fun _ => none) → News s.heap L' h₁ cells →
      CellsAre (bindC (envOfC qual scope L' f cdv).kindOf ((params.args.map (·.arg)).zip vs) fun _ => none) (cellsFrom (L' + 1) scope.names []) cells →
      Below (ktrTop dp un gd cn cs L a ccd cl outer) base (envX cn cs L a ccd cl :: outer) s.heap → K.In s.heap → Top p loose mean mg mb s.heap →
      wpAny (model prog w) ((ktrTop dp un gd cn cs L a ccd cl outer).deeper (envOfC qual scope L' f cdv)) (execs body (envOfC qual scope L' f cdv))
        (EndV V s.heap L' s) (fun _ _ => False) { s with heap := h₁, toks := tk₁ })
    (hco : scope.isCoroutine = false) (hgen : scope.isGenerator = false) (hkf : scope.kind = .function) : wpAny (model prog w) (ktrTop dp un gd cn cs L a ccd cl outer) (call (.ref f) vs) Q E s := by
  refine wpAny_call ?_
  have X' := X.keeps F.keep
  have hA : (ktrTop dp un gd cn cs L a ccd cl outer).frames = some (envX cn cs L a ccd cl :: outer) := rfl
  obtain ⟨FG, BG, st, lv⟩ := groundX (A := ktrTop dp un gd cn cs L a ccd cl outer) (env := envX cn cs L a ccd cl) (R := fun r s' => match r with | .ok (.ret v) => Q v s' | .ok _ => False | .error e => E e s') B F (News.nil) hA rfl hk
  have hlim := T.nolimit
  refine codeAny_call_function hroom (X' _ _ ho) rfl hco hgen rfl (codeRec_of X' hcd) (hbind _ _ _ _ ?_)
  refine wpAny_newFunctionEnv_cells hkf (kindsX hkind _) fun env' he s' x => ?_
  subst he
  refine ⟨(hlim.keeps F.keep).keeps x.toInCall.keep, codeAny_func ?_⟩
  obtain ⟨h₁, tk, rfl, _⟩ := x.done
  have hk₁ := x.toInCall.keep
  obtain ⟨cells, NC, Y⟩ := Cl.news (h₀ := s.heap) (Nat.le_refl _) fun n c hm => ⟨x.cell n c (lookup_of_mem_nodup (cellsFrom_names scope.names 0 (s.heap.objs.size + 1) [] [] rfl ▸ hnd) hm), x.above n c hm⟩
  have F₁ : Fr s.heap s.heap.objs.size h₁ (bindL (envOfC qual scope s.heap.objs.size f cdv).kindOf ((params.args.map (·.arg)).zip vs) fun _ => none) := ⟨x.toInCall.ns, hk₁, Nat.le_refl _⟩
  refine wpAny_mono (h s.heap.objs.size h₁ _ cells F₁ NC Y BG X' (T.keeps F.keep)) (fun fl s' hl => ?_) fun _ _ y => y.elim
  obtain ⟨h', tk', m', rfl, F', hv⟩ := hl
  refine lv _ _ (leaveK_ F' News.nil fun kF _ => ?_)
  exact hret _ _ _ F'.keep kF hv
end
section
variable {prog : Program} {w : World} {A : Around} {E : Value → Shared → Prop} {s : Shared} {env : Env} {h₀ : Heap} {x : Str} {body : List Stmt} {Q : Flow → Shared → Prop} {L : Addr}
/-- a loop over range(b) that keeps nothing -/
theorem loop_searchZ {r : Addr} {b : Int} {t₀ u₀ v₀ : Tok} {m₀ : Str → Option Value} {news : List (Addr × Obj)} (stored : List Str)
    (hh : A.handled = none) (hr : IsRange s.heap r 0 b 1 t₀ u₀ v₀) (hb0 : -1000000 ≤ b) (hb1 : b ≤ 1000000) (F : Fr h₀ env.locals s.heap m₀) (N : News h₀ env.locals s.heap news)
    (turn : ∀ (k : Int) t (u : Str → Option Value) h tk own, 0 ≤ k → k < b → OwnOff own (news.map (·.1)) → Fr h₀ env.locals h (fun y => if y = x then some (.int k t) else if stored.contains y then u y else m₀ y) → News h₀ env.locals h (news ++ own) →
      wpAny (model prog w) A (execs body env) (InvPostN h₀ env.locals (SearchEnd news x stored m₀) own (news.map (·.1)) { s with heap := h, toks := tk } Q) E { s with heap := h, toks := tk })
    (done : ∀ (u : Str → Option Value) h tk, Fr h₀ env.locals h (fun y => if y = x then u y else if stored.contains y then u y else m₀ y) → News h₀ env.locals h news → Q .next { s with heap := h, toks := tk }) :
    wpAny (model prog w) A (pyIter (.ref r)) (fun it s₂ => LoopAtV prog w A h₀ env x body Q E it s₂) E s := by
  refine kst_range (fun _ : Unit => news) (fun _ => []) (fun _ => True) stored (fun _ _ => True) () hh hr (small_one (by omega) (by omega) (by omega) (by omega)) (rangeSize_nat _ _) F N True.intro (List.forall_mem_nil _) True.intro ?_ ?_
  · intro c pre k t u h tk own hk hl ho _ _ F' N'
    exact turn k t u h tk own (by omega) (by omega) ho F' N'
  · intro c u h tk _ _ F' N'
    exact done u h tk F' N'
/-- a turn's end where the loop's own name is a cell -/
def CellEnd (h₀ : Heap) (L : Addr) (m₀ : Str → Option Value) (pre post : List (Addr × Obj)) (c : Addr) (own : List (Addr × Obj)) (s₁ : Shared) (f : Flow) (s₂ : Shared) : Prop :=
  f = .next ∧ ∃ h' tk o' vo', s₂ = { s₁ with heap := h', toks := tk } ∧ Fr h₀ L h' m₀ ∧ News h₀ L h' ((pre ++ (c, o') :: post) ++ own) ∧ o'.data = .cell vo'
theorem cell_end {m₀ : Str → Option Value} {pre post own news' : List (Addr × Obj)} {c : Addr} {s₁ : Shared} {h' : Heap} {tk : Nat} {o' : Obj} {vo' : Option Value} (F : Fr h₀ L h' m₀) (N : News h₀ L h' news') (hn : ∀ p ∈ (pre ++ (c, o') :: post) ++ own, p ∈ news') (hd : o'.data = .cell vo') :
    CellEnd h₀ L m₀ pre post c own s₁ .next { s₁ with heap := h', toks := tk } := ⟨rfl, h', tk, o', vo', rfl, F, fun p hp => N p (hn p hp), hd⟩
theorem loop_cell {target : Expr} {r : Addr} {b : Int} {t₀ u₀ v₀ : Tok} {m₀ : Str → Option Value} {c : Addr} {o : Obj} {vo : Option Value} (pre post : List (Addr × Obj))
    (hgo : ∀ it v, letOwnedTupleGo target it v = pure ())
    (hh : A.handled = none) (hr : IsRange s.heap r 0 b 1 t₀ u₀ v₀) (hb0 : -1000000 ≤ b) (hb1 : b ≤ 1000000) (F : Fr h₀ env.locals s.heap m₀) (N : News h₀ env.locals s.heap (pre ++ (c, o) :: post)) (hd : o.data = .cell vo)
    (turn : ∀ (k : Int) t o' vo' (s₁ : Shared) own, 0 ≤ k → k < b → OwnOff own ((pre ++ (c, o) :: post).map (·.1)) → o'.data = .cell vo' → Fr h₀ env.locals s₁.heap m₀ → News h₀ env.locals s₁.heap ((pre ++ (c, o') :: post) ++ own) →
      wpAny (model prog w) A (assign target env (.int k t)) (fun _ s₃ => wpAny (model prog w) A (execs body env) (CellEnd h₀ env.locals m₀ pre post c own s₁) E s₃) E s₁)
    (done : ∀ o' vo' h tk, o'.data = .cell vo' → Fr h₀ env.locals h m₀ → News h₀ env.locals h (pre ++ (c, o') :: post) → Q .next { s with heap := h, toks := tk }) :
    wpAny (model prog w) A (pyIter (.ref r)) (fun it s₂ => LoopAtT prog w A h₀ env target body Q E it s₂) E s := by
  have hadr : ∀ o₁ o₂ : Obj, (pre ++ (c, o₁) :: post).map (·.1) = (pre ++ (c, o₂) :: post).map (·.1) := fun o₁ o₂ => by simp
  have hoffs : ∀ o' : Obj, ∀ p ∈ pre ++ (c, o') :: post, p.1 ∉ [s.heap.objs.size] := by
    intro o' p hp hI
    have hp' : p.1 ∈ (pre ++ (c, o) :: post).map (·.1) := by rw [hadr o o']; exact List.mem_map_of_mem hp
    obtain ⟨q, hq, hqe⟩ := List.mem_map.mp hp'
    have h1 := Heap.lt_size (N q hq).1
    rw [hqe, List.mem_singleton.mp hI] at h1
    exact Nat.lt_irrefl _ h1
  refine wpAny_pyIter_range hr (small_one (by omega) (by omega) (by omega) (by omega)) ?_
  have W : Walks prog w A s.heap.objs.size [s.heap.objs.size] [s.heap.objs.size] (b - 0).toNat (fun i v => i < (b - 0).toNat ∧ ∃ t, v = .int (0 + i * 1) t)
      (fun i h => IsRangeIter h s.heap.objs.size (0 + (i : Nat) * 1) (((b - 0).toNat : Int) - (i : Nat)) 1) := (Walks.range hh _ 0 1 (b - 0).toNat).bound
  refine ⟨_, _, _, _, _, _, m₀, _, (fun _ m nx => m = m₀ ∧ ∃ o' vo', nx = pre ++ (c, o') :: post ∧ o'.data = .cell vo'), rfl, W, ?_, ?_, hoffs o, ?_, F.push _, (fun p hp => ⟨Heap.get?_push_of_some _ (N p hp).1, (N p hp).2⟩), ?_, ⟨rfl, o, vo, rfl, hd⟩, ?_, ?_⟩
  · intro hm
    exact absurd F.ns.lt ((List.mem_singleton.mp hm) ▸ Nat.lt_irrefl _)
  · intro b hb
    rw [List.mem_singleton.mp hb]
    exact next_is_new F
  · show IsRangeIter _ _ _ _ _
    rw [rangeSize_nat]
    simpa using Heap.get?_push_size _ rfl
  · intro i s' v Q' _ hQ
    rw [hgo]
    exact wpAny_pure hQ
  · rintro i v m₁ nx s₁ own hi ⟨hlt, t, rfl⟩ ⟨rfl, o', vo', rfl, hd'⟩ hoff hown _ _ _ F₁ N₁
    have N₂ : News h₀ env.locals s₁.heap ((pre ++ (c, o') :: post) ++ own) := fun p hp => N₁ p ((List.mem_append.mp hp).elim (fun h => List.mem_append.mpr (.inr h)) fun h => List.mem_append.mpr (.inl h))
    have hsep : OwnOff own ((pre ++ (c, o) :: post).map (·.1)) := by
      intro p hp b hb e
      rw [hadr o o'] at hb
      obtain ⟨q, hq, rfl⟩ := List.mem_map.mp hb
      exact hoff q hq (by rw [← e]; exact hown p hp)
    refine wpAny_mono (turn (0 + (i : Int) * 1) t o' vo' s₁ own (by omega) (by omega) hsep hd' F₁ N₂) (fun _ s₃ p => wpAny_mono p (fun f s₄ q => ?_) fun _ _ e => e) fun _ _ e => e
    obtain ⟨rfl, h', tk, o2, vo2, rfl, F', N', hd2⟩ := q
    refine ⟨rfl, h', tk, m₁, _, rfl, F', fun p hp => N' p ((List.mem_append.mp hp).elim (fun h => List.mem_append.mpr (.inr h)) fun h => List.mem_append.mpr (.inl h)), hoffs o2, rfl, o2, vo2, rfl, hd2⟩
  · rintro h' tk m' nx F' N' _ ⟨rfl, o', vo', rfl, hd'⟩
    exact done o' vo' h' tk hd' F' N'
end
def AllNe (d : Addr) : List (Addr × Obj) → Prop
  | [] => True
  | p :: r => @Ne Nat p.1 d ∧ AllNe d r
theorem allNe_of {d : Addr} : ∀ {l : List (Addr × Obj)}, (∀ p ∈ l, p.1 ≠ d) → AllNe d l
  | [], _ => trivial
  | p :: _, h => ⟨h p (.head _), allNe_of fun q hq => h q (.tail _ hq)⟩
theorem bne_no {p q : Prop} [Decidable p] [Decidable q] (h : (decide p != decide q) = true) (hb : p ↔ q) : False := by
  by_cases hp : p
  · have hq := hb.mp hp
    simp [hp, hq] at h
  · have hq : ¬ q := fun hq => hp (hb.mpr hq)
    simp [hp, hq] at h
/-- what the comprehension keeps -/
def midG (tA tB : List Int) (b leap : Int) (l : List Int) (sq : Int) : List Int := if tA.getD sq.toNat 0 = leap ∧ tB.getD sq.toNat 0 = tA.getD b.toNat 0 - leap then l ++ [sq] else l
theorem midG_grows (tA tB : List Int) (b leap : Int) : KPfGrows (midG tA tB b leap) := by
  intro l k
  unfold midG
  split
  · simp
  · simp
theorem midG_keeps (tA tB : List Int) (b leap : Int) : ∀ (ks l : List Int), l ≠ [] → ks.foldl (midG tA tB b leap) l ≠ [] := by
  intro ks
  induction ks with
  | nil => intro l h; exact h
  | cons k r ih =>
    intro l h
    refine ih _ ?_
    unfold midG
    split
    · simp
    · exact h
theorem midG_some (tA tB : List Int) (b leap sq : Int) (h1 : tA.getD sq.toNat 0 = leap) (h2 : tB.getD sq.toNat 0 = tA.getD b.toNat 0 - leap) : ∀ (ks l : List Int), sq ∈ ks → ks.foldl (midG tA tB b leap) l ≠ [] := by
  intro ks
  induction ks with
  | nil => intro l h; cases h
  | cons k r ih =>
    intro l h
    rcases List.mem_cons.mp h with rfl | h
    · refine midG_keeps _ _ _ _ r _ ?_
      unfold midG
      rw [if_pos ⟨h1, h2⟩]
      simp
    · exact ih _ h
theorem mid_there {tA tB : List Int} {b leap : Int} {n : Nat} (h : ∃ sq : Int, 0 ≤ sq ∧ sq < n ∧ tA.getD sq.toNat 0 = leap ∧ tB.getD sq.toNat 0 = tA.getD b.toNat 0 - leap) : (rangeKs 0 ((n : Int) - 0).toNat).foldl (midG tA tB b leap) [] ≠ [] := by
  obtain ⟨sq, h0, h1, h2, h3⟩ := h
  refine midG_some tA tB b leap sq h2 h3 _ _ ?_
  unfold rangeKs
  refine List.mem_map.mpr ⟨sq.toNat, ?_, ?_⟩
  · rw [List.mem_range]; omega
  · omega
theorem below_63 {b : Int} {n : Nat} (h : b < n) (hn : n ≤ 25) : b < 2 ^ 63 := by omega
theorem goal_in {k : Int} {n len : Nat} (h : k < 0 + (((n : Int) - 0).toNat : Int)) (hl : len = n) (hn : n ≤ 25) : k < (len : Int) ∧ k < 2 ^ 63 := by omega
structure KnightOk (g : GeoD) (a b : Int) (tA tB : List Int) : Prop where
  ra : RoundInv g tA ((List.replicate g.size (-1)).set a.toNat 0) [a]
  rb : RoundInv g tB ((List.replicate g.size (-1)).set b.toNat 0) [b]
  la : tA.length = g.size
  lb : tB.length = g.size
  lo : -1 ≤ tA.getD b.toNat 0
  hi : tA.getD b.toNat 0 ≤ 1000
  same : tA.getD b.toNat 0 = tB.getD a.toNat 0
  par : ∀ sq : Int, 0 ≤ sq → sq < g.size → tA.getD sq.toNat 0 ≥ 0 → (tA.getD sq.toNat 0 + Builtin.bitAnd (sq.fmod g.files + sq.fdiv g.files) 1 + Builtin.bitAnd (a.fmod g.files + a.fdiv g.files) 1).fmod 2 = 0
  both : ∀ sq : Int, 0 ≤ sq → sq < g.size → tA.getD b.toNat 0 ≥ 0 → (tA.getD sq.toNat 0 < 0 ↔ tB.getD sq.toNat 0 < 0)
  tri : ∀ sq : Int, 0 ≤ sq → sq < g.size → tA.getD sq.toNat 0 ≥ 0 → tB.getD sq.toNat 0 ≥ 0 → tA.getD b.toNat 0 ≤ tA.getD sq.toNat 0 + tB.getD sq.toNat 0
  mid : ∀ leap : Int, 0 ≤ leap → leap < tA.getD b.toNat 0 + 1 → ∃ sq : Int, 0 ≤ sq ∧ sq < g.size ∧ tA.getD sq.toNat 0 = leap ∧ tB.getD sq.toNat 0 = tA.getD b.toNat 0 - leap
theorem words_M7_0 : True := by
  k_with "call ref" => (k_here; k_dflt (refine' says_list (rounds_says _ ?ok _ _ _ _ ?a ?b ?c rfl) ?k1 ?k2 ?k3 ?k4 ?k5 ?kK ?kG ?kd ?ku ?_; (case k1 => k_asm); (case k2 => k_asm); (case k3 => k_asm); (case k4 => k_asm); (case k5 => k_asm); (case kK => first | exact rfl | assumption); (case ok => assumption); (case kG => exact GeoH.keeps (by assumption) (Fr.keep (by assumption))); (case a => omega); (case b => omega); (case c => assumption); (case kd => ktr_room); (case ku => ktr_units); k_whole); intro zza9 zzv9 zzn9 zzh9 zztk9 zzF9 zzN9 zzd9 zzI9; (replace zzd9 := allNe_of zzd9); (simp only [AllNe, and_true] at zzd9); (try k_sweep))
  k_with "exec For Name Call cons nil" => ((with_reducible show wpAny _ _ (exec (Stmt.For (Expr.Name (PySem.Str.ofString "leap") _) _ _ _ _) _) _ _ _); (with_reducible refine hold ?_))
  k_with "InvEndN" => (refine' search_end ?F ?N ?a ?b ?c; (case F => assumption); (case N => assumption); (case a => (intro zzp zzhp; exact List.mem_append_left _ zzhp)); (case b => (intro zzp zzhp; exact List.mem_append_right _ zzhp)); (case c => (intro zzz zzh1 zzh2; walk_at "frame end")))
  k_with "eval ListComp" => (k_here; k_dflt (refine LCt.ListComp_T (F₀ := by k_asm) (by with_unfolding_all rfl) (by decide) (by rfl) (by decide) (by rfl) ?_))
  k_with "CompSrcT" => (with_reducible refine hold ?_)
  k_with "CompEnd" => (with_reducible refine hold ?_)
  k_with "compareOp Eq ref ref" => (k_here; (with_reducible show wpAny _ _ (compareOp CmpOp.Eq (Value.ref _) (Value.ref _)) _ _ _); (with_unfolding_all refine' eq_intsK ?k1 ?k2 ?k3 ?k4 ?k5 ?_; (case k1 => is_list); (case k2 => l_intsC); (case k3 => is_list); (case k4 => l_intsC); (case k5 => ktr_units); k_whole))
  k_with "subscriptTail Name Name ref int" => (k_here; k_dflt (refine' ksa_sub ?k1 ?k2 ?k3 ?k4 ?k5 ?k6 ?_ ?k7; (case k1 => k_asm); (case k2 => k_mem); (case k3 => with_reducible assumption); (case k4 => first | assumption | omega); (case k5 => first | assumption | omega); (case k6 => first | assumption | omega); (case k7 => with_unfolding_all rfl); k_whole); intro _)
  exact True.intro
set_option maxHeartbeats 4000000 in
theorem knight_right_says (g : GeoD) (ok : GeoOk g) (x : Addr) (a b : Int) (ta tb : Tok) (tA tB : List Int) (hs0 : 0 ≤ a) (hs1 : a < g.size) (hs2 : 0 ≤ b) (hs3 : b < g.size) (R : KnightOk g a b tA tB) :
    PySem.Challenge.rw_tg0013_01.foot = 6 → Says 202 30 (GeoH g x) [.ref x, .int a ta, .int b tb] (fun _ r _ => r = .bool true) := by
  unfold Says
  k_fill
  intro _ w p loose mean mg mb dp un gd cn cs av ccd cl outer A₀ base h₀ L m s Q E B F X T hk hG hdd huu hret
  have hG' := hG
  obtain ⟨dx, es, n, hx, hdx, hE⟩ := hG
  obtain ⟨t1, h1⟩ := hE.files
  obtain ⟨t3, h3⟩ := hE.size
  have hsz := ok.sz
  have hf3 := ok.f3
  have hf5 := ok.f5
  have hra := R.ra
  have hrb := R.rb
  have hla := R.la
  have hlb := R.lb
  have hlo := R.lo
  have hhi := R.hi
  have hsm := R.same
  refine' enter_roC ?k1 ?k2 ?k3 ?k4 ?kK ?kR ?k6 ?k7 ?k8 ?k9 ?kB ?kD ?_ ?c2 ?c3 ?c4
  case k1 => assumption
  case k2 => assumption
  case k3 => assumption
  case k4 => assumption
  case kK => assumption
  case kR => assumption
  case k6 => k_is
  case k7 => k_is
  case k8 => omega
  case k9 => exact BindsTo.of_eq rfl
  case kB => exact rfl
  case kD => decide +kernel
  case c2 => exact rfl
  case c3 => exact rfl
  case c4 => exact rfl
  intro L' h' tk' cells' F' N' Y' B' X' T'
  replace F' : Fr s.heap L' h' (fun y => if y = Str.ofString "a" then some (.int a ta) else if y = Str.ofString "geo" then some (.ref x) else none) := F'
  k_cells Y'
  (try dsimp only)
  (try k_fold)
  k_steps
  · exact absurd hsm (by assumption)
  refine unhold ?_
  (with_reducible rename Fr _ _ _ _ => lF')
  (with_reducible rename News _ _ _ _ => lN')
  (with_reducible rename IsRange _ _ _ _ _ _ _ _ => rgX)
  refine' loop_searchZ [] rfl rgX (by omega) (by omega) lF' lN' ?_ ?_
  all_goals clear lF' lN' rgX
  · intro k t u h tk own hk0 hk1 ho F' N'
    (try dsimp only)
    (try k_fold)
    have hpa := R.par k hk0 hk1
    have hbt := R.both k hk0 hk1
    have htr := R.tri k hk0 hk1
    k_steps
    all_goals first
      | exact absurd (hpa (by assumption)) (by assumption)
      | exact (bne_no (by assumption) (hbt (by assumption))).elim
      | exact absurd (htr (by assumption) (by assumption)) (Int.not_le.mpr (by assumption))
  · intro u h tk F' N'
    (try dsimp only)
    (try k_fold)
    k_steps
    refine unhold ?_
    refine For_invT s.heap ?_ (fun _ => rfl) PassesOwn.never
    k_steps
    refine unhold ?_
    (with_reducible rename Fr _ _ _ _ => lF')
    (with_reducible rename News _ _ _ _ => lN')
    (with_reducible rename IsRange _ _ _ _ _ _ _ _ => rgX)
    refine' loop_cell [_, _, _] [_, _, _] (fun _ _ => rfl) rfl rgX (by omega) (by omega) lF' lN' (by assumption) ?_ ?_
    all_goals clear lF' lN' rgX
    · intro k t o' vo' s₁ own hk0 hk1 ho hd' F' N'
      simp only [List.cons_append, List.nil_append, List.map_cons, List.map_nil] at N' ho
      (try dsimp only)
      (try k_fold)
      have hmi := R.mid k hk0 hk1
      k_steps
      refine unhold ?_
      (with_reducible rename Fr _ _ _ _ => lF')
      (with_reducible rename News _ _ _ _ => lN')
      (with_reducible rename IsRange _ _ _ _ _ _ _ _ => rgX)
      refine LCt.CompSrcT.range rfl lF' lN' rgX (small_one (by omega) (by omega) (by omega) (by omega)) (rangeSize_nat _ _) (by rw [PySem.sizeLine_eq]; omega) ?_
      intro g'
      refine' kci_range (midG tA tB b k) (fun k' t' I' oI' C' oC' D' m' ys' l' h' tk' E' hlo' hhi' hI' hC' hx' F' N' off' ne' mk => ?_) ?_ (midG_grows _ _ _ _)
      all_goals clear lF' lN' rgX
      · (try simp only [List.cons_append, List.nil_append] at N')
        (try k_fold)
        have hkA := (goal_in hhi' hla hsz).1
        have hkB := (goal_in hhi' hlb hsz).1
        have hk63 := (goal_in hhi' hla hsz).2
        have hb0 : b < (tA.length : Int) := by rw [hla]; exact hs3
        have hb63 : b < 2 ^ 63 := below_63 hs3 hsz
        clear R ok hra hrb hE hG' hlo hhi hmi hsm hhi'
        k_steps
        all_goals refine unhold ?_
        · exact LCg.CompEnd.intro (by assumption) (by assumption) _ (fun p hp => hp) off' True.intro ⟨rfl, k', _, rfl, if_pos ⟨by assumption, by assumption⟩⟩
        · exact LCg.CompEnd.intro (by assumption) (by assumption) _ (fun p hp => hp) off' True.intro ⟨rfl, if_neg fun h => absurd h.2 (by assumption)⟩
        · exact LCg.CompEnd.intro (by assumption) (by assumption) _ (fun p hp => hp) off' True.intro ⟨rfl, if_neg fun h => absurd h.1 (by assumption)⟩
      · have hne := mid_there hmi
        unfold KPfDone
        intro ys hy hl
        unfold LCg.FinE
        intro D9 h9 tk9 F9 N9 o9
        (try simp only [List.cons_append, List.nil_append] at N9)
        (try dsimp only)
        (try k_fold)
        clear R ok hra hrb hE hG' hlo hhi hmi hsm
        k_steps
        refine' cell_end ?F ?N ?sub ?d
        case F => assumption
        case N => assumption
        case sub => exact fun p hp => .tail _ (.tail _ hp)
        case d => assumption
    · intro o' vo' h tk hd' F' N'
      simp only [List.cons_append, List.nil_append] at N'
      (try dsimp only)
      (try k_fold)
      k_steps
      all_goals tb_rel
section
variable {c : RCx} {k : Fn} {m : Fra} {news news' : Led} {e l r o : PySem.Expr} {x y z : Int} {pos : Pos} {n : Nat} {R : Flow → Fra → Led → Prop} {rest ss : List Stmt}
/-- o[i] += e, an int amid other values -/
theorem rs_iaddItem {D : Addr} {vs : List Value} {j : Nat} {i : PySem.Expr} {w v : Int} {t0 : Tok} {p1 p2 : Pos} (a : RV c k m news o (.ref D)) (d : RI c k m news i w) (hl : (D, listOf vs.toArray j) ∈ news) (hv : vs[w.toNat]? = some (.int v t0)) (b : RI c k m news e z) (h0 : 0 ≤ w) (h1 : w < 2 ^ 63) (ha : ∀ ov iv new : Value, augStore i ov iv new = do
      holding [new, ov, iv] (setItem ov iv new)
      release [new, ov, iv] []
      pure Flow.next) (f : Tok → List Value) (hq : ∀ t, ki_setL vs.toArray.toList w.toNat (.int (v + z) t) = some (f t)) {news' : Tok → Led}
    (U : ∀ t, Upd D (listOf vs.toArray j) (listOf (f t).toArray j) news (news' t)) (h : ∀ t, RS c k m (news' t) rest R) : RS c k m news (.AugAssign (.Subscript o i p1) .Add e p2 :: rest) R :=
  ⟨fun Q s F N q => wpAny_execs_cons (wpAny_AugAssign_SubscriptAny (a.run _ _ F N fun _ _ F2 N2 => d.run _ _ F2 N2 fun u _ _ F3 N3 => getItem_listL ⟨_, (N3 _ hl).1, rfl, _, rfl⟩ h0 h1 hv (b.run _ _ F3 N3 fun t _ _ F4 N4 => iadd_int (ki_set F4 N4 h0 h1 (hq _) (U _) fun h' F5 N5 => (h _).run _ _ F5 N5 q))) ha)⟩
theorem r_ifexp {test : PySem.Expr} {P : Prop} [Decidable P] (a : RC c k m news test P) (b : P → RI c k m news l x) (d : ¬ P → RI c k m news r y) : RI c k m news (.IfExp test l r pos) (if P then x else y) :=
  ⟨fun Q s F N q => IfExp_ (a.run _ _ F N (fun _ _ hp F2 N2 => by rw [if_pos rfl]; refine (b hp).run _ _ F2 N2 ?_; rw [if_pos hp] at q; exact q) (fun _ _ hp F2 N2 => by rw [if_neg (by decide)]; refine (d hp).run _ _ F2 N2 ?_; rw [if_neg hp] at q; exact q))⟩
theorem r_len {D : Addr} {vs : List Value} {ns : List Int} {j : Nat} {p1 p2 : Pos} (H : RW c k n) (a : RV c k m news o (.ref D)) (hl : (D, listOf vs.toArray j) ∈ news) (hi : IntsAre vs ns) (hs : ns.length ≤ 1000) (hp : PlainArg o) (hg : nsIn (hd.heap_39 c.w.params) mainGlobals "len" = some none) (hr : (k.env c.L).kindOf "len" = some .globalImplicit) : RI c k m news (.Call (.Name "len" p1) [o] [] p2) (ns.length : Int) :=
  ⟨fun Q s F N q => Call_ ((r_builtin (pos := p1) H hg PySem.boot_len (by decide) hr (by decide)).run _ _ F N fun _ _ F1 N1 => callWith_builtin1 ((ra_val a ra_nil hp).run _ _ F1 N1 fun _ _ _ F2 N2 => len_ints_fit ⟨_, (N2 _ hl).1, rfl, _, rfl⟩ hi (by omega) (q _ _ _ F2 N2)) (hp _ _) (by rfl))⟩
theorem rc_le (a : RI c k m news l x) (b : RI c k m news r y) (hm : behindInMarks .LtE r = false) : RC c k m news (.Compare l [.LtE] [r] pos) (x ≤ y) := rc_cmp (fun x y => decide (x ≤ y)) (by simp) a b hm fun _ _ _ _ q => le_int q
theorem r_pow (a : RI c k m news l x) (b : RI c k m news r y) (h : 0 ≤ y) (d : y ≤ 1000000) (g : x.natAbs < 2 ^ 64) : RI c k m news (.BinOp l .Pow r pos) (x ^ y.toNat) := r_bin (fun x y => x ^ y.toNat) a b fun _ _ _ _ q => pow_int_small h d g q
end
theorem rel_words_16 : True := by
  k_with_none
  k_with "evat" => first | with_reducible exact at_files | with_reducible exact at_ranks | with_reducible exact at_size | with_reducible exact at_full | with_reducible exact at_rays | with_reducible exact at_king | with_reducible exact at_knight | with_reducible exact at_pawn | with_reducible exact at_file_masks | with_reducible exact at_rank_masks | with_reducible exact at_castles | with_reducible exact at_rights_lost | with_reducible exact at_has_castling
  k_with "evnth" => first | exact rfl | exact nth_ref (by omega)
  k_with "rv" => first | (apply r_name; assumption; exact rfl; exact rfl; exact rfl) | (apply r_glob; assumption; k_is; exact rfl; exact rfl) | (apply r_attrG; assumption; k_extra "rv"; assumption; assumption; k_extra "evat"; assumption; exact rfl) | (apply r_attrN; assumption; k_extra "rv"; k_mem; k_mem; k_extra "evat"; assumption; exact rfl) | (apply r_topItem; assumption; k_extra "rv"; k_extra "r"; k_is; decide; decide; exact rfl; exact rfl; (first | exact pi_name | exact pi_const | exact pi_bin)) | (apply r_itemVG; k_extra "rv"; k_extra "r"; assumption; (first | assumption | omega); (first | assumption | omega); k_extra "evnth"; (first | exact pi_name | exact pi_const | exact pi_bin)) | (apply r_itemVN; k_extra "rv"; k_extra "r"; k_mem; (first | assumption | omega); (first | assumption | omega); k_extra "evnth"; (first | exact pi_name | exact pi_const | exact pi_bin))
  k_with "r" => first | exact r_const | (apply r_of; k_extra "rv"; exact rfl) | (apply r_add; k_extra "r"; k_extra "r") | (apply r_sub; k_extra "r"; k_extra "r") | (apply r_and; k_extra "r"; k_extra "r") | (apply r_or; k_extra "r"; k_extra "r") | (apply r_shr; k_extra "r"; k_extra "r"; (first | assumption | omega)) | (apply r_shl; k_extra "r"; k_extra "r"; (first | assumption | omega); (first | assumption | omega); (first | assumption | omega)) | (apply r_mul; k_extra "r"; k_extra "r"; (first | assumption | omega); (first | assumption | omega)) | (apply r_mod; k_extra "r"; k_extra "r"; (first | assumption | omega)) | (apply r_div; k_extra "r"; k_extra "r"; (first | assumption | omega); (first | assumption | omega)) | (apply r_inv; k_extra "r") | (apply r_itemG; k_extra "rv"; k_extra "r"; assumption; assumption; (first | assumption | omega); (first | assumption | omega); (first | assumption | omega); (first | exact pi_name | exact pi_const | exact pi_bin)) | (apply r_itemN; k_extra "rv"; k_extra "r"; k_mem; assumption; (first | assumption | omega); (first | assumption | omega); (first | assumption | omega); (first | exact pi_name | exact pi_const | exact pi_bin))
  k_with "rc" => first | (apply rc_eq; k_extra "r"; k_extra "r"; exact rfl) | (apply rc_ne; k_extra "r"; k_extra "r"; exact rfl) | (apply rc_lt; k_extra "r"; k_extra "r"; exact rfl) | (apply rc_gt; k_extra "r"; k_extra "r"; exact rfl) | (apply rc_ge; k_extra "r"; k_extra "r"; exact rfl)
  k_with "rs" => first | (apply rs_set; assumption; k_extra "r"; exact rfl; exact rfl; intro _ _) | (apply rs_setV; assumption; k_extra "rv"; exact rfl; exact rfl; intro _) | (apply rs_ior; assumption; exact rfl; k_extra "r"; exact rfl; intro _ _) | (apply rs_iadd; assumption; exact rfl; k_extra "r"; exact rfl; intro _ _) | (apply rs_ifior_gt; assumption; exact rfl; k_extra "r"; k_extra "r"; exact rfl; (intro _; k_extra "r"); exact rfl; intro _ _) | (apply rs_ifior_lt; assumption; exact rfl; k_extra "r"; k_extra "r"; exact rfl; (intro _; k_extra "r"); exact rfl; intro _ _) | (apply rs_if; k_extra "rc"; all_goals intro _) | (apply rs_ret; k_extra "r"; intro _) | (apply rs_retV; k_extra "rv") | (apply rs_nil; (try (show RS _ _ _ _ _ _)))
  k_with "ra" => first | exact ra_nil | (apply ra_val; k_extra "rv"; k_extra "ra"; (first | exact pa_name | exact pa_const | exact pa_bin | exact pa_attr | exact pa_sub | exact pa_call)) | (apply ra_int; k_extra "r"; k_extra "ra"; (first | exact pa_name | exact pa_const | exact pa_bin | exact pa_attr | exact pa_sub | exact pa_call))
  k_with "r" => (apply r_callI; assumption; k_extra "rv"; k_is; k_extra "ra"; (first | exact pa_name | exact pa_const | exact pa_bin | exact pa_attr | exact pa_sub | exact pa_call); exact rfl; k_extra "says"; decide; k_extra "given")
  k_with "rv" => exact rv_bool
  k_with "rc" => (apply rc_and; k_extra "rc"; (intro _; k_extra "rc"))
  k_with "given" => first | (intro _ _ _; exact True.intro) | (intro _ zzF _; exact GeoH.keeps (by assumption) (Fr.keep zzF))
  k_with "frame end" => repeat (first | exact rfl | refine skip_ne (by with_reducible assumption) ?_ | refine skip_in (by with_reducible assumption) (by repeat (first | exact List.Mem.head _ | refine List.Mem.tail _ ?_)) ?_ | refine skip_b (by with_reducible assumption) ?_)
  exact True.intro
theorem led_words_16 : True := by
  k_with "in" => repeat (first | exact List.Mem.head _ | refine List.Mem.tail _ ?_)
  k_with "mem" => first | (with_reducible assumption) | (with_reducible exact List.mem_cons_self) | ((with_reducible refine List.mem_append_left _ ?_); k_extra "mem") | ((with_reducible refine List.mem_append_right _ ?_); k_extra "mem") | ((with_reducible refine List.mem_cons_of_mem _ ?_); k_extra "mem")
  k_with "k_mem" => k_extra "mem"
  k_with "ne" => (refine neN ?_; first | (with_reducible assumption) | (refine Ne.symm ?_; with_reducible assumption))
  k_with "all" => first | exact List.forall_mem_nil _ | (with_reducible assumption) | ((with_reducible refine List.forall_mem_cons.mpr ⟨?_, ?_⟩); k_extra "ne"; k_extra "all") | ((with_reducible refine List.forall_mem_append.mpr ⟨?_, ?_⟩); k_extra "all"; k_extra "all") | (intro zzp zzhp; refine off_at (by assumption) zzhp ?_; k_extra "in")
  k_with "upd" => first | ((with_reducible apply Upd.head); k_extra "all") | ((with_reducible apply Upd.tail); k_extra "ne"; k_extra "upd")
  k_with "size" => first | (with_reducible assumption) | exact le2000 (by with_reducible assumption) | omega
  k_with "pa" => first | exact pa_name | exact pa_const | exact pa_bin | exact pa_attr | exact pa_sub | exact pa_call | exact pa_neg
  k_with "r" => (apply r_neg; k_extra "r")
  k_with "rs" => (apply rs_append; k_extra "rv"; k_extra "mem"; k_extra "r"; k_extra "pa"; exact rfl; exact rfl; exact rfl; k_extra "size"; (intro _; k_extra "upd"); intro _)
  k_with "rc" => first | (apply rc_int; k_extra "r"; exact rfl) | (apply rc_not; k_extra "rc") | (apply rc_bool; k_extra "rv"; exact rfl)
  k_with "rb" => first | (apply rv_gt; k_extra "r"; k_extra "r"; exact rfl) | (apply rv_eq; k_extra "r"; k_extra "r"; exact rfl)
  k_with "rv" => first | k_extra "rb" | (apply rv_or; k_extra "rb"; k_extra "rb") | (apply r_callB; assumption; k_extra "rv"; k_is; k_extra "ra"; k_extra "pa"; exact rfl; k_extra "saysB"; decide; k_extra "given")
  k_with "rs" => first | (apply rs_setItem; k_extra "r"; k_extra "rv"; k_extra "r"; k_extra "mem"; assumption; (first | assumption | omega); (first | assumption | omega); (first | assumption | omega); exact rfl; (intro _; k_extra "upd"); intro _ _) | (apply rs_iorItem; k_extra "rv"; k_extra "r"; k_extra "mem"; k_extra "r"; assumption; (first | assumption | omega); (first | assumption | omega); (first | assumption | omega); (intro _; k_extra "upd"); intro _ _) | (apply rs_appendV; k_extra "rv"; k_extra "mem"; k_extra "rv"; k_extra "pa"; exact rfl; exact rfl; exact rfl; k_extra "size"; k_extra "upd")
  k_with "rs" => (apply rs_iand; assumption; exact rfl; k_extra "r"; exact rfl; intro _ _)
  exact True.intro
theorem cast_words : True := by
  k_with "rc" => (apply rc_le; k_extra "r"; k_extra "r"; exact rfl)
  k_with "r" => (apply r_len; assumption; k_extra "rv"; k_extra "mem"; assumption; assumption; k_extra "pa"; k_is; exact rfl)
  k_with "r" => (apply r_pow; k_extra "r"; k_extra "r"; (first | assumption | decide); (first | assumption | decide); assumption)
  exact True.intro
theorem lt_of_place {k n : Int} (h0 : 0 ≤ k) (h : k + 1 ≤ n) : k + 1 - 1 < n := by omega
def CastW (cup l : Addr) (ws : List Value) (c : Nat) (k many : Int) (rest : List (Addr × Obj)) (v : Value) (news' : List (Addr × Obj)) : Prop :=
  ∃ (z : Int) (t t' : Tok) (n' : Nat), v = .int z t ∧ 0 ≤ z ∧ z < many ∧ news' = (cup, listOf (List.toArray [.ref l, .int (k + 1) t']) n') :: (l, listOf (List.toArray ws) c) :: rest
set_option maxHeartbeats 8000000 in
theorem law_cast_does (cup l : Addr) (ws : List Value) (ns : List Int) (j : IntsAre ws ns) (hlen : ns.length ≤ 4) (n c : Nat) (k many : Int) (tk tm : Tok) (hk0 : 0 ≤ k) (hk3 : k ≤ 3) (hm0 : 0 < many) (hm9 : many ≤ 1000) (d1 : @Ne Nat cup l) :
    PySem.Challenge.rw_tg0013_01.foot = 6 → DoesR 176 1 [(cup, listOf (List.toArray [.ref l, .int k tk]) n), (l, listOf (List.toArray ws) c)] [] [.ref cup, .int many tm] (CastW cup l ws c k many) := by
  unfold DoesR DoesW
  k_fill
  intro _ w
  show DoesW w _ _ _ _ _ _
  refine' does_rel (n := 0) ?k6 ?k7 ?k9 ?kB ?c2 ?c3 ?c4 ?c5 ?_
  case k6 => k_is
  case k7 => k_is
  case k9 => intro _; exact BindsTo.of_eq rfl
  case kB => exact locs rfl
  case c2 => exact rfl
  case c3 => exact rfl
  case c4 => exact rfl
  case c5 => decide
  intro A g L rest c' H hoff _
  have z0 : (0 : Int) ≤ 0 := by decide
  have z1 : (0 : Int) ≤ 1 := by decide
  have w0 : (0 : Int) < 2 ^ 63 := by decide
  have w1 : (1 : Int) < 2 ^ 63 := by decide
  have u1 : (-1000 : Int) ≤ 2 := by decide
  have u2 : (2 : Int) ≤ 1000 := by decide
  have hlen2 : ns.length ≤ 1000 := Nat.le_trans hlen (by decide)
  have hp0 : 0 ≤ k + 1 - 1 := by omega
  have hp1 : k + 1 - 1 < 2 ^ 63 := by omega
  have hpp : (k + 1).natAbs < 2 ^ 64 := by omega
  have hmz : many ≠ 0 := by omega
  (show RS _ _ _ ((cup, _) :: (l, _) :: rest) _ _)
  refine' rs_iaddItem ?xa ?xd ?xl ?xv ?xb z1 w1 (fun _ _ _ => rfl) (fun t => [.ref l, .int (k + 1) t]) ?xq ?xU ?xh
  case xa => k_extra "rv"
  case xd => k_extra "r"
  case xl => k_extra "mem"
  case xv => exact rfl
  case xb => k_extra "r"
  case xq => exact fun _ => rfl
  case xU => intro _; k_extra "upd"
  case' xh => intro t1
  apply rs_set
  assumption
  k_extra "r"
  exact rfl
  exact rfl
  intro _ _
  apply rs_ret
  refine' r_mod (r_ifexp (P := k + 1 ≤ (ns.length : Int)) ?t1 ?t2 ?t3) ?t4 hmz
  case t1 => k_extra "rc"
  case t2 =>
    intro hp
    have hp2 := lt_of_place hk0 hp
    k_extra "r"
  case t3 => intro _; k_extra "r"
  case t4 => k_extra "r"
  intro _
  exact ⟨_, _, _, _, rfl, Int.fmod_nonneg_of_pos _ hm0, Int.fmod_lt_of_pos _ hm0, rfl⟩
/-- what is checked of a board, in Nat -/
def RookC (g : GeoD) : Prop :=
  (∀ sq : Nat, sq < g.size → 0 ≤ g.rook (sq : Int)) ∧ (∀ a : Nat, a < g.size → (popN (g.rook (a : Int)).toNat : Int) = g.files + g.ranks - 2) ∧
  (∀ a : Nat, a < g.size → ∀ goal : Nat, goal < g.size → goal ≠ a → (popN (Builtin.bitAnd (g.rook (a : Int)) (g.rook (goal : Int))).toNat : Int) = if (goal : Int).fmod g.files = (a : Int).fmod g.files then (g.ranks : Int) - 2 else if (goal : Int).fdiv g.files = (a : Int).fdiv g.files then (g.files : Int) - 2 else 2)
theorem rook_ok_of {g : GeoD} (h : RookC g) (a : Int) (h0 : 0 ≤ a) (h1 : a < g.size) : RookOk g a := by
  obtain ⟨c1, c2, c3⟩ := h
  obtain ⟨a, rfl⟩ := Int.eq_ofNat_of_zero_le h0
  have h2 : a < g.size := Int.ofNat_lt.mp h1
  refine ⟨?_, c2 a h2, ?_⟩
  · intro sq k0 k1
    obtain ⟨sq, rfl⟩ := Int.eq_ofNat_of_zero_le k0
    exact c1 sq (Int.ofNat_lt.mp k1)
  · intro sq k0 k1 k2
    obtain ⟨sq, rfl⟩ := Int.eq_ofNat_of_zero_le k0
    exact c3 a h2 sq (Int.ofNat_lt.mp k1) (fun e => k2 (by rw [e]))
def BishopC (g : GeoD) : Prop :=
  (∀ a : Nat, a < g.size → Builtin.bitAnd (g.bishop (a : Int)) (g.rook (a : Int)) = 0 ∧ g.queen (a : Int) = Builtin.bitOr (g.bishop (a : Int)) (g.rook (a : Int))) ∧
  (∀ a : Nat, a < g.size → ∀ goal : Nat, goal < g.size → Builtin.bitAnd ((goal : Int).fmod g.files + (goal : Int).fdiv g.files) 1 ≠ Builtin.bitAnd ((a : Int).fmod g.files + (a : Int).fdiv g.files) 1 → Builtin.bitAnd (g.bishop (a : Int)) (g.bishop (goal : Int)) = 0 ∧ Builtin.bitAnd ((g.bishop (a : Int)).fdiv (2 ^ (goal : Int).toNat)) 1 ≠ 1) ∧
  (∀ a : Nat, a < g.size → ∀ goal : Nat, goal < g.size → Builtin.bitAnd ((goal : Int).fmod g.files + (goal : Int).fdiv g.files) 1 = Builtin.bitAnd ((a : Int).fmod g.files + (a : Int).fdiv g.files) 1 → goal ≠ a → (g.files : Int) = g.ranks → Builtin.bitAnd (g.bishop (a : Int)) (g.bishop (goal : Int)) = 0 → Builtin.bitAnd ((g.bishop (a : Int)).fdiv (2 ^ (goal : Int).toNat)) 1 ≠ 0) ∧
  (∀ a : Nat, a < g.size → ∀ goal : Nat, goal < g.size → Builtin.bitAnd ((g.bishop (a : Int)).fdiv (2 ^ (goal : Int).toNat)) 1 = Builtin.bitAnd ((g.bishop (goal : Int)).fdiv (2 ^ (a : Int).toNat)) 1)
theorem bishop_ok_of {g : GeoD} (h : BishopC g) (a : Int) (h0 : 0 ≤ a) (h1 : a < g.size) : BishopOk g a := by
  obtain ⟨c1, c2, c3, c4⟩ := h
  obtain ⟨a, rfl⟩ := Int.eq_ofNat_of_zero_le h0
  have h2 : a < g.size := Int.ofNat_lt.mp h1
  refine ⟨(c1 a h2).1, (c1 a h2).2, ?_, ?_, ?_⟩
  · intro sq k0 k1
    obtain ⟨sq, rfl⟩ := Int.eq_ofNat_of_zero_le k0
    exact c2 a h2 sq (Int.ofNat_lt.mp k1)
  · intro sq k0 k1 k2 k3
    obtain ⟨sq, rfl⟩ := Int.eq_ofNat_of_zero_le k0
    exact c3 a h2 sq (Int.ofNat_lt.mp k1) k2 (fun e => k3 (by rw [e]))
  · intro sq k0 k1
    obtain ⟨sq, rfl⟩ := Int.eq_ofNat_of_zero_le k0
    exact c4 a h2 sq (Int.ofNat_lt.mp k1)
def atT (T : List (List Int)) (a b : Nat) : Int := (T.getD a []).getD b 0
def KnightA (g : GeoD) (T : List (List Int)) : Prop :=
  ∀ a : Nat, a < g.size → (bfs g 1000 ((List.replicate g.size (-1)).set a 0) [(a : Int)]).map (·.1) = some (T.getD a [])
def KnightB (g : GeoD) (T : List (List Int)) : Prop :=
  T.length = g.size ∧ (∀ a : Nat, a < g.size → (T.getD a []).length = g.size) ∧
  (∀ a : Nat, a < g.size → ∀ b : Nat, b < g.size → -1 ≤ atT T a b ∧ atT T a b ≤ 1000 ∧ atT T a b = atT T b a) ∧
  (∀ a : Nat, a < g.size → ∀ sq : Nat, sq < g.size → atT T a sq ≥ 0 → (atT T a sq + Builtin.bitAnd ((sq : Int).fmod g.files + (sq : Int).fdiv g.files) 1 + Builtin.bitAnd ((a : Int).fmod g.files + (a : Int).fdiv g.files) 1).fmod 2 = 0)
def negB (x : Int) : Bool := match x with | .ofNat _ => false | .negSucc _ => true
theorem negB_iff (x : Int) : negB x = true ↔ x < 0 := by
  cases x with
  | ofNat n => exact ⟨fun h => (by cases h), fun h => absurd h (Int.not_lt.mpr (Int.natCast_nonneg n))⟩
  | negSucc n => exact ⟨fun _ => Int.negSucc_lt_zero n, fun _ => rfl⟩
def leB (x y : Int) : Bool := negB (x - y - 1)
theorem leB_le {x y : Int} (h : leB x y = true) : x ≤ y := by have := (negB_iff _).mp h; omega
/-- two rows of leaps, m being the leaps between their starts -/
def pairB (m : Int) : List Int → List Int → Bool
  | x :: xs, y :: ys => (negB m || (negB x == negB y)) && ((negB x || negB y || leB m (x + y)) && pairB m xs ys)
  | _, _ => true
theorem pair_at {m : Int} : ∀ {xs ys : List Int}, pairB m xs ys = true → ∀ i : Nat, i < xs.length → i < ys.length → (m ≥ 0 → (xs.getD i 0 < 0 ↔ ys.getD i 0 < 0)) ∧ (xs.getD i 0 ≥ 0 → ys.getD i 0 ≥ 0 → m ≤ xs.getD i 0 + ys.getD i 0)
  | [], _, _, _, h, _ => absurd h (Nat.not_lt_zero _)
  | _ :: _, [], _, _, _, h => absurd h (Nat.not_lt_zero _)
  | x :: xs, y :: ys, hb, 0, _, _ => by
    rw [pairB, Bool.and_eq_true, Bool.and_eq_true] at hb
    obtain ⟨h1, h2, _⟩ := hb
    refine ⟨fun hm => ?_, fun hx hy => ?_⟩
    · rcases (Bool.or_eq_true _ _).mp h1 with h | h
      · exact absurd ((negB_iff m).mp h) (Int.not_lt.mpr hm)
      · have e := eq_of_beq h
        exact (negB_iff x).symm.trans (e ▸ negB_iff y)
    · rcases (Bool.or_eq_true _ _).mp h2 with h | h
      · rcases (Bool.or_eq_true _ _).mp h with h | h
        · exact absurd ((negB_iff x).mp h) (Int.not_lt.mpr hx)
        · exact absurd ((negB_iff y).mp h) (Int.not_lt.mpr hy)
      · exact leB_le h
  | x :: xs, y :: ys, hb, i + 1, h1, h2 => by
    rw [pairB, Bool.and_eq_true, Bool.and_eq_true] at hb
    exact pair_at hb.2.2 i (Nat.lt_of_succ_lt_succ h1) (Nat.lt_of_succ_lt_succ h2)
def midB (leap rem : Int) : List Int → List Int → Bool
  | x :: xs, y :: ys => (x == leap && y == rem) || midB leap rem xs ys
  | _, _ => false
theorem mid_at {leap rem : Int} : ∀ {xs ys : List Int}, midB leap rem xs ys = true → ∃ i : Nat, i < xs.length ∧ xs.getD i 0 = leap ∧ ys.getD i 0 = rem
  | [], _, h => by cases h
  | _ :: _, [], h => by cases h
  | x :: xs, y :: ys, hb => by
    rw [midB] at hb
    rcases (Bool.or_eq_true _ _).mp hb with h | h
    · rw [Bool.and_eq_true] at h
      exact ⟨0, Nat.succ_pos _, eq_of_beq h.1, eq_of_beq h.2⟩
    · obtain ⟨i, h1, h2, h3⟩ := mid_at h
      exact ⟨i + 1, Nat.succ_lt_succ h1, h2, h3⟩
def rowB (ra : List Int) : List (List Int) → List Int → Bool
  | rb :: rs, m :: ms => pairB m ra rb && ((List.range (m + 1).toNat).all (fun leap => midB leap (m - leap) ra rb) && rowB ra rs ms)
  | _, _ => true
theorem row_at {ra : List Int} : ∀ {rs : List (List Int)} {ms : List Int}, rowB ra rs ms = true → ∀ b : Nat, b < rs.length → b < ms.length → pairB (ms.getD b 0) ra (rs.getD b []) = true ∧ ∀ leap : Nat, leap < (ms.getD b 0 + 1).toNat → midB leap (ms.getD b 0 - leap) ra (rs.getD b []) = true
  | [], _, _, _, h, _ => absurd h (Nat.not_lt_zero _)
  | _ :: _, [], _, _, _, h => absurd h (Nat.not_lt_zero _)
  | rb :: rs, m :: ms, hb, 0, _, _ => by
    rw [rowB, Bool.and_eq_true, Bool.and_eq_true] at hb
    exact ⟨hb.1, fun leap hl => List.all_eq_true.mp hb.2.1 leap (List.mem_range.mpr hl)⟩
  | rb :: rs, m :: ms, hb, b + 1, h1, h2 => by
    rw [rowB, Bool.and_eq_true, Bool.and_eq_true] at hb
    exact row_at hb.2.2 b (Nat.lt_of_succ_lt_succ h1) (Nat.lt_of_succ_lt_succ h2)
def KnightC (g : GeoD) (T : List (List Int)) : Prop := KnightA g T ∧ KnightB g T ∧ (T.all fun ra => rowB ra T ra) = true
theorem round_of {g : GeoD} {T : List (List Int)} (h1 : ∀ a : Nat, a < g.size → (bfs g 1000 ((List.replicate g.size (-1)).set a 0) [(a : Int)]).map (·.1) = some (T.getD a [])) {a : Nat} (h2 : a < g.size) : RoundInv g (T.getD a []) ((List.replicate g.size (-1)).set (a : Int).toNat 0) [(a : Int)] := by
  have h3 := h1 a h2
  refine ⟨?_, by simp, ?_⟩
  · rw [Int.toNat_natCast]
    cases e : bfs g 1000 ((List.replicate g.size (-1)).set a 0) [(a : Int)] with
    | none => rw [e] at h3; cases h3
    | some q =>
      rw [e] at h3
      obtain ⟨q1, q2⟩ := q
      cases h3
      exact ⟨q2, rfl⟩
  · intro e he
    rw [List.mem_singleton.mp he]
    exact ⟨Int.natCast_nonneg _, Int.ofNat_lt.mpr h2⟩
theorem knight_ok_of {g : GeoD} {T : List (List Int)} (h : KnightC g T) (a b : Int) (h0 : 0 ≤ a) (h1 : a < g.size) (g0 : 0 ≤ b) (g1 : b < g.size) : KnightOk g a b (T.getD a.toNat []) (T.getD b.toNat []) := by
  obtain ⟨c1, ⟨c0, c2, c3, c4⟩, c5⟩ := h
  obtain ⟨a, rfl⟩ := Int.eq_ofNat_of_zero_le h0
  have h2 : a < g.size := Int.ofNat_lt.mp h1
  obtain ⟨b, rfl⟩ := Int.eq_ofNat_of_zero_le g0
  have g2 : b < g.size := Int.ofNat_lt.mp g1
  simp only [Int.toNat_natCast]
  have ha : T.getD a [] ∈ T := by
    rw [List.getD_eq_getElem?_getD, List.getElem?_eq_getElem (c0 ▸ h2)]
    exact List.getElem_mem _
  obtain ⟨r1, r2⟩ := row_at (List.all_eq_true.mp c5 _ ha) b (c0 ▸ g2) ((c2 a h2).symm ▸ g2)
  have hp : ∀ sq : Int, 0 ≤ sq → sq < g.size → ∃ i : Nat, sq = (i : Int) ∧ i < (T.getD a []).length ∧ i < (T.getD b []).length := fun sq k0 k1 => by
    obtain ⟨sq, rfl⟩ := Int.eq_ofNat_of_zero_le k0
    exact ⟨sq, rfl, (c2 a h2).symm ▸ Int.ofNat_lt.mp k1, (c2 b g2).symm ▸ Int.ofNat_lt.mp k1⟩
  refine { ra := round_of c1 h2, rb := round_of c1 g2, la := c2 a h2, lb := c2 b g2, lo := (c3 a h2 b g2).1, hi := (c3 a h2 b g2).2.1, same := (c3 a h2 b g2).2.2, par := ?_, both := ?_, tri := ?_, mid := ?_ }
  · intro sq k0 k1
    obtain ⟨sq, rfl⟩ := Int.eq_ofNat_of_zero_le k0
    exact c4 a h2 sq (Int.ofNat_lt.mp k1)
  · intro sq k0 k1
    obtain ⟨i, rfl, i1, i2⟩ := hp sq k0 k1
    exact (pair_at r1 i i1 i2).1
  · intro sq k0 k1
    obtain ⟨i, rfl, i1, i2⟩ := hp sq k0 k1
    exact (pair_at r1 i i1 i2).2
  · intro leap k0 k1
    obtain ⟨leap, rfl⟩ := Int.eq_ofNat_of_zero_le k0
    have k2 : (leap : Int) < (T.getD a []).getD b 0 + 1 := k1
    obtain ⟨sq, s1, s2, s3⟩ := mid_at (r2 leap (by omega))
    exact ⟨sq, Int.natCast_nonneg _, Int.ofNat_lt.mpr (c2 a h2 ▸ s1), s2, s3⟩
def GoalC (f r sz : Nat) : Prop := ∀ d : Nat, d < 8 → ∀ sq : Nat, sq < sz → Builtin.bitAnd ((innerFR f r d).fdiv (2 ^ (sq : Int).toNat)) 1 ≠ 0 → 0 ≤ (sq : Int) + deltaOf f d ∧ (sq : Int) + deltaOf f d < sz
theorem goal_ok_of {f r sz : Nat} (h : GoalC f r sz) : GoalOk f r sz := by
  intro d sq h0 h1 k0 k1
  obtain ⟨d, rfl⟩ := Int.eq_ofNat_of_zero_le h0
  obtain ⟨sq, rfl⟩ := Int.eq_ofNat_of_zero_le k0
  exact h d (by omega) sq (Int.ofNat_lt.mp k1)
def KnC (f r sz : Nat) : Prop := ∀ k : Nat, k < sz → (nearOf f r k).natAbs < 2 ^ 64 ∧ (farOf f r k).natAbs < 2 ^ 64
theorem kn_goal_of {f r sz : Nat} (h : KnC f r sz) : KnGoal f r sz := by
  intro k k0 k1
  obtain ⟨k, rfl⟩ := Int.eq_ofNat_of_zero_le k0
  exact h k (Int.ofNat_lt.mp k1)
/-- all that the law asks of a board -/
structure BoardOk (f r : Nat) : Prop where
  goal : GoalOk f r (f * r)
  kn : KnGoal f r (f * r)
  geo : GeoOk (geoOf f r)
  rook : ∀ a : Int, 0 ≤ a → a < (geoOf f r).size → RookOk (geoOf f r) a
  bishop : ∀ a : Int, 0 ≤ a → a < (geoOf f r).size → BishopOk (geoOf f r) a
  knight : ∀ a b : Int, 0 ≤ a → a < (geoOf f r).size → 0 ≤ b → b < (geoOf f r).size → ∃ tA tB, KnightOk (geoOf f r) a b tA tB
def boardP (f r : Nat) (g : GeoD) : Prop :=
  ((List.range 8).map (fun j : Nat => rayOf f r (f * r) (j : Int)) = g.rays ∧ knightsOf f r (f * r) = g.knight ∧ g.files = f ∧ g.ranks = r ∧ g.size = f * r) ∧ (3 ≤ g.files ∧ g.files ≤ 5 ∧ 3 ≤ g.ranks ∧ g.ranks ≤ 5 ∧ g.size ≤ 25 ∧ 0 < g.size ∧ (∀ i, i < 8 → (g.rays.getD i []).length = g.size) ∧ g.knight.length = g.size) ∧ GoalC f r (f * r) ∧ KnC f r (f * r)
set_option synthInstance.maxSize 3000
set_option synthInstance.maxHeartbeats 2000000
noncomputable def boardPD (f r : Nat) (g : GeoD) : Decidable (boardP f r g) := by unfold boardP GoalC KnC; infer_instance
noncomputable def boardPB (f r : Nat) (g : GeoD) : Bool := @decide (boardP f r g) (boardPD f r g)
noncomputable def rookD (g : GeoD) : Decidable (RookC g) := by unfold RookC; infer_instance
noncomputable def rookB (g : GeoD) : Bool := @decide (RookC g) (rookD g)
noncomputable def bishD (g : GeoD) : Decidable (BishopC g) := by unfold BishopC; infer_instance
noncomputable def bishB (g : GeoD) : Bool := @decide (BishopC g) (bishD g)
noncomputable def kniAD (g : GeoD) (T : List (List Int)) : Decidable (KnightA g T) := by unfold KnightA; infer_instance
noncomputable def kniAB (g : GeoD) (T : List (List Int)) : Bool := @decide (KnightA g T) (kniAD g T)
noncomputable def kniBD (g : GeoD) (T : List (List Int)) : Decidable (KnightB g T) := by unfold KnightB; infer_instance
noncomputable def kniBB (g : GeoD) (T : List (List Int)) : Bool := @decide (KnightB g T) (kniBD g T)
theorem board_of {f r : Nat} {g : GeoD} {T : List (List Int)} (k1 : boardPB f r g = true) (k2 : rookB g = true) (k3 : bishB g = true) (k4 : kniAB g T = true) (k5 : kniBB g T = true) (k6 : (T.all fun ra => rowB ra T ra) = true) : BoardOk f r := by
  obtain ⟨⟨e1, e2, e3, e4, e5⟩, ⟨c1, c2, c3, c4, c5, c6, c7, c8⟩, h1, h2⟩ := @of_decide_eq_true (boardP f r g) (boardPD f r g) k1
  have h4 := @of_decide_eq_true (RookC g) (rookD g) k2
  have h5 := @of_decide_eq_true (BishopC g) (bishD g) k3
  have h6 : KnightC g T := ⟨@of_decide_eq_true (KnightA g T) (kniAD g T) k4, @of_decide_eq_true (KnightB g T) (kniBD g T) k5, k6⟩
  have e : geoOf f r = g := by
    cases g
    dsimp only at e1 e2 e3 e4 e5
    unfold geoOf
    rw [e1, e2, e3, e4, e5]
  subst e
  exact { goal := goal_ok_of h1, kn := kn_goal_of h2, geo := ⟨c1, c2, c3, c4, c5, c6, c7, c8⟩, rook := rook_ok_of h4, bishop := bishop_ok_of h5, knight := fun a b x y z w => ⟨_, _, knight_ok_of h6 a b x y z w⟩ }
noncomputable def R33 : List (List Int) := [[72, 144, 288, 64, 128, 256, 0, 0, 0], [6, 4, 0, 48, 32, 0, 384, 256, 0], [0, 0, 0, 1, 2, 4, 9, 18, 36], [0, 1, 3, 0, 8, 24, 0, 64, 192], [272, 32, 0, 128, 256, 0, 0, 0, 0], [0, 0, 0, 2, 4, 0, 20, 32, 0], [0, 0, 0, 0, 1, 2, 0, 8, 17], [0, 8, 80, 0, 64, 128, 0, 0, 0]]
noncomputable def N33 : List Int := [160, 320, 136, 260, 0, 65, 34, 5, 10]
noncomputable def G33 : GeoD := { files := 3, ranks := 3, size := 9, rays := R33, knight := N33 }
noncomputable def T33 : List (List Int) := [[0, 3, 2, 3, -1, 1, 2, 1, 4], [3, 0, 3, 2, -1, 2, 1, 4, 1], [2, 3, 0, 1, -1, 3, 4, 1, 2], [3, 2, 1, 0, -1, 4, 3, 2, 1], [-1, -1, -1, -1, 0, -1, -1, -1, -1], [1, 2, 3, 4, -1, 0, 1, 2, 3], [2, 1, 4, 3, -1, 1, 0, 3, 2], [1, 4, 1, 2, -1, 2, 3, 0, 3], [4, 1, 2, 1, -1, 3, 2, 3, 0]]
theorem p33 : boardPB 3 3 G33 = true := by decide +kernel
theorem q33 : rookB G33 = true := by decide +kernel
theorem b33 : bishB G33 = true := by decide +kernel
theorem ka33 : kniAB G33 T33 = true := by decide +kernel
theorem kb33 : kniBB G33 T33 = true := by decide +kernel
theorem kr33 : (T33.all fun ra => rowB ra T33 ra) = true := by decide +kernel
theorem board33 : BoardOk 3 3 := board_of p33 q33 b33 ka33 kb33 kr33
noncomputable def R34 : List (List Int) := [[584, 1168, 2336, 576, 1152, 2304, 512, 1024, 2048, 0, 0, 0], [6, 4, 0, 48, 32, 0, 384, 256, 0, 3072, 2048, 0], [0, 0, 0, 1, 2, 4, 9, 18, 36, 73, 146, 292], [0, 1, 3, 0, 8, 24, 0, 64, 192, 0, 512, 1536], [272, 32, 0, 2176, 256, 0, 1024, 2048, 0, 0, 0, 0], [0, 0, 0, 2, 4, 0, 20, 32, 0, 160, 256, 0], [0, 0, 0, 0, 1, 2, 0, 8, 17, 0, 64, 136], [0, 8, 80, 0, 64, 640, 0, 512, 1024, 0, 0, 0]]
noncomputable def N34 : List Int := [160, 320, 136, 1284, 2560, 1089, 2082, 5, 522, 272, 40, 80]
noncomputable def G34 : GeoD := { files := 3, ranks := 4, size := 12, rays := R34, knight := N34 }
noncomputable def T34 : List (List Int) := [[0, 3, 2, 3, 4, 1, 2, 1, 4, 5, 2, 3], [3, 0, 3, 2, 3, 2, 1, 4, 1, 2, 3, 2], [2, 3, 0, 1, 4, 3, 4, 1, 2, 3, 2, 5], [3, 2, 1, 0, 3, 2, 3, 2, 1, 2, 1, 4], [4, 3, 4, 3, 0, 3, 2, 5, 2, 1, 4, 1], [1, 2, 3, 2, 3, 0, 1, 2, 3, 4, 1, 2], [2, 1, 4, 3, 2, 1, 0, 3, 2, 3, 2, 1], [1, 4, 1, 2, 5, 2, 3, 0, 3, 4, 3, 4], [4, 1, 2, 1, 2, 3, 2, 3, 0, 1, 2, 3], [5, 2, 3, 2, 1, 4, 3, 4, 1, 0, 3, 2], [2, 3, 2, 1, 4, 1, 2, 3, 2, 3, 0, 3], [3, 2, 5, 4, 1, 2, 1, 4, 3, 2, 3, 0]]
theorem p34 : boardPB 3 4 G34 = true := by decide +kernel
theorem q34 : rookB G34 = true := by decide +kernel
theorem b34 : bishB G34 = true := by decide +kernel
theorem ka34 : kniAB G34 T34 = true := by decide +kernel
theorem kb34 : kniBB G34 T34 = true := by decide +kernel
theorem kr34 : (T34.all fun ra => rowB ra T34 ra) = true := by decide +kernel
theorem board34 : BoardOk 3 4 := board_of p34 q34 b34 ka34 kb34 kr34
noncomputable def R35 : List (List Int) := [[4680, 9360, 18720, 4672, 9344, 18688, 4608, 9216, 18432, 4096, 8192, 16384, 0, 0, 0], [6, 4, 0, 48, 32, 0, 384, 256, 0, 3072, 2048, 0, 24576, 16384, 0], [0, 0, 0, 1, 2, 4, 9, 18, 36, 73, 146, 292, 585, 1170, 2340], [0, 1, 3, 0, 8, 24, 0, 64, 192, 0, 512, 1536, 0, 4096, 12288], [272, 32, 0, 2176, 256, 0, 17408, 2048, 0, 8192, 16384, 0, 0, 0, 0], [0, 0, 0, 2, 4, 0, 20, 32, 0, 160, 256, 0, 1280, 2048, 0], [0, 0, 0, 0, 1, 2, 0, 8, 17, 0, 64, 136, 0, 512, 1088], [0, 8, 80, 0, 64, 640, 0, 512, 5120, 0, 4096, 8192, 0, 0, 0]]
noncomputable def N35 : List Int := [160, 320, 136, 1284, 2560, 1089, 10274, 20485, 8714, 16656, 40, 4176, 2176, 320, 640]
noncomputable def G35 : GeoD := { files := 3, ranks := 5, size := 15, rays := R35, knight := N35 }
noncomputable def T35 : List (List Int) := [[0, 3, 2, 3, 4, 1, 2, 1, 4, 3, 2, 3, 2, 3, 2], [3, 0, 3, 2, 3, 2, 1, 4, 1, 2, 3, 2, 3, 2, 3], [2, 3, 0, 1, 4, 3, 4, 1, 2, 3, 2, 3, 2, 3, 2], [3, 2, 1, 0, 3, 2, 3, 2, 1, 2, 1, 4, 3, 2, 3], [4, 3, 4, 3, 0, 3, 2, 3, 2, 1, 4, 1, 2, 3, 2], [1, 2, 3, 2, 3, 0, 1, 2, 3, 4, 1, 2, 3, 2, 3], [2, 1, 4, 3, 2, 1, 0, 3, 2, 3, 2, 1, 2, 1, 4], [1, 4, 1, 2, 3, 2, 3, 0, 3, 2, 3, 2, 1, 4, 1], [4, 1, 2, 1, 2, 3, 2, 3, 0, 1, 2, 3, 4, 1, 2], [3, 2, 3, 2, 1, 4, 3, 2, 1, 0, 3, 2, 3, 2, 1], [2, 3, 2, 1, 4, 1, 2, 3, 2, 3, 0, 3, 4, 3, 4], [3, 2, 3, 4, 1, 2, 1, 2, 3, 2, 3, 0, 1, 2, 3], [2, 3, 2, 3, 2, 3, 2, 1, 4, 3, 4, 1, 0, 3, 2], [3, 2, 3, 2, 3, 2, 1, 4, 1, 2, 3, 2, 3, 0, 3], [2, 3, 2, 3, 2, 3, 4, 1, 2, 1, 4, 3, 2, 3, 0]]
theorem p35 : boardPB 3 5 G35 = true := by decide +kernel
theorem q35 : rookB G35 = true := by decide +kernel
theorem b35 : bishB G35 = true := by decide +kernel
theorem ka35 : kniAB G35 T35 = true := by decide +kernel
theorem kb35 : kniBB G35 T35 = true := by decide +kernel
theorem kr35 : (T35.all fun ra => rowB ra T35 ra) = true := by decide +kernel
theorem board35 : BoardOk 3 5 := board_of p35 q35 b35 ka35 kb35 kr35
noncomputable def R43 : List (List Int) := [[272, 544, 1088, 2176, 256, 512, 1024, 2048, 0, 0, 0, 0], [14, 12, 8, 0, 224, 192, 128, 0, 3584, 3072, 2048, 0], [0, 0, 0, 0, 1, 2, 4, 8, 17, 34, 68, 136], [0, 1, 3, 7, 0, 16, 48, 112, 0, 256, 768, 1792], [1056, 2112, 128, 0, 512, 1024, 2048, 0, 0, 0, 0, 0], [0, 0, 0, 0, 2, 4, 8, 0, 36, 72, 128, 0], [0, 0, 0, 0, 0, 1, 2, 4, 0, 16, 33, 66], [0, 16, 288, 576, 0, 256, 512, 1024, 0, 0, 0, 0]]
noncomputable def N43 : List Int := [576, 1408, 2576, 1056, 1028, 2056, 257, 514, 66, 133, 26, 36]
noncomputable def G43 : GeoD := { files := 4, ranks := 3, size := 12, rays := R43, knight := N43 }
noncomputable def T43 : List (List Int) := [[0, 3, 2, 5, 3, 4, 1, 2, 2, 1, 4, 3], [3, 0, 3, 2, 2, 3, 2, 1, 1, 2, 1, 4], [2, 3, 0, 3, 1, 2, 3, 2, 4, 1, 2, 1], [5, 2, 3, 0, 2, 1, 4, 3, 3, 4, 1, 2], [3, 2, 1, 2, 0, 3, 4, 3, 3, 2, 1, 2], [4, 3, 2, 1, 3, 0, 5, 4, 4, 3, 2, 1], [1, 2, 3, 4, 4, 5, 0, 3, 1, 2, 3, 4], [2, 1, 2, 3, 3, 4, 3, 0, 2, 1, 2, 3], [2, 1, 4, 3, 3, 4, 1, 2, 0, 3, 2, 5], [1, 2, 1, 4, 2, 3, 2, 1, 3, 0, 3, 2], [4, 1, 2, 1, 1, 2, 3, 2, 2, 3, 0, 3], [3, 4, 1, 2, 2, 1, 4, 3, 5, 2, 3, 0]]
theorem p43 : boardPB 4 3 G43 = true := by decide +kernel
theorem q43 : rookB G43 = true := by decide +kernel
theorem b43 : bishB G43 = true := by decide +kernel
theorem ka43 : kniAB G43 T43 = true := by decide +kernel
theorem kb43 : kniBB G43 T43 = true := by decide +kernel
theorem kr43 : (T43.all fun ra => rowB ra T43 ra) = true := by decide +kernel
theorem board43 : BoardOk 4 3 := board_of p43 q43 b43 ka43 kb43 kr43
noncomputable def R44 : List (List Int) := [[4368, 8736, 17472, 34944, 4352, 8704, 17408, 34816, 4096, 8192, 16384, 32768, 0, 0, 0, 0], [14, 12, 8, 0, 224, 192, 128, 0, 3584, 3072, 2048, 0, 57344, 49152, 32768, 0], [0, 0, 0, 0, 1, 2, 4, 8, 17, 34, 68, 136, 273, 546, 1092, 2184], [0, 1, 3, 7, 0, 16, 48, 112, 0, 256, 768, 1792, 0, 4096, 12288, 28672], [33824, 2112, 128, 0, 16896, 33792, 2048, 0, 8192, 16384, 32768, 0, 0, 0, 0, 0], [0, 0, 0, 0, 2, 4, 8, 0, 36, 72, 128, 0, 584, 1152, 2048, 0], [0, 0, 0, 0, 0, 1, 2, 4, 0, 16, 33, 66, 0, 256, 528, 1057], [0, 16, 288, 4672, 0, 256, 4608, 9216, 0, 4096, 8192, 16384, 0, 0, 0, 0]]
noncomputable def N44 : List Int := [576, 1408, 2576, 1056, 9220, 22536, 41217, 16898, 16450, 32901, 4122, 8228, 1056, 2128, 416, 576]
noncomputable def G44 : GeoD := { files := 4, ranks := 4, size := 16, rays := R44, knight := N44 }
noncomputable def T44 : List (List Int) := [[0, 3, 2, 5, 3, 4, 1, 2, 2, 1, 4, 3, 5, 2, 3, 2], [3, 0, 3, 2, 2, 3, 2, 1, 1, 2, 1, 4, 2, 3, 2, 3], [2, 3, 0, 3, 1, 2, 3, 2, 4, 1, 2, 1, 3, 2, 3, 2], [5, 2, 3, 0, 2, 1, 4, 3, 3, 4, 1, 2, 2, 3, 2, 5], [3, 2, 1, 2, 0, 3, 2, 3, 3, 2, 1, 2, 2, 1, 4, 3], [4, 3, 2, 1, 3, 0, 3, 2, 2, 3, 2, 1, 1, 2, 1, 4], [1, 2, 3, 4, 2, 3, 0, 3, 1, 2, 3, 2, 4, 1, 2, 1], [2, 1, 2, 3, 3, 2, 3, 0, 2, 1, 2, 3, 3, 4, 1, 2], [2, 1, 4, 3, 3, 2, 1, 2, 0, 3, 2, 3, 3, 2, 1, 2], [1, 2, 1, 4, 2, 3, 2, 1, 3, 0, 3, 2, 4, 3, 2, 1], [4, 1, 2, 1, 1, 2, 3, 2, 2, 3, 0, 3, 1, 2, 3, 4], [3, 4, 1, 2, 2, 1, 2, 3, 3, 2, 3, 0, 2, 1, 2, 3], [5, 2, 3, 2, 2, 1, 4, 3, 3, 4, 1, 2, 0, 3, 2, 5], [2, 3, 2, 3, 1, 2, 1, 4, 2, 3, 2, 1, 3, 0, 3, 2], [3, 2, 3, 2, 4, 1, 2, 1, 1, 2, 3, 2, 2, 3, 0, 3], [2, 3, 2, 5, 3, 4, 1, 2, 2, 1, 4, 3, 5, 2, 3, 0]]
theorem p44 : boardPB 4 4 G44 = true := by decide +kernel
theorem q44 : rookB G44 = true := by decide +kernel
theorem b44 : bishB G44 = true := by decide +kernel
theorem ka44 : kniAB G44 T44 = true := by decide +kernel
theorem kb44 : kniBB G44 T44 = true := by decide +kernel
theorem kr44 : (T44.all fun ra => rowB ra T44 ra) = true := by decide +kernel
theorem board44 : BoardOk 4 4 := board_of p44 q44 b44 ka44 kb44 kr44
noncomputable def R45 : List (List Int) := [[69904, 139808, 279616, 559232, 69888, 139776, 279552, 559104, 69632, 139264, 278528, 557056, 65536, 131072, 262144, 524288, 0, 0, 0, 0], [14, 12, 8, 0, 224, 192, 128, 0, 3584, 3072, 2048, 0, 57344, 49152, 32768, 0, 917504, 786432, 524288, 0], [0, 0, 0, 0, 1, 2, 4, 8, 17, 34, 68, 136, 273, 546, 1092, 2184, 4369, 8738, 17476, 34952], [0, 1, 3, 7, 0, 16, 48, 112, 0, 256, 768, 1792, 0, 4096, 12288, 28672, 0, 65536, 196608, 458752], [33824, 2112, 128, 0, 541184, 33792, 2048, 0, 270336, 540672, 32768, 0, 131072, 262144, 524288, 0, 0, 0, 0, 0], [0, 0, 0, 0, 2, 4, 8, 0, 36, 72, 128, 0, 584, 1152, 2048, 0, 9344, 18432, 32768, 0], [0, 0, 0, 0, 0, 1, 2, 4, 0, 16, 33, 66, 0, 256, 528, 1057, 0, 4096, 8448, 16912], [0, 16, 288, 4672, 0, 256, 4608, 74752, 0, 4096, 73728, 147456, 0, 65536, 131072, 262144, 0, 0, 0, 0]]
noncomputable def N45 : List Int := [576, 1408, 2576, 1056, 9220, 22536, 41217, 16898, 147522, 360581, 659482, 270372, 263200, 526416, 65952, 131648, 16896, 34048, 6656, 9216]
noncomputable def G45 : GeoD := { files := 4, ranks := 5, size := 20, rays := R45, knight := N45 }
noncomputable def T45 : List (List Int) := [[0, 3, 2, 5, 3, 4, 1, 2, 2, 1, 4, 3, 3, 2, 3, 2, 2, 3, 2, 3], [3, 0, 3, 2, 2, 3, 2, 1, 1, 2, 1, 4, 2, 3, 2, 3, 3, 2, 3, 2], [2, 3, 0, 3, 1, 2, 3, 2, 4, 1, 2, 1, 3, 2, 3, 2, 2, 3, 2, 3], [5, 2, 3, 0, 2, 1, 4, 3, 3, 4, 1, 2, 2, 3, 2, 3, 3, 2, 3, 2], [3, 2, 1, 2, 0, 3, 2, 3, 3, 2, 1, 2, 2, 1, 4, 3, 3, 2, 3, 2], [4, 3, 2, 1, 3, 0, 3, 2, 2, 3, 2, 1, 1, 2, 1, 4, 2, 3, 2, 3], [1, 2, 3, 4, 2, 3, 0, 3, 1, 2, 3, 2, 4, 1, 2, 1, 3, 2, 3, 2], [2, 1, 2, 3, 3, 2, 3, 0, 2, 1, 2, 3, 3, 4, 1, 2, 2, 3, 2, 3], [2, 1, 4, 3, 3, 2, 1, 2, 0, 3, 2, 3, 3, 2, 1, 2, 2, 1, 4, 3], [1, 2, 1, 4, 2, 3, 2, 1, 3, 0, 3, 2, 2, 3, 2, 1, 1, 2, 1, 4], [4, 1, 2, 1, 1, 2, 3, 2, 2, 3, 0, 3, 1, 2, 3, 2, 4, 1, 2, 1], [3, 4, 1, 2, 2, 1, 2, 3, 3, 2, 3, 0, 2, 1, 2, 3, 3, 4, 1, 2], [3, 2, 3, 2, 2, 1, 4, 3, 3, 2, 1, 2, 0, 3, 2, 3, 3, 2, 1, 2], [2, 3, 2, 3, 1, 2, 1, 4, 2, 3, 2, 1, 3, 0, 3, 2, 4, 3, 2, 1], [3, 2, 3, 2, 4, 1, 2, 1, 1, 2, 3, 2, 2, 3, 0, 3, 1, 2, 3, 4], [2, 3, 2, 3, 3, 4, 1, 2, 2, 1, 2, 3, 3, 2, 3, 0, 2, 1, 2, 3], [2, 3, 2, 3, 3, 2, 3, 2, 2, 1, 4, 3, 3, 4, 1, 2, 0, 3, 2, 5], [3, 2, 3, 2, 2, 3, 2, 3, 1, 2, 1, 4, 2, 3, 2, 1, 3, 0, 3, 2], [2, 3, 2, 3, 3, 2, 3, 2, 4, 1, 2, 1, 1, 2, 3, 2, 2, 3, 0, 3], [3, 2, 3, 2, 2, 3, 2, 3, 3, 4, 1, 2, 2, 1, 4, 3, 5, 2, 3, 0]]
theorem p45 : boardPB 4 5 G45 = true := by decide +kernel
theorem q45 : rookB G45 = true := by decide +kernel
theorem b45 : bishB G45 = true := by decide +kernel
theorem ka45 : kniAB G45 T45 = true := by decide +kernel
theorem kb45 : kniBB G45 T45 = true := by decide +kernel
theorem kr45 : (T45.all fun ra => rowB ra T45 ra) = true := by decide +kernel
theorem board45 : BoardOk 4 5 := board_of p45 q45 b45 ka45 kb45 kr45
noncomputable def R53 : List (List Int) := [[1056, 2112, 4224, 8448, 16896, 1024, 2048, 4096, 8192, 16384, 0, 0, 0, 0, 0], [30, 28, 24, 16, 0, 960, 896, 768, 512, 0, 30720, 28672, 24576, 16384, 0], [0, 0, 0, 0, 0, 1, 2, 4, 8, 16, 33, 66, 132, 264, 528], [0, 1, 3, 7, 15, 0, 32, 96, 224, 480, 0, 1024, 3072, 7168, 15360], [4160, 8320, 16640, 512, 0, 2048, 4096, 8192, 16384, 0, 0, 0, 0, 0, 0], [0, 0, 0, 0, 0, 2, 4, 8, 16, 0, 68, 136, 272, 512, 0], [0, 0, 0, 0, 0, 0, 1, 2, 4, 8, 0, 32, 65, 130, 260], [0, 32, 1088, 2176, 4352, 0, 1024, 2048, 4096, 8192, 0, 0, 0, 0, 0]]
noncomputable def N53 : List Int := [2176, 5376, 10784, 20544, 8320, 4100, 8200, 17425, 2050, 4100, 130, 261, 554, 84, 136]
noncomputable def G53 : GeoD := { files := 5, ranks := 3, size := 15, rays := R53, knight := N53 }
noncomputable def T53 : List (List Int) := [[0, 3, 2, 3, 2, 3, 4, 1, 2, 3, 2, 1, 4, 3, 2], [3, 0, 3, 2, 3, 2, 3, 2, 1, 2, 1, 2, 1, 4, 3], [2, 3, 0, 3, 2, 1, 2, 3, 2, 1, 4, 1, 2, 1, 4], [3, 2, 3, 0, 3, 2, 1, 2, 3, 2, 3, 4, 1, 2, 1], [2, 3, 2, 3, 0, 3, 2, 1, 4, 3, 2, 3, 4, 1, 2], [3, 2, 1, 2, 3, 0, 3, 4, 3, 2, 3, 2, 1, 2, 3], [4, 3, 2, 1, 2, 3, 0, 3, 4, 3, 4, 3, 2, 1, 2], [1, 2, 3, 2, 1, 4, 3, 0, 3, 4, 1, 2, 3, 2, 1], [2, 1, 2, 3, 4, 3, 4, 3, 0, 3, 2, 1, 2, 3, 4], [3, 2, 1, 2, 3, 2, 3, 4, 3, 0, 3, 2, 1, 2, 3], [2, 1, 4, 3, 2, 3, 4, 1, 2, 3, 0, 3, 2, 3, 2], [1, 2, 1, 4, 3, 2, 3, 2, 1, 2, 3, 0, 3, 2, 3], [4, 1, 2, 1, 4, 1, 2, 3, 2, 1, 2, 3, 0, 3, 2], [3, 4, 1, 2, 1, 2, 1, 2, 3, 2, 3, 2, 3, 0, 3], [2, 3, 4, 1, 2, 3, 2, 1, 4, 3, 2, 3, 2, 3, 0]]
theorem p53 : boardPB 5 3 G53 = true := by decide +kernel
theorem q53 : rookB G53 = true := by decide +kernel
theorem b53 : bishB G53 = true := by decide +kernel
theorem ka53 : kniAB G53 T53 = true := by decide +kernel
theorem kb53 : kniBB G53 T53 = true := by decide +kernel
theorem kr53 : (T53.all fun ra => rowB ra T53 ra) = true := by decide +kernel
theorem board53 : BoardOk 5 3 := board_of p53 q53 b53 ka53 kb53 kr53
noncomputable def R54 : List (List Int) := [[33824, 67648, 135296, 270592, 541184, 33792, 67584, 135168, 270336, 540672, 32768, 65536, 131072, 262144, 524288, 0, 0, 0, 0, 0], [30, 28, 24, 16, 0, 960, 896, 768, 512, 0, 30720, 28672, 24576, 16384, 0, 983040, 917504, 786432, 524288, 0], [0, 0, 0, 0, 0, 1, 2, 4, 8, 16, 33, 66, 132, 264, 528, 1057, 2114, 4228, 8456, 16912], [0, 1, 3, 7, 15, 0, 32, 96, 224, 480, 0, 1024, 3072, 7168, 15360, 0, 32768, 98304, 229376, 491520], [266304, 532608, 16640, 512, 0, 133120, 266240, 532480, 16384, 0, 65536, 131072, 262144, 524288, 0, 0, 0, 0, 0, 0], [0, 0, 0, 0, 0, 2, 4, 8, 16, 0, 68, 136, 272, 512, 0, 2184, 4368, 8704, 16384, 0], [0, 0, 0, 0, 0, 0, 1, 2, 4, 8, 0, 32, 65, 130, 260, 0, 1024, 2080, 4161, 8322], [0, 32, 1088, 34944, 69888, 0, 1024, 34816, 69632, 139264, 0, 32768, 65536, 131072, 262144, 0, 0, 0, 0, 0]]
noncomputable def N54 : List Int := [2176, 5376, 10784, 20544, 8320, 69636, 172040, 345105, 657410, 266244, 131202, 262405, 557610, 65620, 131208, 4160, 8352, 17728, 2688, 4352]
noncomputable def G54 : GeoD := { files := 5, ranks := 4, size := 20, rays := R54, knight := N54 }
noncomputable def T54 : List (List Int) := [[0, 3, 2, 3, 2, 3, 4, 1, 2, 3, 2, 1, 4, 3, 2, 5, 2, 3, 2, 3], [3, 0, 3, 2, 3, 2, 3, 2, 1, 2, 1, 2, 1, 4, 3, 2, 3, 2, 3, 2], [2, 3, 0, 3, 2, 1, 2, 3, 2, 1, 4, 1, 2, 1, 4, 3, 2, 3, 2, 3], [3, 2, 3, 0, 3, 2, 1, 2, 3, 2, 3, 4, 1, 2, 1, 2, 3, 2, 3, 2], [2, 3, 2, 3, 0, 3, 2, 1, 4, 3, 2, 3, 4, 1, 2, 3, 2, 3, 2, 5], [3, 2, 1, 2, 3, 0, 3, 2, 3, 2, 3, 2, 1, 2, 3, 2, 1, 4, 3, 2], [4, 3, 2, 1, 2, 3, 0, 3, 2, 3, 2, 3, 2, 1, 2, 1, 2, 1, 4, 3], [1, 2, 3, 2, 1, 2, 3, 0, 3, 2, 1, 2, 3, 2, 1, 4, 1, 2, 1, 4], [2, 1, 2, 3, 4, 3, 2, 3, 0, 3, 2, 1, 2, 3, 2, 3, 4, 1, 2, 1], [3, 2, 1, 2, 3, 2, 3, 2, 3, 0, 3, 2, 1, 2, 3, 2, 3, 4, 1, 2], [2, 1, 4, 3, 2, 3, 2, 1, 2, 3, 0, 3, 2, 3, 2, 3, 2, 1, 2, 3], [1, 2, 1, 4, 3, 2, 3, 2, 1, 2, 3, 0, 3, 2, 3, 4, 3, 2, 1, 2], [4, 1, 2, 1, 4, 1, 2, 3, 2, 1, 2, 3, 0, 3, 2, 1, 2, 3, 2, 1], [3, 4, 1, 2, 1, 2, 1, 2, 3, 2, 3, 2, 3, 0, 3, 2, 1, 2, 3, 4], [2, 3, 4, 1, 2, 3, 2, 1, 2, 3, 2, 3, 2, 3, 0, 3, 2, 1, 2, 3], [5, 2, 3, 2, 3, 2, 1, 4, 3, 2, 3, 4, 1, 2, 3, 0, 3, 2, 3, 2], [2, 3, 2, 3, 2, 1, 2, 1, 4, 3, 2, 3, 2, 1, 2, 3, 0, 3, 2, 3], [3, 2, 3, 2, 3, 4, 1, 2, 1, 4, 1, 2, 3, 2, 1, 2, 3, 0, 3, 2], [2, 3, 2, 3, 2, 3, 4, 1, 2, 1, 2, 1, 2, 3, 2, 3, 2, 3, 0, 3], [3, 2, 3, 2, 5, 2, 3, 4, 1, 2, 3, 2, 1, 4, 3, 2, 3, 2, 3, 0]]
theorem p54 : boardPB 5 4 G54 = true := by decide +kernel
theorem q54 : rookB G54 = true := by decide +kernel
theorem b54 : bishB G54 = true := by decide +kernel
theorem ka54 : kniAB G54 T54 = true := by decide +kernel
theorem kb54 : kniBB G54 T54 = true := by decide +kernel
theorem kr54 : (T54.all fun ra => rowB ra T54 ra) = true := by decide +kernel
theorem board54 : BoardOk 5 4 := board_of p54 q54 b54 ka54 kb54 kr54
noncomputable def R55 : List (List Int) := [[1082400, 2164800, 4329600, 8659200, 17318400, 1082368, 2164736, 4329472, 8658944, 17317888, 1081344, 2162688, 4325376, 8650752, 17301504, 1048576, 2097152, 4194304, 8388608, 16777216, 0, 0, 0, 0, 0], [30, 28, 24, 16, 0, 960, 896, 768, 512, 0, 30720, 28672, 24576, 16384, 0, 983040, 917504, 786432, 524288, 0, 31457280, 29360128, 25165824, 16777216, 0], [0, 0, 0, 0, 0, 1, 2, 4, 8, 16, 33, 66, 132, 264, 528, 1057, 2114, 4228, 8456, 16912, 33825, 67650, 135300, 270600, 541200], [0, 1, 3, 7, 15, 0, 32, 96, 224, 480, 0, 1024, 3072, 7168, 15360, 0, 32768, 98304, 229376, 491520, 0, 1048576, 3145728, 7340032, 15728640], [17043520, 532608, 16640, 512, 0, 8521728, 17043456, 532480, 16384, 0, 4259840, 8519680, 17039360, 524288, 0, 2097152, 4194304, 8388608, 16777216, 0, 0, 0, 0, 0, 0], [0, 0, 0, 0, 0, 2, 4, 8, 16, 0, 68, 136, 272, 512, 0, 2184, 4368, 8704, 16384, 0, 69904, 139776, 278528, 524288, 0], [0, 0, 0, 0, 0, 0, 1, 2, 4, 8, 0, 32, 65, 130, 260, 0, 1024, 2080, 4161, 8322, 0, 32768, 66560, 133152, 266305], [0, 32, 1088, 34944, 1118464, 0, 1024, 34816, 1118208, 2236416, 0, 32768, 1114112, 2228224, 4456448, 0, 1048576, 2097152, 4194304, 8388608, 0, 0, 0, 0, 0]]
noncomputable def N55 : List Int := [2176, 5376, 10784, 20544, 8320, 69636, 172040, 345105, 657410, 266244, 2228354, 5505285, 11043370, 21037140, 8519816, 4198464, 8396960, 17843520, 2099840, 4198656, 133120, 267264, 567296, 86016, 139264]
noncomputable def G55 : GeoD := { files := 5, ranks := 5, size := 25, rays := R55, knight := N55 }
noncomputable def T55 : List (List Int) := [[0, 3, 2, 3, 2, 3, 4, 1, 2, 3, 2, 1, 4, 3, 2, 3, 2, 3, 2, 3, 2, 3, 2, 3, 4], [3, 0, 3, 2, 3, 2, 3, 2, 1, 2, 1, 2, 1, 4, 3, 2, 3, 2, 3, 2, 3, 2, 3, 2, 3], [2, 3, 0, 3, 2, 1, 2, 3, 2, 1, 4, 1, 2, 1, 4, 3, 2, 3, 2, 3, 2, 3, 2, 3, 2], [3, 2, 3, 0, 3, 2, 1, 2, 3, 2, 3, 4, 1, 2, 1, 2, 3, 2, 3, 2, 3, 2, 3, 2, 3], [2, 3, 2, 3, 0, 3, 2, 1, 4, 3, 2, 3, 4, 1, 2, 3, 2, 3, 2, 3, 4, 3, 2, 3, 2], [3, 2, 1, 2, 3, 0, 3, 2, 3, 2, 3, 2, 1, 2, 3, 2, 1, 4, 3, 2, 3, 2, 3, 2, 3], [4, 3, 2, 1, 2, 3, 0, 3, 2, 3, 2, 3, 2, 1, 2, 1, 2, 1, 4, 3, 2, 3, 2, 3, 2], [1, 2, 3, 2, 1, 2, 3, 0, 3, 2, 1, 2, 3, 2, 1, 4, 1, 2, 1, 4, 3, 2, 3, 2, 3], [2, 1, 2, 3, 4, 3, 2, 3, 0, 3, 2, 1, 2, 3, 2, 3, 4, 1, 2, 1, 2, 3, 2, 3, 2], [3, 2, 1, 2, 3, 2, 3, 2, 3, 0, 3, 2, 1, 2, 3, 2, 3, 4, 1, 2, 3, 2, 3, 2, 3], [2, 1, 4, 3, 2, 3, 2, 1, 2, 3, 0, 3, 2, 3, 2, 3, 2, 1, 2, 3, 2, 1, 4, 3, 2], [1, 2, 1, 4, 3, 2, 3, 2, 1, 2, 3, 0, 3, 2, 3, 2, 3, 2, 1, 2, 1, 2, 1, 4, 3], [4, 1, 2, 1, 4, 1, 2, 3, 2, 1, 2, 3, 0, 3, 2, 1, 2, 3, 2, 1, 4, 1, 2, 1, 4], [3, 4, 1, 2, 1, 2, 1, 2, 3, 2, 3, 2, 3, 0, 3, 2, 1, 2, 3, 2, 3, 4, 1, 2, 1], [2, 3, 4, 1, 2, 3, 2, 1, 2, 3, 2, 3, 2, 3, 0, 3, 2, 1, 2, 3, 2, 3, 4, 1, 2], [3, 2, 3, 2, 3, 2, 1, 4, 3, 2, 3, 2, 1, 2, 3, 0, 3, 2, 3, 2, 3, 2, 1, 2, 3], [2, 3, 2, 3, 2, 1, 2, 1, 4, 3, 2, 3, 2, 1, 2, 3, 0, 3, 2, 3, 4, 3, 2, 1, 2], [3, 2, 3, 2, 3, 4, 1, 2, 1, 4, 1, 2, 3, 2, 1, 2, 3, 0, 3, 2, 1, 2, 3, 2, 1], [2, 3, 2, 3, 2, 3, 4, 1, 2, 1, 2, 1, 2, 3, 2, 3, 2, 3, 0, 3, 2, 1, 2, 3, 4], [3, 2, 3, 2, 3, 2, 3, 4, 1, 2, 3, 2, 1, 2, 3, 2, 3, 2, 3, 0, 3, 2, 1, 2, 3], [2, 3, 2, 3, 4, 3, 2, 3, 2, 3, 2, 1, 4, 3, 2, 3, 4, 1, 2, 3, 0, 3, 2, 3, 2], [3, 2, 3, 2, 3, 2, 3, 2, 3, 2, 1, 2, 1, 4, 3, 2, 3, 2, 1, 2, 3, 0, 3, 2, 3], [2, 3, 2, 3, 2, 3, 2, 3, 2, 3, 4, 1, 2, 1, 4, 1, 2, 3, 2, 1, 2, 3, 0, 3, 2], [3, 2, 3, 2, 3, 2, 3, 2, 3, 2, 3, 4, 1, 2, 1, 2, 1, 2, 3, 2, 3, 2, 3, 0, 3], [4, 3, 2, 3, 2, 3, 2, 3, 2, 3, 2, 3, 4, 1, 2, 3, 2, 1, 4, 3, 2, 3, 2, 3, 0]]
theorem p55 : boardPB 5 5 G55 = true := by decide +kernel
theorem q55 : rookB G55 = true := by decide +kernel
theorem b55 : bishB G55 = true := by decide +kernel
theorem ka55 : kniAB G55 T55 = true := by decide +kernel
theorem kb55 : kniBB G55 T55 = true := by decide +kernel
theorem kr55 : (T55.all fun ra => rowB ra T55 ra) = true := by decide +kernel
theorem board55 : BoardOk 5 5 := board_of p55 q55 b55 ka55 kb55 kr55
theorem board_ok (f r : Nat) (hf3 : 3 ≤ f) (hf5 : f ≤ 5) (hr3 : 3 ≤ r) (hr5 : r ≤ 5) : BoardOk f r := by
  have a : f = 3 ∨ f = 4 ∨ f = 5 := by omega
  have b : r = 3 ∨ r = 4 ∨ r = 5 := by omega
  rcases a with rfl | rfl | rfl <;> rcases b with rfl | rfl | rfl
  · exact board33
  · exact board34
  · exact board35
  · exact board43
  · exact board44
  · exact board45
  · exact board53
  · exact board54
  · exact board55
section
variable {c : RCx} {k : Fn} {m : Fra} {news news' : Led} {e l r o : PySem.Expr} {x y z : Int} {pos : Pos} {n : Nat} {R : Flow → Fra → Led → Prop} {rest ss : List Stmt}
/-- x = [y[:4], 0] -/
theorem rs_cup {x y : Str} {la : Addr} {vs : List Value} {ns : List Int} {j4 j0 : Nat} {q1 q2 q3 q4 q5 q6 q7 q8 : Pos} (H : RW c k n) (hv : m y = some (.ref la)) (hL : c.g.IsList la vs.toArray) (hi : IntsAre vs ns) (hz : ns.length ≤ 1000) (hy : (k.env c.L).kindOf y = some .local) (hd : (y == ("__debug__" : Str)) = false) (hx : (k.env c.L).kindOf x = some .local) (hs : swapsWith (.List [.Subscript (.Name y q1) (.Slice none (some (.Constant (.int 4) j4 q2)) none q3) q4, .Constant (.int 0) j0 q5] q6) (some (.Name x q7)) q8.line (k.env c.L) = pure false)
    (h1 : ∀ a b, subscripted (.Slice none (some (.Constant (.int 4) j4 q2)) none q3) false (.ref a) (.ref b) = operate [.ref b, .ref a] (getItem (.ref a) (.ref b))) (h2 : ∀ a r, letTemporaryGo (.Name y q1) (.ref a) r = pure ())
    (h : ∀ D cup ws t, IntsAre ws (ns.take 4) → @Ne Nat cup D → let m' : Fra := fun z => if z = x then some (.ref cup) else m z; RS c k m' ((cup, listOf (List.toArray [.ref D, .int 0 t]) 0) :: (D, listOf (List.toArray ws) 0) :: news) rest R) :
    RS c k m news (.Assign [.Name x q7] (.List [.Subscript (.Name y q1) (.Slice none (some (.Constant (.int 4) j4 q2)) none q3) q4, .Constant (.int 0) j0 q5] q6) q8 :: rest) R :=
  ⟨fun Q s F N q => wpAny_execs_cons (wpAny_Assign_Name (List_ (args_cons (Subscript_ ((r_name H hv hy hd).run _ _ F N fun _ _ F2 N2 => wpAny_Slice (evalPart_none_step (evalPart_some_step (wpAny_Constant_int (evalPart_none_step (kmk_slice_ints (s := ⟨_, _, _, _, _⟩) F2 N2 (hL.at fun o e => F2.keep _ o e) .none (.int _ _) hi (kmk_upto hi (by decide)) rfl
    (fun D ws h' F3 N3 lt hi2 _ _ => args_cons (wpAny_Constant_int (args_nil (newList_K F3 N3 (fun cup h4 F4 N4 lt2 => rs_store H hx (h D cup ws _ hi2 (Nat.ne_of_gt (lt2 _ (.head _)))) F4 N4 q) (by show (2 : Nat) ≤ _; exact of_decide_eq_true (by with_unfolding_all rfl))))) rfl) (h1 _ _) (h2 _) (by rw [List.size_toArray, hi.length, PySem.sizeLine_eq]; omega)))))))) rfl)) hs)⟩
/-- the expression gives an int and changes things -/
structure RD (c : RCx) (k : Fn) (m : Fra) (news : Led) (e : PySem.Expr) (P : Int → Led → Prop) : Prop where
  run : ∀ (Q : Value → Shared → Prop) (s : Shared), Fr c.g c.L s.heap m → News c.g c.L s.heap news → (∀ z t h tk news', P z news' → Fr c.g c.L h m → News c.g c.L h news' → Q (.int z t) ⟨h, s.gens, s.drawn, tk, s.os⟩) → wpAny (model PG c.w) c.A (eval e (k.env c.L)) Q NoE s
theorem rd_call {fa : Addr} {f : (Nat → Tok) → List Value} {dk : Nat} {led rest0 : Led} {W : Led → Value → Led → Prop} {P : Int → Led → Prop} {es : List PySem.Expr} {fn : Str} {fp : Pos} (H : RW c k n) (a : RV c k m news (.Name fn fp) (.ref fa)) (hk : keepIn (hd.heap_39 c.w.params) (.ref fa) = true) (b : RA c k m news pos (e :: es) f) (hp : PlainArg e) (hs : (backTo pos (starEach es (k.env c.L))).any (·.1) = false)
    (S : ∀ t, DoesR fa dk led [] (f t) W) (hd : 1 ≤ dk ∧ dk ≤ n) (hl : ∀ p ∈ led ++ rest0, p ∈ news) (ho : OwnOff rest0 (led.map (·.1))) (hW : ∀ v news', W rest0 v news' → ∃ z t, v = .int z t ∧ P z news') : RD c k m news (.Call (.Name fn fp) (e :: es) [] pos) P :=
  ⟨fun Q s F N q => r_does H a hk b hp hs S hd hl ho (fun p hp => nomatch hp) F N fun r h' tk news' v F2 N2 => by
    obtain ⟨z, t, rfl, hP⟩ := hW r news' v
    exact q z t _ _ _ hP F2 N2⟩
theorem rd_add {P : Int → Led → Prop} (a : RI c k m news l x) (b : RD c k m news r P) : RD c k m news (.BinOp l .Add r pos) (fun z news' => ∃ y, z = x + y ∧ P y news') :=
  ⟨fun Q s F N q => wpAny_BinOp (a.run _ _ F N fun t _ _ F2 N2 => b.run _ _ F2 N2 fun y u _ _ _ hP F3 N3 => add_int (q _ _ _ _ _ ⟨y, rfl, hP⟩ F3 N3))⟩
/-- x, y = e, e2 (ints, changing things) -/
theorem rs_dints2 {x y : Str} {P : Int → Led → Prop} {P2 : Int → Led → Int → Led → Prop} {e2 : PySem.Expr} {k1 k2 : Nat} {p1 p2 p3 p4 p5 : Pos} (H : RW c k n) (a : RD c k m news e P) (b : ∀ i news1, P i news1 → RD c k m news1 e2 (P2 i news1)) (hp : PlainArg e) (hp2 : PlainArg e2) (hx : (k.env c.L).kindOf x = some .local) (hy : (k.env c.L).kindOf y = some .local)
    (hs : swapsWithSole [.Tuple [.Name x p1, .Name y p2] k1 p3] (.Tuple [e, e2] k2 p4) p5.line (k.env c.L) = pure false) (hw : swappedStores [.Tuple [.Name x p1, .Name y p2] k1 p3] (.Tuple [e, e2] k2 p4) (k.env c.L) = pure (some [x, y]))
    (h : ∀ i j t u news1 news2, P i news1 → P2 i news1 j news2 → let m' : Fra := fun z => if z = x then some (.int i t) else if z = y then some (.int j u) else m z; RS c k m' news2 rest R) : RS c k m news (.Assign [.Tuple [.Name x p1, .Name y p2] k1 p3] (.Tuple [e, e2] k2 p4) p5 :: rest) R :=
  ⟨fun Q s F N q => wpAny_execs_cons (Assign_Tuple_swapped (names := [x, y]) (Tuple_ (args_cons (a.run _ _ F N fun i t _ _ news1 hP1 F1 N1 => args_cons ((b i news1 hP1).run _ _ F1 N1 fun j u _ _ news2 hP2 F2 N2 => args_nil (kup_newTuple F2 N2 (fun D h' F3 N3 _ => unpackItemsN_ F3 N3 (News.isTup N3 (.head _)) H.hand rfl fun h4 F4 N4 => by
    have hn : ((k.env c.L).scope.kind == .class || ((k.env c.L).scope.kind == .module && (k.env c.L).locals != (k.env c.L).globals)) = false := by show (k.scope.kind == .class || (k.scope.kind == .module && _)) = false; rw [H.kind]; rfl
    exact assignInOrder_cons (wpAny_bindName (wpAny_storeName_local hy F4.ns (fun h5 hn5 hs5 => assignInOrder_cons (wpAny_bindName (wpAny_storeName_local hx (F4.set hn5 hs5).ns (fun h6 hn6 hs6 => assignInOrder_nil ((h _ _ _ _ _ _ hP1 hP2).run _ _ ((F4.set hn5 hs5).set hn6 hs6) (fun p hp => ((N4.set hs5).set hs6) p (.tail _ hp)) q)) hn))) hn))) (by show (2 : Nat) ≤ _; exact of_decide_eq_true (by with_unfolding_all rfl)))) (hp2 _ _)) (hp _ _))) hs hw)⟩
/-- x = f(..), which makes new objects -/
theorem rs_saysNew {x : Str} {fa : Addr} {f : (Nat → Tok) → List Value} {dk : Nat} {G : Heap → Prop} {V : Heap → Value → Heap → Prop} {es : List PySem.Expr} {fn : Str} {fp p1 p2 : Pos} {Pr : Value → Led → Prop} (H : RW c k n) (a : RV c k m news (.Name fn fp) (.ref fa)) (hk : keepIn (hd.heap_39 c.w.params) (.ref fa) = true) (b : RA c k m news pos (e :: es) f) (hp : PlainArg e) (hs : (backTo pos (starEach es (k.env c.L))).any (·.1) = false)
    (S : ∀ t, Says fa dk G (f t) V) (hd : 1 ≤ dk ∧ dk ≤ n) (hG : ∀ h, G h) (hx : (k.env c.L).kindOf x = some .local) (hw : swapsWith (.Call (.Name fn fp) (e :: es) [] pos) (some (.Name x p1)) p2.line (k.env c.L) = pure false)
    (hV : ∀ g r h', V g r h' → ∃ led, Pr r led ∧ ∀ p ∈ led, h'.get? p.1 = some p.2 ∧ g.get? p.1 = none) (h : ∀ r led, Pr r led → OwnOff led (news.map (·.1)) → let m' : Fra := fun y => if y = x then some r else m y; RS c k m' (news ++ led) rest R) : RS c k m news (.Assign [.Name x p1] (.Call (.Name fn fp) (e :: es) [] pos) p2 :: rest) R :=
  ⟨fun Q s F N q => wpAny_execs_cons (wpAny_Assign_Name (Call_ (a.run _ _ F N fun _ _ F2 N2 => callWith_K H.inn hk (b.run _ _ F2 N2 fun t h0 _ F3 N3 => ⟨H.inn.keeps F3.keep, H.call (S t) hd _ _ _ F3 (hG _) fun r h' tk st F4 v => by
    obtain ⟨led, hP, hl⟩ := hV _ _ _ v
    refine rs_store H hx (h r led hP ?_) F4 ?_ q
    · intro p hp b hb e
      obtain ⟨q, hq, rfl⟩ := List.mem_map.mp hb
      have h2 := (N3 q hq).1
      rw [← e, (hl p hp).2] at h2
      cases h2
    · intro p hp
      rcases List.mem_append.mp hp with hp | hp
      · exact news_on N3 st p hp
      · exact new_on F3 (news_on N3 st) (hl p hp).2 (hl p hp).1 p (.head _)⟩) (hp _ _) hs)) hw)⟩
theorem rv_and3 (h1 : RV c k m news l (.bool true)) (h2 : RV c k m news r (.bool true)) (h3 : RV c k m news e (.bool true)) : RV c k m news (.BoolOp .And [l, r, e] pos) (.bool true) :=
  ⟨fun Q s F N q => BoolOp_and (h1.run _ _ F N fun _ _ F2 N2 => wpAny_truthy_bool (by rw [if_pos rfl]; exact BoolOp_and (h2.run _ _ F2 N2 fun _ _ F3 N3 => wpAny_truthy_bool (by rw [if_pos rfl]; exact BoolOp_one (h3.run _ _ F3 N3 q)))))⟩
end
/-- the law's own body -/
theorem top_go {w : World} {qual : Str} {scope : Scope} {fa : Addr} {cd : Value} {g : Heap} {L : Addr} {ss : List Stmt} {Q : Flow → Shared → Prop} {E : Value → Shared → Prop} {s : Shared} {m : Fra} {p : Program} {loose : List Str} {mean : ExcName → Option Value} {mg mb : Str → Option Value} (B : Below callerA g [] g) (X : (hd.heap_39 w.params).In g) (T : Top p loose mean mg mb g) (hk : scope.kind = .function) (F : Fr g L s.heap m) (N : News g L s.heap [])
    (h : let c : RCx := ⟨w, callerA.deeper (envOf qual scope L fa cd), g, L⟩; RW c ⟨qual, scope, fa, cd⟩ 30 → RS c ⟨qual, scope, fa, cd⟩ m [] ss (fun fl _ _ => fl = .ret (.bool true))) (q : ∀ h m' news' tk, Fr g L h m' → News g L h news' → Q (.ret (.bool true)) ⟨h, s.gens, s.drawn, tk, s.os⟩) : wpAny (model PG w) (callerA.deeper (envOf qual scope L fa cd)) (execs ss (envOf qual scope L fa cd)) Q E s := by
  refine wpAny_mono ((h ⟨hk, rfl, X, ⟨_, _, _, _, _, T⟩, of_decide_eq_true (by with_unfolding_all rfl), ?_, ?_⟩).run Q s F N fun fl h m' news' tk e F N => ?_) (fun _ _ x => x) fun _ _ y => y.elim
  · intro f dk G vs V S hle Q s m F2 hG2 q
    exact S _ _ _ _ _ _ (1 + claimMargin + 1) 7 (some []) qual scope fa cd [] [] callerA g g L m s Q NoE B F2 X T hk hG2 (room_in (dp := 1 + claimMargin) (n := 30) (of_decide_eq_true (by with_unfolding_all rfl)) hle.2) (units_in (un := 4) (n := 30) (of_decide_eq_true (by with_unfolding_all rfl)) hle.2) q
  · intro f dk led ro vs W S hle Q s m rest F2 N2 o hro q
    exact S _ _ _ _ _ _ (1 + claimMargin + 1) 7 (some []) qual scope fa cd [] [] callerA g g L m rest s Q NoE B F2 X N2 o hro T hk (room_in (dp := 1 + claimMargin) (n := 30) (of_decide_eq_true (by with_unfolding_all rfl)) hle.2) (units_in (un := 4) (n := 30) (of_decide_eq_true (by with_unfolding_all rfl)) hle.2) q
  · subst e
    exact q h m' news' tk F N
theorem rel_words_17 : True := by
  k_with_none
  k_with "evat" => first | with_reducible exact at_files | with_reducible exact at_ranks | with_reducible exact at_size | with_reducible exact at_full | with_reducible exact at_rays | with_reducible exact at_king | with_reducible exact at_knight | with_reducible exact at_pawn | with_reducible exact at_file_masks | with_reducible exact at_rank_masks | with_reducible exact at_castles | with_reducible exact at_rights_lost | with_reducible exact at_has_castling
  k_with "evnth" => first | exact rfl | exact nth_ref (by omega)
  k_with "rv" => first | (apply r_name; assumption; exact rfl; exact rfl; exact rfl) | (apply r_glob; assumption; k_is; exact rfl; exact rfl) | (apply r_attrG; assumption; k_extra "rv"; assumption; assumption; k_extra "evat"; assumption; exact rfl) | (apply r_attrN; assumption; k_extra "rv"; k_mem; k_mem; k_extra "evat"; assumption; exact rfl) | (apply r_topItem; assumption; k_extra "rv"; k_extra "r"; k_is; decide; decide; exact rfl; exact rfl; (first | exact pi_name | exact pi_const | exact pi_bin)) | (apply r_itemVG; k_extra "rv"; k_extra "r"; assumption; (first | assumption | omega); (first | assumption | omega); k_extra "evnth"; (first | exact pi_name | exact pi_const | exact pi_bin)) | (apply r_itemVN; k_extra "rv"; k_extra "r"; k_mem; (first | assumption | omega); (first | assumption | omega); k_extra "evnth"; (first | exact pi_name | exact pi_const | exact pi_bin))
  k_with "r" => first | exact r_const | (apply r_of; k_extra "rv"; exact rfl) | (apply r_add; k_extra "r"; k_extra "r") | (apply r_sub; k_extra "r"; k_extra "r") | (apply r_and; k_extra "r"; k_extra "r") | (apply r_or; k_extra "r"; k_extra "r") | (apply r_shr; k_extra "r"; k_extra "r"; (first | assumption | omega)) | (apply r_shl; k_extra "r"; k_extra "r"; (first | assumption | omega); (first | assumption | omega); (first | assumption | omega)) | (apply r_mul; k_extra "r"; k_extra "r"; (first | assumption | omega); (first | assumption | omega)) | (apply r_mod; k_extra "r"; k_extra "r"; (first | assumption | omega)) | (apply r_div; k_extra "r"; k_extra "r"; (first | assumption | omega); (first | assumption | omega)) | (apply r_inv; k_extra "r") | (apply r_itemG; k_extra "rv"; k_extra "r"; assumption; assumption; (first | assumption | omega); (first | assumption | omega); (first | assumption | omega); (first | exact pi_name | exact pi_const | exact pi_bin)) | (apply r_itemN; k_extra "rv"; k_extra "r"; k_mem; assumption; (first | assumption | omega); (first | assumption | omega); (first | assumption | omega); (first | exact pi_name | exact pi_const | exact pi_bin))
  k_with "rc" => first | (apply rc_eq; k_extra "r"; k_extra "r"; exact rfl) | (apply rc_ne; k_extra "r"; k_extra "r"; exact rfl) | (apply rc_lt; k_extra "r"; k_extra "r"; exact rfl) | (apply rc_gt; k_extra "r"; k_extra "r"; exact rfl) | (apply rc_ge; k_extra "r"; k_extra "r"; exact rfl)
  k_with "rs" => first | (apply rs_set; assumption; k_extra "r"; exact rfl; exact rfl; intro _ _) | (apply rs_setV; assumption; k_extra "rv"; exact rfl; exact rfl; intro _) | (apply rs_ior; assumption; exact rfl; k_extra "r"; exact rfl; intro _ _) | (apply rs_iadd; assumption; exact rfl; k_extra "r"; exact rfl; intro _ _) | (apply rs_ifior_gt; assumption; exact rfl; k_extra "r"; k_extra "r"; exact rfl; (intro _; k_extra "r"); exact rfl; intro _ _) | (apply rs_ifior_lt; assumption; exact rfl; k_extra "r"; k_extra "r"; exact rfl; (intro _; k_extra "r"); exact rfl; intro _ _) | (apply rs_if; k_extra "rc"; all_goals intro _) | (apply rs_ret; k_extra "r"; intro _) | (apply rs_retV; k_extra "rv") | (apply rs_nil; (try (show RS _ _ _ _ _ _)))
  k_with "ra" => first | exact ra_nil | (apply ra_val; k_extra "rv"; k_extra "ra"; (first | exact pa_name | exact pa_const | exact pa_bin | exact pa_attr | exact pa_sub | exact pa_call)) | (apply ra_int; k_extra "r"; k_extra "ra"; (first | exact pa_name | exact pa_const | exact pa_bin | exact pa_attr | exact pa_sub | exact pa_call))
  k_with "r" => (apply r_callI; assumption; k_extra "rv"; k_is; k_extra "ra"; (first | exact pa_name | exact pa_const | exact pa_bin | exact pa_attr | exact pa_sub | exact pa_call); exact rfl; k_extra "says"; decide; k_extra "given")
  k_with "rv" => exact rv_bool
  k_with "rc" => (apply rc_and; k_extra "rc"; (intro _; k_extra "rc"))
  k_with "given" => first | (intro _ _ _; exact True.intro) | (intro _ zzF _; exact GeoH.keeps (by assumption) (Fr.keep zzF))
  k_with "frame end" => repeat (first | exact rfl | refine skip_ne (by with_reducible assumption) ?_ | refine skip_in (by with_reducible assumption) (by repeat (first | exact List.Mem.head _ | refine List.Mem.tail _ ?_)) ?_ | refine skip_b (by with_reducible assumption) ?_)
  exact True.intro
theorem led_words_17 : True := by
  k_with "in" => repeat (first | exact List.Mem.head _ | refine List.Mem.tail _ ?_)
  k_with "mem" => first | (with_reducible assumption) | (with_reducible exact List.mem_cons_self) | ((with_reducible refine List.mem_append_left _ ?_); k_extra "mem") | ((with_reducible refine List.mem_append_right _ ?_); k_extra "mem") | ((with_reducible refine List.mem_cons_of_mem _ ?_); k_extra "mem")
  k_with "k_mem" => k_extra "mem"
  k_with "ne" => (refine neN ?_; first | (with_reducible assumption) | (refine Ne.symm ?_; with_reducible assumption))
  k_with "all" => first | exact List.forall_mem_nil _ | (with_reducible assumption) | ((with_reducible refine List.forall_mem_cons.mpr ⟨?_, ?_⟩); k_extra "ne"; k_extra "all") | ((with_reducible refine List.forall_mem_append.mpr ⟨?_, ?_⟩); k_extra "all"; k_extra "all") | (intro zzp zzhp; refine off_at (by assumption) zzhp ?_; k_extra "in")
  k_with "upd" => first | ((with_reducible apply Upd.head); k_extra "all") | ((with_reducible apply Upd.tail); k_extra "ne"; k_extra "upd")
  k_with "size" => first | (with_reducible assumption) | exact le2000 (by with_reducible assumption) | omega
  k_with "pa" => first | exact pa_name | exact pa_const | exact pa_bin | exact pa_attr | exact pa_sub | exact pa_call | exact pa_neg
  k_with "r" => (apply r_neg; k_extra "r")
  k_with "rs" => (apply rs_append; k_extra "rv"; k_extra "mem"; k_extra "r"; k_extra "pa"; exact rfl; exact rfl; exact rfl; k_extra "size"; (intro _; k_extra "upd"); intro _)
  k_with "rc" => first | (apply rc_int; k_extra "r"; exact rfl) | (apply rc_not; k_extra "rc") | (apply rc_bool; k_extra "rv"; exact rfl)
  k_with "rb" => first | (apply rv_gt; k_extra "r"; k_extra "r"; exact rfl) | (apply rv_eq; k_extra "r"; k_extra "r"; exact rfl)
  k_with "rv" => first | k_extra "rb" | (apply rv_or; k_extra "rb"; k_extra "rb") | (apply r_callB; assumption; k_extra "rv"; k_is; k_extra "ra"; k_extra "pa"; exact rfl; k_extra "saysB"; decide; k_extra "given")
  k_with "rs" => first | (apply rs_setItem; k_extra "r"; k_extra "rv"; k_extra "r"; k_extra "mem"; assumption; (first | assumption | omega); (first | assumption | omega); (first | assumption | omega); exact rfl; (intro _; k_extra "upd"); intro _ _) | (apply rs_iorItem; k_extra "rv"; k_extra "r"; k_extra "mem"; k_extra "r"; assumption; (first | assumption | omega); (first | assumption | omega); (first | assumption | omega); (intro _; k_extra "upd"); intro _ _) | (apply rs_appendV; k_extra "rv"; k_extra "mem"; k_extra "rv"; k_extra "pa"; exact rfl; exact rfl; exact rfl; k_extra "size"; k_extra "upd")
  k_with "rs" => (apply rs_iand; assumption; exact rfl; k_extra "r"; exact rfl; intro _ _)
  exact True.intro
theorem words_of_R17 : True := by
  k_with "InvEndN" => (refine' search_end ?F ?N ?a ?b ?c; (case F => assumption); (case N => assumption); (case a => (intro zzp zzhp; first | (exact absurd zzhp List.not_mem_nil) | (simp only [List.mem_append, List.mem_cons] at *; simp_all))); (case b => (intro zzp zzhp; first | assumption | (simp only [List.nil_append, List.mem_append, List.mem_cons]; simp [zzhp]))); (case c => (intro zzz zzh1 zzh2; walk_at "frame end")))
  k_with "frame end" => repeat (first | exact rfl | refine skip_ne (by with_reducible assumption) ?_ | refine skip_in (by with_reducible assumption) (by repeat (first | exact List.Mem.head _ | refine List.Mem.tail _ ?_)) ?_ | refine skip_b (by with_reducible assumption) ?_)
  k_with "k_steps" => repeat' (first | (k_unfold; (try dsimp only)) | (k_end; wrow_close) | ((with_reducible show wpAny _ _ (exec _ _) _ _ _); (with_reducible refine tok_next ?_); intro _) | (walk1; (try dsimp only)) | (dsimp only; walk1) | (leave1; walk_say "STEP leave1"; try dsimp only) | fail "no step")
  k_with "storeName" => (k_here; k_dflt (refine' storeX_L ?F ?N ?_ ?a ?b; (case F => k_asm); (case N => k_asm); (case a => rfl); (case b => rfl); k_whole; intro zzhq zzFq zzNq; (try k_sweep); refine fr_let zzFq ?_; clear zzFq; intro zzmLq zzFq))
  k_with "conj" => first | with_reducible assumption | with_reducible exact cj0 (by assumption) | with_reducible exact cj1 (by assumption) | with_reducible exact cj2 (by assumption) | with_reducible exact cj3 (by assumption) | with_reducible exact cj4 (by assumption) | with_reducible exact cj5 (by assumption) | with_reducible exact cj6 (by assumption) | with_reducible exact cj7 (by assumption) | with_reducible exact cj8 (by assumption) | with_reducible exact cj9 (by assumption) | with_reducible exact cj10 (by assumption) | with_reducible exact cj11 (by assumption) | with_reducible exact cj12 (by assumption) | with_reducible exact cl1 (by assumption) | with_reducible exact cl2 (by assumption) | with_reducible exact cl3 (by assumption) | with_reducible exact cl4 (by assumption) | with_reducible exact cl5 (by assumption) | with_reducible exact cl6 (by assumption) | with_reducible exact cl7 (by assumption) | with_reducible exact cl8 (by assumption) | with_reducible exact cl9 (by assumption) | with_reducible exact cl10 (by assumption) | with_reducible exact cl11 (by assumption) | with_reducible exact cl12 (by assumption)
  k_with "k_ne" => (refine neN ?_; (try dsimp only); first | (refine Nat.ne_of_gt ?_; walk_at "conj") | (refine Nat.ne_of_lt ?_; walk_at "conj") | walk_at "conj" | (refine Ne.symm ?_; walk_at "conj"))
  k_with "ktr_units" => exact units_of (by assumption) rfl
  k_with "ktr_room" => first | exact room1 (by assumption) rfl | exact room2 (by assumption) rfl | exact room3 (by assumption) rfl
  k_with "getAttr ref" => (k_here; k_dflt (refine' geo_get ?F ?X ?h1 ?h2 ?k5 ?k6 ?k7 ?k8 ?l ?h ?_; (case F => k_asm); (case h1 => assumption); (case h2 => assumption); (case X => k_asm); (case k5 => k_is); (case k6 => k_is); (case k7 => k_is); (case k8 => k_is); (case l => assumption); (case h => k_handed); k_whole))
  k_with "tb_start" => (refine' enter_ro ?k1 ?k2 ?k3 ?k4 ?kK ?kR ?k6 ?k7 ?k8 ?k9 ?kB ?_ ?c2 ?c3 ?c4 ?c5; (case k1 => assumption); (case k2 => assumption); (case k3 => assumption); (case k4 => assumption); (case kK => assumption); (case kR => assumption); (case k6 => k_is); (case k7 => k_is); (case k8 => omega); (case k9 => exact BindsTo.of_eq rfl); (case c5 => decide); (case kB => exact locs rfl); (case c2 => exact rfl); (case c3 => exact rfl); (case c4 => exact rfl); k_whole; intro zzLq zzhq zztkq zzFq zzNq zzBq zzXq zzTq; (simp only [List.map_cons, List.map_nil, List.zip_cons_cons, List.zip_nil_left, List.reverse_cons, List.reverse_nil, List.nil_append, List.cons_append] at zzFq); (try dsimp only); (try k_fold))
  k_with "tb_rel" => ((try dsimp only); (try k_unfold); (show EndV _ _ _ _ _ _); refine ⟨_, _, _, rfl, (by assumption), ?_⟩; first | exact ⟨_, rfl⟩ | exact rfl)
  k_with "binaryOp FloorDiv int int" => ((with_reducible refine floordiv_int ?b ?_ (Or.inl (PyProof.noPylong_small ?p))); (case b => omega); (case p => omega))
  k_with "binaryOp Mod int int" => ((with_reducible refine mod_int' ?b ?_); (case b => omega))
  k_with "binaryOp RShift int int" => ((with_reducible refine rshift_int ?b ?_); (case b => omega))
  k_with "binaryOp LShift int int" => ((with_reducible refine lshift_int_small ?a ?b ?c ?_); (case a => omega); (case b => omega); (case c => omega))
  k_with "subscriptTail" => (k_here; (with_reducible show wpAny _ _ (subscriptTail _ _ (Value.ref _) (Value.int _ _)) _ _ _); k_dflt (refine' sub_ints ?F ?l ?i ?a ?b ?c ?_ ?s; (case F => k_asm); (case l => assumption); (case i => assumption); (case a => omega); (case b => omega); (case c => omega); (case s => with_unfolding_all rfl); k_whole); intro _)
  k_with "subscriptTail" => (k_here; (with_reducible show wpAny _ _ (subscriptTail _ _ (Value.ref _) (Value.int _ _)) _ _ _); k_dflt (refine' sub_refs ?F ?l ?a ?b ?c ?_ ?s ?g; (case F => k_asm); (case l => assumption); (case a => omega); (case b => omega); (case c => omega); (case s => with_unfolding_all rfl); (case g => intro _; with_unfolding_all rfl); k_whole))
  k_with "storeName" => (k_here; k_dflt (refine' storeX_L ?F ?N ?_ ?a ?b; (case F => k_asm); (case N => k_asm); (case a => rfl); (case b => rfl); k_whole; intro zzhq zzFq zzNq; (try k_sweep)))
  k_with "storeName" => (k_here; k_dflt (refine' storeX_L ?F ?N ?_ ?a ?b; (case F => k_asm); (case N => k_asm); (case a => rfl); (case b => rfl); k_whole; intro zzhq zzFq zzNq; (try k_sweep); refine fr_let zzFq ?_; clear zzFq; intro zzmLq zzFq))
  k_with "ktr_unf" => first | omega | exact and_pos (by omega) (by omega)
  k_with "call ref" => (k_here; k_dflt (refine' says_int (square_colour_says ?g _ _ _ ?c0 ?c1 rfl) ?k1 ?k2 ?k3 ?k4 ?k5 ?kK ?kG ?kd ?ku ?_; (case k1 => k_asm); (case k2 => k_asm); (case k3 => k_asm); (case k4 => k_asm); (case k5 => k_asm); (case kK => first | exact rfl | assumption); (case kG => exact GeoH.keeps (by assumption) (Fr.keep (by assumption))); (case c0 => omega); (case c1 => omega); (case kd => ktr_room); (case ku => ktr_units); k_whole); intro zzt9 zzh9 zztk9 zzF9 zzN9; (try k_sweep))
  k_with "pyIter ref" => (with_reducible refine hold ?_)
  k_with "compareOp NotEq ref ref" => (k_here; (with_reducible show wpAny _ _ (compareOp CmpOp.NotEq (Value.ref _) (Value.ref _)) _ _ _); (with_unfolding_all refine' ne_intsK ?k1 ?k2 ?k3 ?k4 ?k5 ?_; (case k1 => is_list); (case k2 => l_intsC); (case k3 => is_list); (case k4 => l_intsC); (case k5 => ktr_units); k_whole))
  k_with "storeName" => (k_here; k_dflt (refine' storeX_L ?F ?N ?_ ?a ?b; (case F => k_asm); (case N => k_asm); (case a => rfl); (case b => rfl); k_whole; intro zzhq zzFq zzNq; (try k_sweep)))
  k_with "storeName" => (k_here; k_dflt (refine' storeX_L ?F ?N ?_ ?a ?b; (case F => k_asm); (case N => k_asm); (case a => rfl); (case b => rfl); k_whole; intro zzhq zzFq zzNq; (try k_sweep); refine fr_let zzFq ?_; clear zzFq; intro zzmLq zzFq))
  exact True.intro
/-- what one cast hands on -/
def CastP (cup D : Addr) (ws : List Value) (k many : Int) (rest : Led) (z : Int) (news' : Led) : Prop := 0 ≤ z ∧ z < many ∧ ∃ t n, news' = (cup, listOf (List.toArray [.ref D, .int (k + 1) t]) n) :: (D, listOf (List.toArray ws) 0) :: rest
theorem cast_of {cup D : Addr} {ws : List Value} {k many : Int} {rest : Led} : ∀ v news', CastW cup D ws 0 k many rest v news' → ∃ z t, v = .int z t ∧ CastP cup D ws k many rest z news' := fun v news' h => by
  obtain ⟨z, t, t', n, rfl, h0, h1, h2⟩ := h
  exact ⟨z, t, rfl, h0, h1, t', n, h2⟩
def MadeP (f r : Nat) (v : Value) (led : Led) : Prop := ∃ x dx es n more t, v = .ref x ∧ led = (x, instObj 53 dx) :: (dx, dictOf es n) :: more ∧ getL "size" es = some (some (.int ((f * r : Nat) : Int) t)) ∧ ∀ h : Heap, (∀ p ∈ led, h.get? p.1 = some p.2) → GeoH (geoOf f r) x h
theorem made_of {f r : Nat} : ∀ g v h', MakeV f r g v h' → ∃ led, MadeP f r v led ∧ ∀ p ∈ led, h'.get? p.1 = some p.2 ∧ g.get? p.1 = none := fun g v h' h => by
  obtain ⟨x, dx, es, n, more, t, rfl, g3, hl, hG⟩ := h
  exact ⟨_, ⟨x, dx, es, n, more, t, rfl, rfl, g3, hG⟩, hl⟩
theorem nat_of {z : Int} (h0 : 0 ≤ z) (h1 : z < 3) : ∃ f : Nat, 3 + z = (f : Int) ∧ 3 ≤ f ∧ f ≤ 5 := ⟨(3 + z).toNat, by omega, by omega, by omega⟩
theorem make_geometry_at (f r : Nat) (x y : Int) (ex : x = f) (ey : y = r) (tf tr : Tok) (hf3 : 3 ≤ f) (hf5 : f ≤ 5) (hr3 : 3 ≤ r) (hr5 : r ≤ 5) (hgo : GoalOk f r (f * r)) (hkg : KnGoal f r (f * r)) :
    Says 113 8 (fun _ => True) [.int x tf, .int y tr, .bool false, .bool false] (MakeV f r) := by
  subst ex ey
  exact make_geometry_says f r tf tr hf3 hf5 hr3 hr5 hgo hkg rfl
theorem len_63 {zs : List Int} : (List.take 4 zs).length ≤ 4 := List.length_take_le 4 zs
set_option maxHeartbeats 8000000 in
theorem top : PySem.Challenge.rw_tg0013_01.Holds := hd (by
  k_go0
  rename_i hc1 hc2 K0 hD h1 F0 N0
  refine' top_go K0 ?X ?T rfl F0 N0 ?rs ?fin
  case X => assumption
  case T => assumption
  case fin =>
    intro h m' news' tk F N
    k_steps
  case rs =>
    intro c H
    refine' rs_cup H rfl ?hL ?hI ?hz rfl rfl rfl rfl (fun _ _ => rfl) (fun _ _ => rfl) ?hh
    case hL => assumption
    case hI => assumption
    case hz => omega
    case hh =>
      intro D cup ws t0 iW d1 m1
      refine' rs_dints2 (P := fun i n1 => ∃ z, i = 3 + z ∧ CastP cup D ws 0 3 [] z n1) (P2 := fun _ _ j n2 => ∃ z, j = 3 + z ∧ CastP cup D ws (0 + 1) 3 [] z n2) H (rd_add r_const (rd_call (dk := 1) (led := [(cup, listOf (List.toArray [.ref D, .int 0 t0]) 0), (D, listOf (List.toArray ws) 0)]) (rest0 := []) H ?b1 ?b2 ?b3 ?b4 rfl ?b5 (by decide) (fun _ hp => hp) own_nil cast_of)) ?second pa_bin pa_bin rfl rfl rfl rfl ?hB
      case b1 => k_extra "rv"
      case b2 => k_is
      case b3 => k_extra "ra"
      case b4 => k_extra "pa"
      case b5 => intro _; exact law_cast_does cup D ws _ iW len_63 _ _ 0 3 _ _ (by decide) (by decide) (by decide) (by decide) d1 rfl
      case second =>
        intro i n1 hP
        obtain ⟨z, rfl, _, _, t1, k1, rfl⟩ := hP
        refine' rd_add r_const (rd_call (dk := 1) (led := [(cup, listOf (List.toArray [.ref D, .int (0 + 1) t1]) k1), (D, listOf (List.toArray ws) 0)]) (rest0 := []) H ?b1 ?b2 ?b3 ?b4 rfl ?b5 (by decide) (fun _ hp => hp) own_nil cast_of)
        case b1 => k_extra "rv"
        case b2 => k_is
        case b3 => k_extra "ra"
        case b4 => k_extra "pa"
        case b5 => intro _; exact law_cast_does cup D ws _ iW len_63 _ _ (0 + 1) 3 _ _ (by decide) (by decide) (by decide) (by decide) d1 rfl
      case hB =>
        intro i j t u n1 n2 hP hP2 m2
        obtain ⟨z1, rfl, y1, y2, _⟩ := hP
        obtain ⟨z2, rfl, y3, y4, t2, k2, rfl⟩ := hP2
        obtain ⟨f, ef, hf3, hf5⟩ := nat_of y1 y2
        obtain ⟨r, er, hr3, hr5⟩ := nat_of y3 y4
        have bd := board_ok f r hf3 hf5 hr3 hr5
        have hm0 : 0 < ((f * r : Nat) : Int) := Int.ofNat_lt.mpr (Nat.lt_of_lt_of_le (by decide) (Nat.mul_le_mul hf3 hr3))
        have hm9 : ((f * r : Nat) : Int) ≤ 1000 := Int.ofNat_le.mpr (Nat.le_trans (Nat.mul_le_mul hf5 hr5) (by decide))
        refine' rs_saysNew (dk := 8) (Pr := MadeP f r) H ?c1 ?c2 ?c3 ?c4 rfl ?c5 (by decide) (fun _ => True.intro) rfl rfl made_of ?hC
        case c1 => k_extra "rv"
        case c2 => k_is
        case c3 => k_extra "ra"
        case c4 => k_extra "pa"
        case c5 => intro _; exact make_geometry_at f r _ _ ef er _ _ hf3 hf5 hr3 hr5 bd.goal bd.kn
        case hC =>
          intro v led hM hoff m3
          obtain ⟨x, dx, es, n, more, t5, rfl, rfl, g3, hG⟩ := hM
          (show RS _ _ _ ((cup, _) :: (D, _) :: (x, _) :: (dx, _) :: more) _ _)
          refine' rs_dints2 (P := CastP cup D ws (0 + 1 + 1) ((f * r : Nat) : Int) ((x, instObj 53 dx) :: (dx, dictOf es n) :: more)) (P2 := fun _ _ => CastP cup D ws (0 + 1 + 1 + 1) ((f * r : Nat) : Int) ((x, instObj 53 dx) :: (dx, dictOf es n) :: more)) H (rd_call (dk := 1) (led := [(cup, listOf (List.toArray [.ref D, .int (0 + 1 + 1) t2]) k2), (D, listOf (List.toArray ws) 0)]) (rest0 := (x, instObj 53 dx) :: (dx, dictOf es n) :: more) H ?b1 ?b2 ?b3 ?b4 rfl ?b5 (by decide) (fun _ hp => hp) hoff cast_of) ?second pa_call pa_call rfl rfl rfl rfl ?hD
          case b1 => k_extra "rv"
          case b2 => k_is
          case b3 => k_extra "ra"
          case b4 => k_extra "pa"
          case b5 => intro _; exact law_cast_does cup D ws _ iW len_63 _ _ (0 + 1 + 1) _ _ _ (by decide) (by decide) hm0 hm9 d1 rfl
          case second =>
            intro i n1 hP
            obtain ⟨_, _, t3, k3, rfl⟩ := hP
            refine' rd_call (dk := 1) (led := [(cup, listOf (List.toArray [.ref D, .int (0 + 1 + 1 + 1) t3]) k3), (D, listOf (List.toArray ws) 0)]) (rest0 := (x, instObj 53 dx) :: (dx, dictOf es n) :: more) H ?b1 ?b2 ?b3 ?b4 rfl ?b5 (by decide) (fun _ hp => hp) hoff cast_of
            case b1 => k_extra "rv"
            case b2 => k_is
            case b3 => k_extra "ra"
            case b4 => k_extra "pa"
            case b5 => intro _; exact law_cast_does cup D ws _ iW len_63 _ _ (0 + 1 + 1 + 1) _ _ _ (by decide) (by decide) hm0 hm9 d1 rfl
          case hD =>
            intro z3 z4 t6 t7 n3 n4 hP hP2 m4
            obtain ⟨y5, y6, _⟩ := hP
            obtain ⟨y7, y8, t4, k4, rfl⟩ := hP2
            obtain ⟨tA, tB, hK⟩ := bd.knight z3 z4 y5 y6 y7 y8
            refine' rs_retV (rv_and3 ?e1 ?e2 ?e3) rfl
            case e1 => (apply r_callB; assumption; k_extra "rv"; k_is; k_extra "ra"; k_extra "pa"; exact rfl; (intro _; exact rook_right_says (geoOf f r) bd.geo x z3 _ y5 y6 (bd.rook z3 y5 y6) rfl); decide; (intro h _ N; exact hG h fun p hp => (N p (.tail _ (.tail _ hp))).1))
            case e2 => (apply r_callB; assumption; k_extra "rv"; k_is; k_extra "ra"; k_extra "pa"; exact rfl; (intro _; exact bishop_right_says (geoOf f r) bd.geo x z4 _ y7 y8 (bd.bishop z4 y7 y8) rfl); decide; (intro h _ N; exact hG h fun p hp => (N p (.tail _ (.tail _ hp))).1))
            case e3 => (apply r_callB; assumption; k_extra "rv"; k_is; k_extra "ra"; k_extra "pa"; exact rfl; (intro _; exact knight_right_says (geoOf f r) bd.geo x z3 z4 _ _ tA tB y5 y6 y7 y8 hK rfl); decide; (intro h _ N; exact hG h fun p hp => (N p (.tail _ (.tail _ hp))).1)))
end Mine
theorem PySem.Challenge.cw_tg0013_01_holds : PySem.Challenge.rw_tg0013_01.Holds := by
  exact Mine.top
