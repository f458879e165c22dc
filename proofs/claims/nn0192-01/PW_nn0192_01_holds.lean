import PyProof.Rows.All
import Wide.All
import OpenK.AllK
import Wide.FinOn
import Lean
import PySem.Challenge.RW_nn0192_01
open PySem PySem.W PyProof.Rows
set_option Elab.async false
namespace Mine
set_option maxRecDepth 100000
set_option maxHeartbeats 8000000
set_option rowWalk.seconds 0
open_top hd for PySem.Challenge.rw_nn0192_01

set_option compiler.extract_closed false
set_option maxRecDepth 100000
set_option maxHeartbeats 8000000
set_option rowWalk.seconds 0
set_option linter.unusedVariables false
example (w : World) : PySem.Challenge.rw_nn0192_01.row.prog = PySem.Challenge.rw_nn0192_01.row.prog ∧ hd.heap_39 w.params = hd.heap_39 w.params := by
  k_fill
  exact ⟨rfl, rfl⟩
local macro_rules | `(tactic| walk_at $s:str) => `(tactic| k_extra $s)
--deps: P00_head
theorem ints_len {vs : List Value} {ns : List Int} (h : IntsAre vs ns) : vs.length = ns.length := h.length

/-- `p` picked out of a ledger: the rest -/
inductive Pick : Addr × Obj → List (Addr × Obj) → List (Addr × Obj) → Prop
  | head {p r} : Pick p (p :: r) r
  | tail {p q r r'} : Pick p r r' → Pick p (q :: r) (q :: r')
inductive Picks : List (Addr × Obj) → List (Addr × Obj) → List (Addr × Obj) → Prop
  | nil {r} : Picks [] r r
  | cons {p own r r' r''} : Pick p r r' → Picks own r' r'' → Picks (p :: own) r r''
theorem Pick.mem {p : Addr × Obj} {l r : List (Addr × Obj)} (h : Pick p l r) : p ∈ l ∧ ∀ q ∈ r, q ∈ l := by
  induction h with
  | head => exact ⟨.head _, fun q hq => .tail _ hq⟩
  | tail _ ih => exact ⟨.tail _ ih.1, fun q hq => by
      rcases List.mem_cons.mp hq with h | h
      · rw [h]; exact .head _
      · exact .tail _ (ih.2 q h)⟩
theorem Picks.mem {own l r : List (Addr × Obj)} (h : Picks own l r) : ∀ q ∈ own ++ r, q ∈ l := by
  induction h with
  | nil => exact fun q hq => hq
  | cons hp _ ih =>
    intro q hq
    rcases List.mem_cons.mp hq with h | h
    · rw [h]; exact hp.mem.1
    · exact hp.mem.2 q (ih q h)

/-- what a call of a def does, over any caller: of the ledger it has `own`; `post` speaks of the value and of what stands in `own`'s stead -/
noncomputable def Spec (lv : Nat) (w : World) (loose : List Str) (mean : ExcName → Option Value) (mg mb : Str → Option Value) (f : Addr) (own : List (Addr × Obj)) (args : List Value) (post : Value → List (Addr × Obj) → Prop) : Prop :=
  ∀ (dp un : Nat) (gd : Option (List Code)) (cn : Str) (cs : Scope) (a : Addr) (ccd : Value) (cl : List (Str × Addr)) (outer : List Env) (A₀ : Around) (base h₀ : Heap) (L : Addr) (m : Str → Option Value) (rest : List (Addr × Obj)) (s : Shared) (Q E : Value → Shared → Prop),
    Below A₀ base outer h₀ → Fr h₀ L s.heap m → (hd.heap_39 w.params).In h₀ → News h₀ L s.heap (own ++ rest) → (∀ p ∈ own, ∀ q ∈ rest, p.1 ≠ q.1) → Top hd.view_39 loose mean mg mb h₀ → cs.kind = .function →
    dp + lv < recursionLimit → un + 8 * lv < cLine →
    (∀ r own' h' tk', Fr h₀ L h' m → News h₀ L h' (own' ++ rest) → (∀ p ∈ own', ∀ q ∈ rest, p.1 ≠ q.1) → post r own' → Q r { s with heap := h', toks := tk' }) →
    wpAny (model PySem.Challenge.rw_nn0192_01.row.prog w) (ktrTop dp un gd cn cs L a ccd cl outer) (call (.ref f) args) Q E s

section
variable {lv : Nat} {w : World} {loose : List Str} {mean : ExcName → Option Value} {mg mb : Str → Option Value} {f : Addr} {own led rest : List (Addr × Obj)} {args : List Value} {post : Value → List (Addr × Obj) → Prop}
theorem Spec.use {dp un : Nat} {gd : Option (List Code)} {cn : Str} {cs : Scope} {a : Addr} {ccd : Value} {cl : List (Str × Addr)} {outer : List Env} {A₀ : Around} {base h₀ : Heap} {L : Addr} {m : Str → Option Value} {s : Shared} {Q E : Value → Shared → Prop}
    (B : Below A₀ base outer h₀) (F : Fr h₀ L s.heap m) (X : (hd.heap_39 w.params).In h₀) (N : News h₀ L s.heap led) (T : Top hd.view_39 loose mean mg mb h₀) (S : Spec lv w loose mean mg mb f own args post)
    (P : Picks own led rest) (D : ∀ p ∈ own, ∀ q ∈ rest, p.1 ≠ q.1) (hk : cs.kind = .function) (hd : dp + lv < recursionLimit) (hu : un + 8 * lv < cLine)
    (h : ∀ r own' h' tk', Fr h₀ L h' m → News h₀ L h' (own' ++ rest) → (∀ p ∈ own', ∀ q ∈ rest, p.1 ≠ q.1) → post r own' → Q r { s with heap := h', toks := tk' }) :
    wpAny (model PySem.Challenge.rw_nn0192_01.row.prog w) (ktrTop dp un gd cn cs L a ccd cl outer) (call (.ref f) args) Q E s :=
  S dp un gd cn cs a ccd cl outer A₀ base h₀ L m rest s Q E B F X (fun p hp => N p (P.mem p hp)) D T hk hd hu h

theorem Spec.mono {post' : Value → List (Addr × Obj) → Prop} (S : Spec lv w loose mean mg mb f own args post) (hp : ∀ r own', post r own' → post' r own') : Spec lv w loose mean mg mb f own args post' :=
  fun dp un gd cn cs a ccd cl outer A₀ base h₀ L m rest s Q E B F X N D T hk hd hu h => S dp un gd cn cs a ccd cl outer A₀ base h₀ L m rest s Q E B F X N D T hk hd hu fun r own' h' tk' F' N' D' p => h r own' h' tk' F' N' D' (hp r own' p)

variable {name qual : Str} {params : Arguments} {body : List Stmt} {scope : Scope} {dV kV doc pm cdv ct oc : Value} {an od : Option Addr} {osl : Array (Option Value)} {binds : List (Str × Value)}
theorem spec_of (ho : (hd.heap_39 w.params).lookup f = some ⟨oc, od, .func (fnOf name qual params body scope dV kV doc pm an cdv ct), osl⟩) (hcd : codeIn (hd.heap_39 w.params) cdv qual = true)
    (hbind : ∀ s : Shared, BindsTo s (fnOf name qual params body scope dV kV doc pm an cdv ct) ⟨args, []⟩ binds) (hloc : ∀ y ∈ binds, scope.names.lookup y.1 = some .local)
    (hco : scope.isCoroutine = false) (hgen : scope.isGenerator = false) (hk : scope.kind = .function) (hcell : ∀ x ∈ scope.names, x.2 ≠ .cell) (hlv : 1 ≤ lv)
    (hb : ∀ (dp un : Nat) (gd : Option (List Code)) (cn : Str) (cs : Scope) (L a : Addr) (ccd : Value) (cl : List (Str × Addr)) (outer : List Env) (base g : Heap) (L' : Addr) (h₁ : Heap) (gens : Array GenState) (drawn : Drawn) (os : OsState) (tk : Nat) (Q : Flow → Shared → Prop) (E : Value → Shared → Prop),
      Below (ktrTop dp un gd cn cs L a ccd cl outer) base (envX cn cs L a ccd cl :: outer) g → cs.kind = .function → Fr g L' h₁ (fun y => binds.reverse.lookup y) → News g L' h₁ own → (hd.heap_39 w.params).In g → Top hd.view_39 loose mean mg mb g →
      dp + lv < recursionLimit → un + 8 * lv < cLine →
      (∀ r own' h' tk' m', Fr g L' h' m' → News g L' h' own' → post r own' → Q (.ret r) ⟨h', gens, drawn, tk', os⟩) →
      let A9 := (ktrTop dp un gd cn cs L a ccd cl outer).deeper (envOf qual scope L' f cdv)
      wpAny (model PySem.Challenge.rw_nn0192_01.row.prog w) A9 (execs body (envOf qual scope L' f cdv)) Q
        (fun e s' => wpAny (model PySem.Challenge.rw_nn0192_01.row.prog w) A9 (leaving (envOf qual scope L' f cdv) e) (fun _ s'' => E e s'') (fun e' s'' => E e' s'') s') ⟨h₁, gens, drawn, tk, os⟩) :
    Spec lv w loose mean mg mb f own args post := by
  intro dp un gd cn cs a ccd cl outer A₀ base h₀ L m rest s Q E B F X N D T hkc hd hu h
  have N₁ : News h₀ L s.heap own := fun p hp => N p (List.mem_append_left _ hp)
  have hrest : ∀ p ∈ rest, (hideAll s.heap (own.map (·.1))).get? p.1 = some p.2 := fun p hp =>
    hideAll_get _ (N p (List.mem_append_right _ hp)).1 fun hq => by
      obtain ⟨q, hq1, hq2⟩ := List.mem_map.mp hq
      exact D q hq1 p hp hq2
  obtain ⟨FG, BG, st, lv'⟩ := groundX (R := fun r s' => match r with | .ok (.ret v) => Q v s' | .ok _ => False | .error e => E e s') B F N₁ (A := ktrTop dp un gd cn cs L a ccd cl outer) (env := envX cn cs L a ccd cl) rfl rfl hkc
  have hdep : (ktrTop dp un gd cn cs L a ccd cl outer).depth < recursionLimit := by
    show dp < recursionLimit
    omega
  refine wpAny_call (codeAny_call_def (fd := fnOf name qual params body scope dV kV doc pm an cdv ct) (body := body) (binds := binds) hdep ((X.keeps F.keep) _ _ ho) rfl (T.nolimit.keeps F.keep) (codeRec_of (X.keeps F.keep) hcd) rfl (hbind s) hcell hloc (fun h₁ hns hk₁ => ?_) hco hgen hk)
  refine wpAny_mono (hb dp un gd cn cs L a ccd cl outer base _ s.heap.objs.size h₁ s.gens s.drawn s.os (s.toks + binds.length) (fun fl s' => LeaveK h₀ L m (hideAll s.heap (own.map (·.1))) (fun r s' => match r with | .ok (.ret v) => Q v s' | .ok _ => False | .error e => E e s') (match fl with | .ret v => v | _ => .none) s') E BG hkc ⟨hns, fun b o e => hk₁ b o (of_hideAll _ e), Nat.le_of_eq (hideAll_size _ _)⟩
    (fun p hp => ⟨hk₁ _ _ (N₁ p hp).1, Nat.ne_of_lt (Heap.lt_size (N₁ p hp).1), hideAll_none _ (List.mem_map_of_mem hp)⟩) (X.keeps st) (T.keeps st) hd hu ?_) (fun fl s' hl => lv' _ _ hl) fun _ _ y => y
  intro r own' h' tk' m' F' N' hp
  refine ⟨_, _, _, F', N', fun F'' N'' => ?_⟩
  refine h r own' h' tk' F'' ?_ ?_ hp
  · intro p hp
    rcases List.mem_append.mp hp with q | q
    · exact N'' p q
    · exact ⟨F'.keep _ _ (hrest p q), (N p (List.mem_append_right _ q)).2⟩
  · intro p hp q hq e
    have h1 := (N' p hp).2.2
    rw [e, hrest q hq] at h1
    cases h1

theorem spec_ofC (ho : (hd.heap_39 w.params).lookup f = some ⟨oc, od, .func (fnOf name qual params body scope dV kV doc pm an cdv ct), osl⟩) (hcd : codeIn (hd.heap_39 w.params) cdv qual = true)
    (hbind : ∀ s : Shared, BindsTo s (fnOf name qual params body scope dV kV doc pm an cdv ct) ⟨args, []⟩ binds) (hkind : (binds.all fun y => scope.names.lookup y.1 == some .local || scope.names.lookup y.1 == some .cell) = true)
    (hnd : ((cellsFrom 0 scope.names []).map (·.1)).Nodup)
    (hco : scope.isCoroutine = false) (hgen : scope.isGenerator = false) (hk : scope.kind = .function) (hlv : 1 ≤ lv)
    (hb : ∀ (dp un : Nat) (gd : Option (List Code)) (cn : Str) (cs : Scope) (L a : Addr) (ccd : Value) (cl : List (Str × Addr)) (outer : List Env) (base g : Heap) (L' : Addr) (h₁ : Heap) (cells : List (Addr × Obj)) (gens : Array GenState) (drawn : Drawn) (os : OsState) (tk : Nat) (Q : Flow → Shared → Prop) (E : Value → Shared → Prop),
      Below (ktrTop dp un gd cn cs L a ccd cl outer) base (envX cn cs L a ccd cl :: outer) g → cs.kind = .function → Fr g L' h₁ (bindL (envOfC qual scope L' f cdv).kindOf binds fun _ => none) → News g L' h₁ (cells ++ own) →
      CellsAre (bindC (envOfC qual scope L' f cdv).kindOf binds fun _ => none) (cellsFrom (L' + 1) scope.names []) cells → (∀ p ∈ own, p.1 < L') → (hd.heap_39 w.params).In g → Top hd.view_39 loose mean mg mb g →
      dp + lv < recursionLimit → un + 8 * lv < cLine →
      (∀ r own' h' tk' m', Fr g L' h' m' → News g L' h' own' → post r own' → Q (.ret r) ⟨h', gens, drawn, tk', os⟩) →
      let A9 := (ktrTop dp un gd cn cs L a ccd cl outer).deeper (envOfC qual scope L' f cdv)
      wpAny (model PySem.Challenge.rw_nn0192_01.row.prog w) A9 (execs body (envOfC qual scope L' f cdv)) Q
        (fun e s' => wpAny (model PySem.Challenge.rw_nn0192_01.row.prog w) A9 (leaving (envOfC qual scope L' f cdv) e) (fun _ s'' => E e s'') (fun e' s'' => E e' s'') s') ⟨h₁, gens, drawn, tk, os⟩) :
    Spec lv w loose mean mg mb f own args post := by
  intro dp un gd cn cs a ccd cl outer A₀ base h₀ L m rest s Q E B F X N D T hkc hd hu h
  have N₁ : News h₀ L s.heap own := fun p hp => N p (List.mem_append_left _ hp)
  have hrest : ∀ p ∈ rest, (hideAll s.heap (own.map (·.1))).get? p.1 = some p.2 := fun p hp =>
    hideAll_get _ (N p (List.mem_append_right _ hp)).1 fun hq => by
      obtain ⟨q, hq1, hq2⟩ := List.mem_map.mp hq
      exact D q hq1 p hp hq2
  obtain ⟨FG, BG, st, lv'⟩ := groundX (R := fun r s' => match r with | .ok (.ret v) => Q v s' | .ok _ => False | .error e => E e s') B F N₁ (A := ktrTop dp un gd cn cs L a ccd cl outer) (env := envX cn cs L a ccd cl) rfl rfl hkc
  have hdep : (ktrTop dp un gd cn cs L a ccd cl outer).depth < recursionLimit := by
    show dp < recursionLimit
    omega
  refine wpAny_call (codeAny_call_function hdep ((X.keeps F.keep) _ _ ho) rfl hco hgen rfl (codeRec_of (X.keeps F.keep) hcd) (hbind s _ _ _ _ ?_))
  refine wpAny_newFunctionEnv_cells hk (kindsX hkind _) fun env' he s' x => ?_
  subst he
  refine ⟨(T.nolimit.keeps F.keep).keeps x.toInCall.keep, codeAny_func ?_⟩
  obtain ⟨h₁, tk, rfl, _⟩ := x.done
  have hk₁ := x.toInCall.keep
  obtain ⟨cells, NC, Y⟩ := Cl.news (h₀ := s.heap) (Nat.le_refl _) fun n c hm => ⟨x.cell n c (lookup_of_mem_nodup (cellsFrom_names scope.names 0 (s.heap.objs.size + 1) [] [] rfl ▸ hnd) hm), x.above n c hm⟩
  refine wpAny_mono (hb dp un gd cn cs L a ccd cl outer base _ s.heap.objs.size h₁ cells s.gens s.drawn s.os tk (fun fl s' => LeaveK h₀ L m (hideAll s.heap (own.map (·.1))) (fun r s' => match r with | .ok (.ret v) => Q v s' | .ok _ => False | .error e => E e s') (match fl with | .ret v => v | _ => .none) s') E BG hkc ⟨x.toInCall.ns, fun b o e => hk₁ b o (of_hideAll _ e), Nat.le_of_eq (hideAll_size _ _)⟩
    (fun p hp => ?_) Y (fun p hp => Heap.lt_size (N₁ p hp).1) (X.keeps st) (T.keeps st) hd hu ?_) (fun fl s' hl => lv' _ _ hl) fun _ _ y => y
  · rcases List.mem_append.mp hp with hp | hp
    · refine ⟨(NC p hp).1, (NC p hp).2.1, ?_⟩
      cases q : (hideAll s.heap (own.map (·.1))).get? p.1 with
      | none => rfl
      | some o => have := of_hideAll _ q; rw [(NC p hp).2.2] at this; cases this
    · exact ⟨hk₁ _ _ (N₁ p hp).1, Nat.ne_of_lt (Heap.lt_size (N₁ p hp).1), hideAll_none _ (List.mem_map_of_mem hp)⟩
  intro r own' h' tk' m' F' N' hp
  refine ⟨_, _, _, F', N', fun F'' N'' => ?_⟩
  refine h r own' h' tk' F'' ?_ ?_ hp
  · intro p hp
    rcases List.mem_append.mp hp with q | q
    · exact N'' p q
    · exact ⟨F'.keep _ _ (hrest p q), (N p (List.mem_append_right _ q)).2⟩
  · intro p hp q hq e
    have h1 := (N' p hp).2.2
    rw [e, hrest q hq] at h1
    cases h1
end

theorem News.one {h₀ : Heap} {L : Addr} {h : Heap} {led : List (Addr × Obj)} {p : Addr × Obj} (N : News h₀ L h led) (hp : p ∈ led) : News h₀ L h [p] := fun q hq => (List.mem_singleton.mp hq) ▸ N p hp
/-! ### the pool -/
noncomputable def takeVal : List Int → Int → Int
  | [], _ => 0
  | d :: _, k => d % k
noncomputable def takeRest : List Int → Int → List Int
  | [], _ => []
  | d :: r, k => if d / k = 0 then r else (d / k) :: r
noncomputable def PoolOk (ns : List Int) : Prop := (∀ x ∈ ns, 0 ≤ x) ∧ ns.length ≤ 24
theorem takeVal_lo {ns : List Int} {k : Int} (hk : 1 ≤ k) : 0 ≤ takeVal ns k := by
  cases ns with
  | nil => exact Int.le_refl 0
  | cons d r => exact Int.emod_nonneg _ (by omega)
theorem takeVal_hi {ns : List Int} {k : Int} (hk : 1 ≤ k) : takeVal ns k < k := by
  cases ns with
  | nil => show (0 : Int) < k; omega
  | cons d r => exact Int.emod_lt_of_pos _ (by omega)
theorem takeRest_ok {ns : List Int} {k : Int} (hk : 1 ≤ k) (h : PoolOk ns) : PoolOk (takeRest ns k) := by
  cases ns with
  | nil => exact h
  | cons d r =>
    obtain ⟨h1, h2⟩ := h
    have hd := h1 d (.head _)
    simp only [List.length_cons] at h2
    simp only [takeRest]
    split
    · exact ⟨fun x hx => h1 x (.tail _ hx), by omega⟩
    · refine ⟨fun x hx => ?_, by simp only [List.length_cons]; omega⟩
      rcases List.mem_cons.mp hx with rfl | hx
      · exact Int.ediv_nonneg hd (by omega)
      · exact h1 x (.tail _ hx)

theorem pop0 {prog : Program} {w : World} {A : Around} {E : Value → Shared → Prop} {s : Shared} {h₀ : Heap} {L D : Addr} {m : Str → Option Value} {news news' : List (Addr × Obj)} {n : Nat} {y : Value} {q : List Value} {u : Tok} {Q : Value → Shared → Prop}
    (F : Fr h₀ L s.heap m) (N : News h₀ L s.heap news) (U : Upd D (listOf (y :: q).toArray n) (listOf q.toArray (n + 1)) news news') (hz : q.length < 1000)
    (h : ∀ h', Fr h₀ L h' m → News h₀ L h' news' → Q y { s with heap := h' }) : wpAny (model prog w) A (call (.builtin "list.pop") [.ref D, .int 0 u]) Q E s :=
  kl_popAt F N (k := 0) (p := []) (q := q) rfl (by simp [seqIndex?]) rfl U (by rw [sizeLine_eq]; simp; omega) h
section
theorem take_nil {w : World} {loose : List Str} {mean : ExcName → Option Value} {mg mb : Str → Option Value} {l : Addr} {n : Nat} {k : Int} {t : Tok} :
    Spec 8 w loose mean mg mb 52 [(l, listOf #[] n)] [.ref l, .int k t] (fun r own' => (∃ t, r = .int 0 t) ∧ own' = [(l, listOf #[] n)]) := by
  k_with_none
  k_with "own pick" => (first | exact Pick.head | (refine' Pick.tail ?ptq0; (case ptq0 => k_extra "own pick")))
  k_with "own picks" => (first | exact Picks.nil | (refine' Picks.cons ?ppq1 ?pqq1; (case ppq1 => k_extra "own pick"); (case pqq1 => k_extra "own picks")))
  k_with "own allin" => (with_unfolding_all ((try simp only [List.nil_append, List.cons_append]); k_allIn))
  k_with "own allin0" => (first | exact List.forall_mem_nil _ | k_extra "own allin")
  k_with "own same" => (intro z h1 h2; first | rfl | (simp [h1, h2]; done) | (simp_all; done))
  k_with "own same1" => (intro z h1; first | rfl | (simp [h1]; done) | (simp_all; done))
  k_with "own same3" => (intro z h1 h2 h3; first | rfl | (simp [h1, h2, h3]; done) | (simp_all; done))
  k_with "call builtin:list.pop" => (k_here; (try simp only [List.cons_append, List.nil_append]); (with_reducible show wpAny _ _ (call (Value.builtin _) [Value.ref _, Value.int _ _]) _ _ _); k_dflt (refine' pop0 ?Fq7 ?Nq7 ?Uq7 ?zq7 ?_; (case Fq7 => k_asm); (case Nq7 => k_asm); (case Uq7 => k_upd); (case zq7 => omega); k_whole); intro h' F' N'; (try dsimp only at N'); (try k_sweep))
  k_with "call builtin:len" => (k_here; (with_reducible show wpAny _ _ (call (Value.builtin "len") [Value.ref _]) _ _ _); k_dflt (refine' len_list ?k1q8 ?k2q8 ?_; (case k1q8 => exact News.isList (by k_asm) (by k_mem)); (case k2q8 => simp only [List.size_toArray, List.length_cons, List.length_append, List.length_nil]; omega); k_whole); (try simp only [List.size_toArray, List.length_cons]))
  w_on
  w_strict (refine' spec_of (binds := [(Str.ofString "pool", .ref l), (Str.ofString "many", .int k t)]) (by k_is) (by k_is) (fun s => BindsTo.of_eq rfl) (locs rfl) rfl rfl rfl (by decide) (by decide) ?_; intro dp un gd cn cs L a ccd cl outer base g L' h₁ gens drawn os tk Q E B hk F N X T hd hu hret A9; (try k_fold); k_steps; exact hret _ _ _ _ _ (by assumption) (by assumption) ⟨⟨_, rfl⟩, rfl⟩)
theorem take_cons {w : World} {loose : List Str} {mean : ExcName → Option Value} {mg mb : Str → Option Value} {l : Addr} {n : Nat} {k : Int} {t : Tok}
   {d : Int} {td : Tok} {vs : List Value} {ns : List Int} (hr : IntsAre vs ns) (hv : IntsAre (.int d td :: vs) (d :: ns)) (hd0 : 0 ≤ d) (hk1 : 1 ≤ k) (hlen : vs.length < 100) (hkb : k ≤ 1048576) :
    Spec 8 w loose mean mg mb 52 [(l, listOf (Value.int d td :: vs).toArray n)] [.ref l, .int k t] (fun r own' => (∃ t, r = .int (d % k) t) ∧ ∃ vs' n', IntsAre vs' (takeRest (d :: ns) k) ∧ own' = [(l, listOf vs'.toArray n')]) := by
  k_with_none
  k_with "own pick" => (first | exact Pick.head | (refine' Pick.tail ?ptq0; (case ptq0 => k_extra "own pick")))
  k_with "own picks" => (first | exact Picks.nil | (refine' Picks.cons ?ppq1 ?pqq1; (case ppq1 => k_extra "own pick"); (case pqq1 => k_extra "own picks")))
  k_with "own allin" => (with_unfolding_all ((try simp only [List.nil_append, List.cons_append]); k_allIn))
  k_with "own allin0" => (first | exact List.forall_mem_nil _ | k_extra "own allin")
  k_with "own same" => (intro z h1 h2; first | rfl | (simp [h1, h2]; done) | (simp_all; done))
  k_with "own same1" => (intro z h1; first | rfl | (simp [h1]; done) | (simp_all; done))
  k_with "own same3" => (intro z h1 h2 h3; first | rfl | (simp [h1, h2, h3]; done) | (simp_all; done))
  k_with "call builtin:list.pop" => (k_here; (try simp only [List.cons_append, List.nil_append]); (with_reducible show wpAny _ _ (call (Value.builtin _) [Value.ref _, Value.int _ _]) _ _ _); k_dflt (refine' pop0 ?Fq7 ?Nq7 ?Uq7 ?zq7 ?_; (case Fq7 => k_asm); (case Nq7 => k_asm); (case Uq7 => k_upd); (case zq7 => omega); k_whole); intro h' F' N'; (try dsimp only at N'); (try k_sweep))
  k_with "call builtin:len" => (k_here; (with_reducible show wpAny _ _ (call (Value.builtin "len") [Value.ref _]) _ _ _); k_dflt (refine' len_list ?k1q8 ?k2q8 ?_; (case k1q8 => exact News.isList (by k_asm) (by k_mem)); (case k2q8 => simp only [List.size_toArray, List.length_cons, List.length_append, List.length_nil]; omega); k_whole); (try simp only [List.size_toArray, List.length_cons]))
  have e1 : d.fdiv k = d / k := Int.fdiv_eq_ediv_of_nonneg _ (by omega)
  have e2 : d.fmod k = d % k := Int.fmod_eq_emod_of_nonneg _ (by omega)
  w_on
  w_strict (refine' spec_of (binds := [(Str.ofString "pool", .ref l), (Str.ofString "many", .int k t)]) (by k_is) (by k_is) (fun s => BindsTo.of_eq rfl) (locs rfl) rfl rfl rfl (by decide) (by decide) ?_; intro dp un gd cn cs L a ccd cl outer base g L' h₁ gens drawn os tk Q E B hk F N X T hd hu hret A9; (try k_fold); k_steps)
  · exfalso; omega
  · have hz' : d / k = 0 := by rw [← e1]; assumption
    refine hret _ _ _ _ _ (by assumption) (by assumption) ⟨⟨_, congrArg (fun x => Value.int x _) e2⟩, vs, _, ?_, rfl⟩
    simp only [takeRest, if_pos hz']; exact hr
  · have hz' : ¬ d / k = 0 := by rw [← e1]; assumption
    refine hret _ _ _ _ _ (by assumption) (by assumption) ⟨⟨_, congrArg (fun x => Value.int x _) e2⟩, Value.int (d.fdiv k) _ :: vs, _, ?_, rfl⟩
    rw [show takeRest (d :: ns) k = d.fdiv k :: ns from by simp only [takeRest, if_neg hz', e1]]; exact .cons _ _ hr
end
theorem take_ok {w : World} {loose : List Str} {mean : ExcName → Option Value} {mg mb : Str → Option Value} {l : Addr} {n : Nat} {k : Int} {t : Tok} {vs : List Value} {ns : List Int} (hv : IntsAre vs ns) (hp : PoolOk ns) (hk1 : 1 ≤ k) (hkb : k ≤ 1048576) :
    Spec 8 w loose mean mg mb 52 [(l, listOf vs.toArray n)] [.ref l, .int k t] (fun r own' => (∃ t, r = .int (takeVal ns k) t) ∧ ∃ vs' n', IntsAre vs' (takeRest ns k) ∧ own' = [(l, listOf vs'.toArray n')]) := by
  cases hv with
  | nil => exact Spec.mono take_nil fun r own' h => ⟨h.1, [], n, .nil, h.2⟩
  | cons d td hr =>
    rename_i vs ns
    have hlen : vs.length < 100 := by have := hr.length; have := hp.2; simp only [List.length_cons] at this; omega
    exact take_cons hr (.cons d td hr) (hp.1 d (.head _)) hk1 hlen hkb

--deps: P01_base
theorem typeCall_int_2 (a b : Value) : checkTypeCall "int" ⟨[a, b], []⟩ = pure () := by kernel_rfl
theorem newCall_int_2 (a b : Value) : checkBuiltinCall "int.__new__" ⟨[.type "int", a, b], []⟩ = pure () := by kernel_rfl
/-- the number that a text of hexadecimal figures (capitals) says -/
noncomputable def hexL (l : List Nat) : Int := l.foldl (fun (a : Int) (c : Nat) => a * 16 + (if c ≤ 57 then (c : Int) - 48 else (c : Int) - 55)) 0
noncomputable def hexOf (x : PySem.Str) : Int := hexL x.cps.toList
noncomputable def hexReads (x : PySem.Str) : Prop := x.cps.all (· < 128) = true ∧ x.cps.toList.takeWhile (· != 0) = x.cps.toList ∧ x.cps.toList.length ≤ 640 ∧ (int_private% "readNumeral") 0 16 x.cps.toList = (int_private% "Numeral.value") (hexOf x)
theorem gives_hex {x : PySem.Str} {u u2 : Tok} (hk : hexReads x) : Gives (Builtin.«int.__new__» ⟨[.type "int", .str x u, .int 16 u2], []⟩) (.int (hexOf x)) :=
  .of_wp fun M A E s Q h => by
    obtain ⟨hp, g, d, tk, os⟩ := s
    have f1 := F.conv_sub_int
    have f2 := F.madeHere_int
    have f6 : typeOf (.str x u) = pure (.type "str") := rfl
    repeat (any_goals (first
      | assumption
      | wp_step))
    all_goals (
      obtain ⟨h7, hz, hl, hr⟩ := hk
      have hr' : (int_private% "readNumeral") 0 (Int.toNat 16) x.cps.toList = (int_private% "Numeral.value") (hexOf x) := hr
      simp only [h7, if_true, hz]
      rw [if_pos hl]
      repeat (any_goals (first
        | assumption
        | wp_step))
      all_goals (try rw [hr'])
      all_goals (try dsimp only)
      all_goals (try rw [if_pos (by exact beq_self_eq_true _)])
      repeat (any_goals (first
        | assumption
        | wp_step))
      all_goals (first | exact ⟨_, rfl, h⟩ | skip))
theorem call_hex {prog : Program} {w : World} {A : Around} {E : Value → Shared → Prop} {s : Shared} {Q : Value → Shared → Prop} {x : PySem.Str} {t t2 : Tok} (hk : hexReads x) (h : Q (.int (hexOf x) s.toks) { s with toks := s.toks + 1 }) :
    wpAny (model prog w) A (call (.type "int") [.str x t, .int 16 t2]) Q E s :=
  callType_new F.called_int F.newNe_int (typeCall_int_2 _ _) (newCall_int_2 _ _) (fun obj => F.args_object_init_3 obj _ _) F.entry_int_new (gives_hex hk).meets (show (Made.int (hexOf x)).post _ s from ⟨rfl, h⟩)
example : hexReads (PySem.Str.ofString "20AC") := ⟨by decide +kernel, by decide +kernel, by decide +kernel, by kernel_rfl⟩

--deps: P02_take P03_hex
theorem put_le {c : List (Int × Int)} {k v : Int} {n : Nat} (h : c.length ≤ n) : (kdfPut c k v).length ≤ n + 1 := Nat.le_trans (kdfPut_len c k v) (Nat.succ_le_succ h)
section
variable {prog : Program} {w : World} {A : Around} {E : Value → Shared → Prop} {s : Shared} {h₀ : Heap} {L d : Addr} {m : Str → Option Value} {news : List (Addr × Obj)} {u : Obj → List (Addr × Obj)} {o : Obj} {kvs : List (Int × Value)} {c : List (Int × Int)} {k e : Int} {tk te : Tok}
/-- an item stored in a dict of ints, its length known -/
theorem dput {Q : Unit → Shared → Prop} {B : Nat} (F : Fr h₀ L s.heap m) (N : News h₀ L s.heap news) (U : UpdF d o news u) (hd : o.IsDictOf (PySem.intKind prog w) kvs) (hf : PyProof.V.FlatPairs PyData.int kvs (kdfD c)) (hc : c.length ≤ B) (hB : B ≤ 100000)
    (h : ∀ h' o' kvs', Fr h₀ L h' m → News h₀ L h' (u o') → o'.IsDictOf (PySem.intKind prog w) kvs' → PyProof.V.FlatPairs PyData.int kvs' (kdfD (kdfPut c k e)) → (kdfPut c k e).length ≤ B + 1 → Q () { s with heap := h', toks := s.toks + 1 }) :
    wpAny (model prog w) A (setItem (.ref d) (.int k tk) (.int e te)) Q E s :=
  kdf_setItem F N U hd hf (by omega) fun h' o' kvs' F' N' a b => h h' o' kvs' F' N' a b (put_le hc)
end
/-- a loop over a list of the ledger that fills a dict of ints -/
theorem dloop {prog : Program} {w : World} {A : Around} {E : Value → Shared → Prop} {s : Shared} {env : Env} {h₀ : Heap} {x : Str} {body : List Stmt} {Q : Flow → Shared → Prop} {l d : Addr} {vs : List Value} {ns : List Int} {nn : Nat} {m₀ : Str → Option Value} {led : List (Addr × Obj)} {o₀ : Obj} {kvs₀ : List (Int × Value)} {c₀ : List (Int × Int)} (g : List (Int × Int) → Int → List (Int × Int))
    (F : Fr h₀ env.locals s.heap m₀) (N : News h₀ env.locals s.heap led) (hl : (l, listOf vs.toArray nn) ∈ led) (hm : (d, o₀) ∈ led) (hi : IntsAre vs ns)
    (hd₀ : o₀.IsDictOf (PySem.intKind prog w) kvs₀) (hf₀ : PyProof.V.FlatPairs PyData.int kvs₀ (kdfD c₀)) (hlen : c₀.length ≤ 1000) (hn : ns.length ≤ 1000) (hg : ∀ c n, (g c n).length ≤ c.length + 1) (hh : A.handled = none := by rfl)
    (turn : ∀ n t c o kvs h tk own, n ∈ ns → OwnOff own [l, d] → o.IsDictOf (PySem.intKind prog w) kvs → PyProof.V.FlatPairs PyData.int kvs (kdfD c) → c.length ≤ 2000 →
      Fr h₀ env.locals h (fun z => if z = x then some (.int n t) else m₀ z) → News h₀ env.locals h ([(l, listOf vs.toArray nn), (d, o)] ++ own) →
      wpAny (model prog w) A (execs body env) (InvPostN h₀ env.locals (fun m' nx => (l, listOf vs.toArray nn) ∈ nx ∧ (∃ o' kvs', nx = [(l, listOf vs.toArray nn), (d, o')] ∧ o'.IsDictOf (PySem.intKind prog w) kvs' ∧ PyProof.V.FlatPairs PyData.int kvs' (kdfD (g c n))) ∧ ∀ z, z ≠ x → m' z = m₀ z) own [l, d] { s with heap := h, toks := tk } Q) E { s with heap := h, toks := tk })
    (done : ∀ (q : Str → Option Value) o kvs h tk, o.IsDictOf (PySem.intKind prog w) kvs → PyProof.V.FlatPairs PyData.int kvs (kdfD (ns.foldl g c₀)) → (ns.foldl g c₀).length ≤ c₀.length + ns.length →
      Fr h₀ env.locals h (fun z => if z = x then q z else m₀ z) → News h₀ env.locals h [(l, listOf vs.toArray nn), (d, o)] → Q .next { s with heap := h, toks := tk }) :
    wpAny (model prog w) A (pyIter (.ref l)) (fun it s₂ => LoopAtV prog w A h₀ env x body Q E it s₂) E s := by
  have grow : ∀ (l' : List Int) (c : List (Int × Int)), (l'.foldl g c).length ≤ c.length + l'.length := by
    intro l'
    induction l' with
    | nil => intro c; exact Nat.le_refl _
    | cons a r ih =>
      intro c
      have h1 := ih (g c a)
      have h2 := hg c a
      simp only [List.foldl_cons, List.length_cons]
      omega
  have N1 : News h₀ env.locals s.heap [(l, listOf vs.toArray nn), (d, o₀)] := fun p hp => by
    rcases List.mem_cons.mp hp with e | hp
    · exact e ▸ N _ hl
    · exact (List.mem_singleton.mp hp) ▸ N _ hm
  refine iter_invNL (fun i m' nx => (∃ o kvs, nx = [(l, listOf vs.toArray nn), (d, o)] ∧ o.IsDictOf (PySem.intKind prog w) kvs ∧ PyProof.V.FlatPairs PyData.int kvs (kdfD ((ns.take i).foldl g c₀))) ∧ ∀ z, z ≠ x → m' z = m₀ z) hh (.head _) hi F N1 ⟨⟨o₀, kvs₀, rfl, hd₀, hf₀⟩, fun _ _ => rfl⟩ ?_ ?_
  · rintro i n t m₁ nx h tk own hn' _ hoff _ ⟨⟨o, kvs, rfl, hd, hf⟩, hm₁⟩ F₁ N₁
    have hlt : i < ns.length := (List.getElem?_eq_some_iff.mp hn').1
    have e1 : (fun z => if z = x then some (Value.int n t) else m₁ z) = fun z => if z = x then some (Value.int n t) else m₀ z := by
      funext z
      by_cases h1 : z = x
      · simp only [if_pos h1]
      · simp only [if_neg h1]; exact hm₁ z h1
    have e2 : (ns.take (i + 1)).foldl g c₀ = g ((ns.take i).foldl g c₀) n := by
      rw [List.take_add_one, hn', Option.toList_some, List.foldl_append]
      rfl
    have e3 := grow (ns.take i) c₀
    have e4 : (ns.take i).length ≤ i := by rw [List.length_take]; omega
    rw [e1] at F₁
    rw [e2]
    exact turn n t _ o kvs h tk own (List.mem_of_getElem? hn') hoff hd hf (by omega) F₁ N₁
  · rintro m₁ nx h tk _ ⟨⟨o, kvs, rfl, hd, hf⟩, hm₁⟩ F₁ N₁
    rw [List.take_length] at hf
    refine done m₁ o kvs h tk hd hf (grow ns c₀) ?_ N₁
    have e1 : (fun z => if z = x then m₁ z else m₀ z) = m₁ := by
      funext z
      by_cases h1 : z = x
      · simp only [if_pos h1]
      · simp only [if_neg h1]; exact (hm₁ z h1).symm
    rw [e1]; exact F₁
/-- a loop over a range by ones -/
theorem iter_range {prog : Program} {w : World} {A : Around} {E : Value → Shared → Prop} {s : Shared} {env : Env} {h₀ : Heap} {x : Str} {body : List Stmt} {Q : Flow → Shared → Prop} {r : Addr} {a₀ b₀ : Int} {t₀ u₀ v₀ : Tok} {n : Nat} {m₀ : Str → Option Value} {news : List (Addr × Obj)} (J : Nat → (Str → Option Value) → List (Addr × Obj) → Prop)
    (hr : IsRange s.heap r a₀ b₀ 1 t₀ u₀ v₀) (hsmall : Builtin.Range.small a₀ b₀ 1 = true) (hn : Builtin.Range.rangeSize a₀ b₀ 1 = (n : Int)) (F : Fr h₀ env.locals s.heap m₀) (N : News h₀ env.locals s.heap news) (hj : J 0 m₀ news) (hh : A.handled = none)
    (turn : ∀ (i : Nat) t m₁ news₁ h tk own, i < n → news₁.map (·.1) = news.map (·.1) → OwnOff own (news.map (·.1)) → J i m₁ news₁ → Fr h₀ env.locals h (fun y => if y = x then some (.int (a₀ + (i : Int)) t) else m₁ y) → News h₀ env.locals h (news₁ ++ own) →
      wpAny (model prog w) A (execs body env) (InvPostN h₀ env.locals (J (i + 1)) own (news.map (·.1)) { s with heap := h, toks := tk } Q) E { s with heap := h, toks := tk })
    (done : ∀ m₁ news₁ h tk, J n m₁ news₁ → Fr h₀ env.locals h m₁ → News h₀ env.locals h news₁ → Q .next { s with heap := h, toks := tk }) :
    wpAny (model prog w) A (pyIter (.ref r)) (fun it s₂ => LoopAtV prog w A h₀ env x body Q E it s₂) E s := by
  refine wpAny_pyIter_range hr hsmall ?_
  have W := (Walks.range (prog := prog) (w := w) hh s.heap.objs.size a₀ 1 n).bound
  refine loop_invN J W ?_ ?_ ?_ ?_ (by show IsRangeIter _ _ _ _ _; rw [hn]; simpa using Heap.get?_push_size _ rfl) (F.push _) (fun p hp => ⟨Heap.get?_push_of_some _ (N p hp).1, (N p hp).2⟩) hj ?_ done
  · intro hm
    exact absurd F.ns.lt ((List.mem_singleton.mp hm) ▸ Nat.lt_irrefl _)
  · intro b hb
    rw [List.mem_singleton.mp hb]
    exact next_is_new F
  · intro p hp hI
    exact absurd (Heap.lt_size (N p hp).1) ((List.mem_singleton.mp hI) ▸ Nat.lt_irrefl _)
  · intro p hp hI
    exact absurd (Heap.lt_size (N p hp).1) ((List.mem_singleton.mp hI) ▸ Nat.lt_irrefl _)
  · rintro i v m₁ nx h tk own hi ⟨_, t, rfl⟩ hadr hoff hJ F₁ N₁
    have e1 : a₀ + (i : Int) * 1 = a₀ + (i : Int) := by omega
    rw [e1] at F₁
    exact turn i t m₁ nx h tk own hi hadr hoff hJ F₁ N₁
/-- a loop over a range that fills a dict of ints; `ol` stands by -/
theorem dloopR {prog : Program} {w : World} {A : Around} {E : Value → Shared → Prop} {s : Shared} {env : Env} {h₀ : Heap} {x : Str} {body : List Stmt} {Q : Flow → Shared → Prop} {l d r : Addr} {ol : Obj} {n : Nat} {b₀ : Int} {t₀ u₀ v₀ : Tok} {m₀ : Str → Option Value} {led : List (Addr × Obj)} {o₀ : Obj} {kvs₀ : List (Int × Value)} {c₀ : List (Int × Int)} {B : Nat} (g : List (Int × Int) → Int → List (Int × Int))
    (F : Fr h₀ env.locals s.heap m₀) (N : News h₀ env.locals s.heap led) (hr : IsRange s.heap r 0 b₀ 1 t₀ u₀ v₀) (hb : b₀ = (n : Int)) (hl : (l, ol) ∈ led) (hm : (d, o₀) ∈ led)
    (hd₀ : o₀.IsDictOf (PySem.intKind prog w) kvs₀) (hf₀ : PyProof.V.FlatPairs PyData.int kvs₀ (kdfD c₀)) (hlen : c₀.length ≤ B) (hB : B ≤ 1000) (hn : n ≤ 300) (hg : ∀ c k, (g c k).length ≤ c.length + 1) (hh : A.handled = none := by rfl)
    (turn : ∀ k t c o kvs h tk own, 0 ≤ k → k < (n : Int) → OwnOff own [l, d] → o.IsDictOf (PySem.intKind prog w) kvs → PyProof.V.FlatPairs PyData.int kvs (kdfD c) → c.length ≤ 2000 →
      Fr h₀ env.locals h (fun z => if z = x then some (.int k t) else m₀ z) → News h₀ env.locals h ([(l, ol), (d, o)] ++ own) →
      wpAny (model prog w) A (execs body env) (InvPostN h₀ env.locals (fun m' nx => (∃ o' kvs', nx = [(l, ol), (d, o')] ∧ o'.IsDictOf (PySem.intKind prog w) kvs' ∧ PyProof.V.FlatPairs PyData.int kvs' (kdfD (g c k))) ∧ ∀ z, z ≠ x → m' z = m₀ z) own [l, d] { s with heap := h, toks := tk } Q) E { s with heap := h, toks := tk })
    (done : ∀ (q : Str → Option Value) o kvs h tk, o.IsDictOf (PySem.intKind prog w) kvs → PyProof.V.FlatPairs PyData.int kvs (kdfD ((rangeKs 0 n).foldl g c₀)) → ((rangeKs 0 n).foldl g c₀).length ≤ B + n →
      Fr h₀ env.locals h (fun z => if z = x then q z else m₀ z) → News h₀ env.locals h [(l, ol), (d, o)] → Q .next { s with heap := h, toks := tk }) :
    wpAny (model prog w) A (pyIter (.ref r)) (fun it s₂ => LoopAtV prog w A h₀ env x body Q E it s₂) E s := by
  subst hb
  have grow : ∀ (l' : List Int) (c : List (Int × Int)), (l'.foldl g c).length ≤ c.length + l'.length := by
    intro l'
    induction l' with
    | nil => intro c; exact Nat.le_refl _
    | cons a r ih =>
      intro c
      have h1 := ih (g c a)
      have h2 := hg c a
      simp only [List.foldl_cons, List.length_cons]
      omega
  have N1 : News h₀ env.locals s.heap [(l, ol), (d, o₀)] := fun p hp => by
    rcases List.mem_cons.mp hp with e | hp
    · exact e ▸ N _ hl
    · exact (List.mem_singleton.mp hp) ▸ N _ hm
  have hK : ∀ i, i < n → (rangeKs 0 n).take (i + 1) = (rangeKs 0 n).take i ++ [(i : Int)] := by
    intro i hi
    have : (rangeKs 0 n)[i]? = some ((0 : Int) + (i : Int)) := by simp [rangeKs, hi]
    rw [List.take_add_one, this, Option.toList_some, Int.zero_add]
  refine iter_range (n := n) (fun i m' nx => (∃ o kvs, nx = [(l, ol), (d, o)] ∧ o.IsDictOf (PySem.intKind prog w) kvs ∧ PyProof.V.FlatPairs PyData.int kvs (kdfD (((rangeKs 0 n).take i).foldl g c₀))) ∧ ∀ z, z ≠ x → m' z = m₀ z) hr
    (small_one (by decide) (by decide) (by omega) (by omega)) (by rw [rangeSize_nat]; omega) F N1 ⟨⟨o₀, kvs₀, rfl, hd₀, hf₀⟩, fun _ _ => rfl⟩ hh ?_ ?_
  · rintro i t m₁ nx h tk own hi _ hoff ⟨⟨o, kvs, rfl, hd, hf⟩, hm₁⟩ F₁ N₁
    have e1 : (fun z => if z = x then some (Value.int ((0 : Int) + (i : Int)) t) else m₁ z) = fun z => if z = x then some (Value.int (i : Int) t) else m₀ z := by
      funext z
      by_cases h1 : z = x
      · simp only [if_pos h1, Int.zero_add]
      · simp only [if_neg h1]; exact hm₁ z h1
    have e3 := grow ((rangeKs 0 n).take i) c₀
    have e4 : ((rangeKs 0 n).take i).length ≤ i := by rw [List.length_take]; omega
    rw [e1] at F₁
    rw [hK i hi, List.foldl_append]
    exact turn (i : Int) t _ o kvs h tk own (by omega) (by omega) hoff hd hf (by omega) F₁ N₁
  · rintro m₁ nx h tk ⟨⟨o, kvs, rfl, hd, hf⟩, hm₁⟩ F₁ N₁
    have e5 : (rangeKs 0 n).take n = rangeKs 0 n := List.take_of_length_le (Nat.le_of_eq (rangeKs_length _ _))
    rw [e5] at hf
    have e6 := grow (rangeKs 0 n) c₀
    rw [rangeKs_length] at e6
    refine done m₁ o kvs h tk hd hf (by omega) ?_ N₁
    have e1 : (fun z => if z = x then m₁ z else m₀ z) = m₁ := by
      funext z
      by_cases h1 : z = x
      · simp only [if_pos h1]
      · simp only [if_neg h1]; exact (hm₁ z h1).symm
    rw [e1]; exact F₁
theorem strs_get : ∀ {vs : List Value} {xs : List Str}, StrsAre vs xs → ∀ {k : Nat}, k < xs.length → ∃ t, vs[k]? = some (.str (xs.getD k Str.empty) t)
  | _, _, .cons y t _, 0, _ => ⟨t, rfl⟩
  | _, _, .cons _ _ h, k + 1, hk => strs_get h (Nat.lt_of_succ_lt_succ hk)
/-- an item of a list of texts -/
theorem item_strs {prog : Program} {w : World} {A : Around} {E : Value → Shared → Prop} {s : Shared} {h₀ : Heap} {L l : Addr} {news : List (Addr × Obj)} {c : Nat} {vs : List Value} {xs : List Str} {value slice : PySem.Expr} {k : Int} {u : Tok} {Q : Value → Shared → Prop}
    (N : News h₀ L s.heap news) (hm : (l, listOf vs.toArray c) ∈ news) (hi : StrsAre vs xs) (h0 : 0 ≤ k) (h1 : k < (xs.length : Int)) (hfit : k < 2 ^ 63) (h : ∀ t, Q (.str (xs.getD k.toNat Str.empty) t) s)
    (hs : subscripted slice false (.ref l) (.int k u) = operate [.ref l, .int k u] (getItem (.ref l) (.int k u)) := by with_unfolding_all rfl) :
    wpAny (model prog w) A (subscriptTail value slice (.ref l) (.int k u)) Q E s := by
  have hl : s.heap.IsList l vs.toArray := ⟨_, (N _ hm).1, rfl, c, rfl⟩
  obtain ⟨t, ht⟩ := strs_get hi (k := k.toNat) (by omega)
  exact tail_any hl.typeIs slot_list_getitem.lookup (wpAny_getItem_list hl h0 hfit (by rw [List.getElem?_toArray]; exact ht) (h t)) hs
noncomputable def hexs : List Str := (["2022", "2020", "2021", "2026", "2014", "2013", "0192", "2044", "2039", "203A", "2212", "2030", "201E", "201C", "201D", "2018", "2019", "201A", "2122", "FB01", "FB02", "0141", "0152", "0160", "0178", "017D", "0131", "0142", "0153", "0161", "017E"] : List String).map PySem.Str.ofString
noncomputable def hexA : List Str := hexs.take 21
noncomputable def hexB : List Str := hexs.drop 21
theorem split_hexA : Txt.split (PySem.Str.ofString "2022 2020 2021 2026 2014 2013 0192 2044 2039 203A 2212 2030 201E 201C 201D 2018 2019 201A 2122 FB01 FB02") (PySem.Str.ofString " ") = hexA := by decide +kernel
theorem split_hexB : Txt.split (PySem.Str.ofString "0141 0152 0160 0178 017D 0131 0142 0153 0161 017E") (PySem.Str.ofString " ") = hexB := by decide +kernel
section
variable {prog : Program} {w : World} {A : Around} {E : Value → Shared → Prop} {s : Shared} {h₀ : Heap} {L : Addr} {m : Str → Option Value} {news : List (Addr × Obj)} {Q : Value → Shared → Prop}
theorem split_to {x y : Str} {t u : Tok} {ys : List Str} (hx : Txt.split x y = ys) (F : Fr h₀ L s.heap m) (N : News h₀ L s.heap news) (hy : (y.length == 0) = false) (hz : x.length + 2 ≤ sizeLine)
    (h : ∀ D vs h' k, StrsAre vs ys → Fr h₀ L h' m → News h₀ L h' ((D, listOf vs.toArray 0) :: news) → (∀ p ∈ news, p.1 < D) → Q (.ref D) { s with heap := h', toks := k }) : wpAny (model prog w) A (call (.builtin "str.split") [.str x t, .str y u]) Q E s :=
  KSpl.split1 F N hy (fun D l h' k e a F' N' l1 => h D _ h' k (by rw [← hx, ← e]; exact a) F' N' l1) hz
theorem add_hex {a b : Addr} {us vs : List Value} {c d : Nat} (F : Fr h₀ L s.heap m) (N : News h₀ L s.heap news) (ha : (a, listOf us.toArray c) ∈ news) (hb : (b, listOf vs.toArray d) ∈ news) (hu : StrsAre us hexA) (hv : StrsAre vs hexB)
    (h : ∀ D ws h', StrsAre ws hexs → Fr h₀ L h' m → News h₀ L h' ((D, listOf ws.toArray 0) :: news) → (∀ p ∈ news, p.1 < D) → Q (.ref D) { s with heap := h' }) : wpAny (model prog w) A (binaryOp .Add (.ref a) (.ref b)) Q E s := by
  refine kmk_add_lit F N ⟨_, (N _ ha).1, rfl, c, rfl⟩ ⟨_, (N _ hb).1, rfl, d, rfl⟩ rfl (fun D h' F' N' l1 => h D _ h' (strsAre_append hu hv) F' N' l1) ?_
  rw [sizeLine_eq]
  have h1 := hu.length
  have h2 := hv.length
  have h3 : hexA.length = 21 := rfl
  have h4 : hexB.length = 10 := rfl
  simp only [List.toList_toArray]
  omega
end
theorem len_hex {prog : Program} {w : World} {A : Around} {E : Value → Shared → Prop} {s : Shared} {h₀ : Heap} {L l : Addr} {news : List (Addr × Obj)} {c : Nat} {vs : List Value} {Q : Value → Shared → Prop} (N : News h₀ L s.heap news) (hm : (l, listOf vs.toArray c) ∈ news) (hi : StrsAre vs hexs)
    (h : ∀ t k, Q (.int 31 t) { s with toks := k }) : wpAny (model prog w) A (call (.builtin "len") [.ref l]) Q E s := by
  have e := hi.length
  have e3 : hexs.length = 31 := rfl
  rw [e3] at e
  refine len_list (News.isList N hm) (by rw [List.size_toArray, e]; decide) ?_
  have e2 : ((vs.toArray.size : Nat) : Int) = 31 := by rw [List.size_toArray, e]; rfl
  rw [e2]
  exact h _ _
theorem hexs_read : ∀ x ∈ hexs, hexReads x := by
  unfold hexs
  simp only [List.map_cons, List.map_nil]
  repeat (first | exact List.forall_mem_nil _ | refine List.forall_mem_cons.mpr ⟨⟨by decide +kernel, by decide +kernel, by decide +kernel, by kernel_rfl⟩, ?_⟩)
theorem hexs_get {k : Nat} (h : k < 31) : hexReads (hexs.getD k Str.empty) := by
  refine hexs_read _ ?_
  rw [List.getD_eq_getElem?_getD, List.getElem?_eq_getElem (by exact h)]
  exact List.getElem_mem _
noncomputable def ns1 : List Int := rangeKs 32 95 ++ rangeKs 161 12 ++ rangeKs 174 82 ++ [9, 10, 13]
noncomputable def tab1 : List (Int × Int) := ns1.foldl (fun c k => kdfPut c k k) []
noncomputable def tabC : List (Int × Int) := (ns1.map fun n => (n, n)) ++ ([8226, 8224, 8225, 8230, 8212, 8211, 402, 8260, 8249, 8250, 8722, 8240, 8222, 8220, 8221, 8216, 8217, 8218, 8482, 64257, 64258, 321, 338, 352, 376, 381, 305, 322, 339, 353, 382].zipIdx.map fun (p : Int × Nat) => (128 + (p.2 : Int), p.1)) ++ ([728, 711, 710, 729, 733, 731, 730, 732].zipIdx.map fun (p : Int × Nat) => (24 + (p.2 : Int), p.1)) ++ [(160, 8364)]
theorem ns1_len : ns1.length = 192 := by decide +kernel
theorem tab1_len : tab1.length ≤ 192 := by decide +kernel
theorem tab_eq : kdfPut ((rangeKs 0 8).foldl (fun c k => kdfPut c (24 + k) (([728, 711, 710, 729, 733, 731, 730, 732] : List Int).getD k.toNat 0)) ((rangeKs 0 31).foldl (fun c k => kdfPut c (128 + k) (hexOf (hexs.getD k.toNat Str.empty))) tab1)) 160 8364 = tabC := by decide +kernel

section
local macro_rules | `(tactic| k_ne) => `(tactic| (refine neN ?_; (try dsimp only); first | omega | ((rename (∀ p : Addr × Obj, p ∈ _ → p.1 < _) => h9); exact Nat.ne_of_gt (h9 (_, _) (by k_memK)))))
theorem table_ok {w : World} {loose : List Str} {mean : ExcName → Option Value} {mg mb : Str → Option Value} :
    Spec 8 w loose mean mg mb 59 [] [] (fun r own' => ∃ d o kvs, r = .ref d ∧ own' = [(d, o)] ∧ (d == sysModules) = false ∧ o.IsDictOf (PySem.intKind PySem.Challenge.rw_nn0192_01.row.prog w) kvs ∧ PyProof.V.FlatPairs PyData.int kvs (kdfD tabC)) := by
  k_with_none
  k_with "own pick" => (first | exact Pick.head | (refine' Pick.tail ?ptq0; (case ptq0 => k_extra "own pick")))
  k_with "own picks" => (first | exact Picks.nil | (refine' Picks.cons ?ppq1 ?pqq1; (case ppq1 => k_extra "own pick"); (case pqq1 => k_extra "own picks")))
  k_with "own allin" => (with_unfolding_all ((try simp only [List.nil_append, List.cons_append]); k_allIn))
  k_with "own allin0" => (first | exact List.forall_mem_nil _ | k_extra "own allin")
  k_with "own same" => (intro z h1 h2; first | rfl | (simp [h1, h2]; done) | (simp_all; done))
  k_with "own same1" => (intro z h1; first | rfl | (simp [h1]; done) | (simp_all; done))
  k_with "own same3" => (intro z h1 h2 h3; first | rfl | (simp [h1, h2, h3]; done) | (simp_all; done))
  k_with "own for" => (k_here; (with_reducible rename Fr _ _ _ _ => lF'); (with_unfolding_all refine' For_invVF lF' ?k1q7 ?k2q7 ?_; (case k1q7 => exact rfl); (case k2q7 => exact rfl); k_whole))
  k_with "call type:list" => (k_here; (with_reducible show wpAny _ _ (call (Value.type _) [Value.ref _]) _ _ _); (rename IsRange _ _ _ _ _ _ _ _ => rgX); (with_unfolding_all refine' kll_range ?k0q8 ?k1q8 ?k2q8 ?k3q8 ?k4q8 ?k5q8 ?k6q8 ?_; (case k0q8 => rfl); (case k1q8 => k_asm); (case k2q8 => k_asm); (case k3q8 => first | exact rgX | assumption); (case k4q8 => exact small_one (by l_bnd) (by l_bnd) (by l_bnd) (by l_bnd)); (case k5q8 => first | rfl | exact rangeSize_nat _ _); (case k6q8 => decide); k_whole); intro D' vs' c' h' tk' F' N' l1 hI'; (try k_lt l1); (try k_sweep))
  k_with "exec For Name BinOp cons nil" => k_extra "own for"
  k_with "exec For Name Call cons nil" => k_extra "own for"
  k_with "call type:int" => (k_here; (with_reducible show wpAny _ _ (call (Value.type "int") [Value.str _ _, Value.int 16 _]) _ _ _); k_dflt (refine' call_hex ?khq11 ?_; (case khq11 => exact hexs_get (by omega)); k_whole))
  k_with "subscriptTail" => (k_here; (with_reducible show wpAny _ _ (subscriptTail _ _ (Value.ref _) (Value.int _ _)) _ _ _); k_dflt (refine' item_strs (xs := hexs) ?k1q12 ?k2q12 ?k3q12 ?k4q12 ?k5q12 ?k6q12 ?_ ?k7q12; (case k1q12 => k_asm); (case k2q12 => k_mem); (case k3q12 => with_reducible assumption); (case k4q12 => assumption); (case k5q12 => exact (by assumption : (_ : Int) < 31)); (case k6q12 => omega); (case k7q12 => with_unfolding_all rfl); k_whole); intro _)
  k_with "call builtin:str.split" => (k_here; (with_reducible show wpAny _ _ (call (Value.builtin "str.split") _) _ _ _); (try dsimp only [List.cons_append, List.nil_append]); first | (k_dflt (refine' split_to split_hexA ?Fq13 ?Nq13 ?yq13 ?zq13 ?_; (case Fq13 => k_asm); (case Nq13 => k_asm); (case yq13 => decide); (case zq13 => exact Nat.le_of_ble_eq_true rfl); k_whole); intro D' vs' h' k' a' F' N' l1; (try k_lt l1); (try k_sweep)) | (k_dflt (refine' split_to split_hexB ?Fq13 ?Nq13 ?yq13 ?zq13 ?_; (case Fq13 => k_asm); (case Nq13 => k_asm); (case yq13 => decide); (case zq13 => exact Nat.le_of_ble_eq_true rfl); k_whole); intro D' vs' h' k' a' F' N' l1; (try k_lt l1); (try k_sweep)))
  k_with "call builtin:len" => (k_here; (with_reducible show wpAny _ _ (call (Value.builtin "len") [Value.ref _]) _ _ _); k_dflt (refine' len_hex ?Nq14 ?mq14 ?iq14 ?_; (case Nq14 => k_asm); (case mq14 => k_mem); (case iq14 => with_reducible assumption); k_whole); intro _ _)
  k_with "binaryOp Add ref ref" => (k_here; (with_reducible show wpAny _ _ (binaryOp _ (Value.ref _) (Value.ref _)) _ _ _); (rename StrsAre _ hexB => hx9); k_dflt (refine' add_hex ?Fq15 ?Nq15 ?aq15 ?bq15 ?uq15 hx9 ?_; (case Fq15 => k_asm); (case Nq15 => k_asm); (case aq15 => k_mem); (case bq15 => k_mem); (case uq15 => with_reducible assumption); k_whole); intro D' ws' h' a' F' N' l1; (try k_lt l1); (try k_sweep))
  k_with "setItem ref int" => (k_here; (with_reducible show wpAny _ _ (setItem (Value.ref _) (Value.int _ _) (Value.int _ _)) _ _ _); k_dflt (refine' dput ?Fq16 ?Nq16 ?Uq16 ?dq16 ?fq16 ?cq16 ?Bq16 ?_; (case Fq16 => k_asm); (case Nq16 => k_asm); (case Uq16 => k_updF); (case dq16 => k_asm); (case fq16 => k_asm); (case cq16 => k_asm); (case Bq16 => omega)); intro h' o' kvs' F' N' hd' hf' hc'; (try dsimp only at N'); (try k_sweep))
  k_with "pyIter ref" => (k_here; first | ((with_unfolding_all refine' dloop (c₀ := []) (fun c k => kdfPut c k k) ?Fq17 ?Nq17 ?lq17 ?mq17 ?iq17 ?dq17 ?fq17 ?aq17 ?bq17 ?gq17 rfl ?_ ?_; (case Fq17 => k_asm); (case Nq17 => k_asm); (case lq17 => k_mem); (case iq17 => with_reducible assumption); (case dq17 => k_asm); (case fq17 => k_asm); (case mq17 => k_mem); (case aq17 => exact Nat.zero_le _); (case bq17 => exact Nat.le_trans (Nat.le_of_eq ns1_len) (by decide)); (case gq17 => exact fun c n => kdfPut_len c n n)); all_goals (first | (intro n' t' c' o' kvs' h' tk' own' hmem' hoff' hd' hf' hc' F' N'; k_fold) | (intro q' o' kvs' h' tk' hd' hf' hc' F' N'; replace hf' : PyProof.V.FlatPairs PyData.int kvs' (kdfD tab1) := hf'; clear hc'; have hc' := tab1_len; (try dsimp only)))) | ((with_unfolding_all refine' dloopR (n := 31) (fun c k => kdfPut c (128 + k) (hexOf (hexs.getD k.toNat Str.empty))) ?Fq17 ?Nq17 ?rq17 ?zq17 ?lq17 ?mq17 ?dq17 ?fq17 ?aq17 ?bq17 ?nnq17 ?gq17 rfl ?_ ?_; (case Fq17 => k_asm); (case Nq17 => k_asm); (case rq17 => assumption); (case zq17 => first | rfl | decide); (case dq17 => k_asm); (case fq17 => k_asm); (case mq17 => k_mem); (case lq17 => exact List.Mem.head _);  (case aq17 => k_asm); (case bq17 => omega); (case nnq17 => omega); (case gq17 => exact fun c n => kdfPut_len c _ _)); all_goals (first | (intro n' t' c' o' kvs' h' tk' own' hlo' hhi' hoff' hd' hf' hc' F' N'; k_fold) | (intro q' o' kvs' h' tk' hd' hf' hc' F' N'; (try dsimp only)))) | ((with_unfolding_all refine' dloopR (n := 8) (fun c k => kdfPut c (24 + k) (([728, 711, 710, 729, 733, 731, 730, 732] : List Int).getD k.toNat 0)) ?Fq17 ?Nq17 ?rq17 ?zq17 ?lq17 ?mq17 ?dq17 ?fq17 ?aq17 ?bq17 ?nnq17 ?gq17 rfl ?_ ?_; (case Fq17 => k_asm); (case Nq17 => k_asm); (case rq17 => assumption); (case zq17 => first | rfl | decide); (case dq17 => k_asm); (case fq17 => k_asm); (case mq17 => k_mem); (case lq17 => exact List.Mem.head _);  (case aq17 => k_asm); (case bq17 => omega); (case nnq17 => omega); (case gq17 => exact fun c n => kdfPut_len c _ _)); all_goals (first | (intro n' t' c' o' kvs' h' tk' own' hlo' hhi' hoff' hd' hf' hc' F' N'; k_fold) | (intro q' o' kvs' h' tk' hd' hf' hc' F' N'; (try dsimp only)))))
  k_with "InvEndN" => first | (refine InvEndN.intro (by assumption) (by assumption) ⟨.head _, ⟨_, _, rfl, by assumption, by assumption⟩, by k_extra "own same1"⟩ (by rfl) (by k_extra "own allin") (by (intro p hp; k_ownIn))) | (refine InvEndN.intro (by assumption) (by assumption) ⟨⟨_, _, rfl, by assumption, by assumption⟩, by k_extra "own same1"⟩ (by rfl) (by k_extra "own allin") (by (intro p hp; k_ownIn)))
  w_on
  w_strict (refine' spec_of (binds := []) (by k_is) (by k_is) (fun s => BindsTo.of_eq rfl) (locs rfl) rfl rfl rfl (by decide) (by decide) ?_; intro dp un gd cn cs L a ccd cl outer base g L' h₁ gens drawn os tk Q E B hk F N X T hd hu hret A9; (try k_fold); k_steps; exact hret _ _ _ _ _ (by assumption) (News.one (by assumption) (by k_memK)) ⟨_, _, _, rfl, rfl, by assumption, by assumption, by (rw [← tab_eq]; assumption)⟩)
end

--deps: P04_loops Dev
section
variable {prog : Program} {w : World} {A : Around} {E : Value → Shared → Prop} {s : Shared}
/-- xs[a:b] = ys, over the bare heap -/
theorem list_setslice {l sl r : Addr} {items new : Array Value} {n : Nat} {a b : Nat} {ta tb : Tok} {Q : Unit → Shared → Prop} (ho : s.heap.get? l = some (listOf items n)) (hs : s.heap.IsSliceOf sl (.int (a : Int) ta) (.int (b : Int) tb) .none) (hr : s.heap.IsList r new) (hne : l ≠ r)
    (hab : a ≤ b) (hb : b ≤ items.size) (hsz : items.size + new.size ≤ 1000)
    (h : Q () { s with heap := s.heap.update l (Obj.mapSeq fun xs => xs.extract 0 a ++ new ++ xs.extract b xs.size) }) : wpAny (model prog w) A (setItem (.ref l) (.ref sl) (.ref r)) Q E s := by
  have hl : s.heap.IsList l items := PySem.IsL.isList (n := n) ho
  obtain ⟨os, hos, hcs, hds⟩ := id hs
  obtain ⟨orr, hor, hcr, nr, hdr⟩ := id hr
  have hTs : s.TypeIs (.ref sl) "slice" := ⟨os, hos, hcs⟩
  have hline : (1000 : Nat) ≤ sizeLine := by rw [sizeLine_eq]; decide
  unfold setItem
  try with_reducible refine wpAny_holding ?_
  first | refine wpAny_bind (wpAny_pure ?_) | skip
  refine wpAny_bind (wpAny_sequenceKey hl.typeIs (by decide) ?_)
  refine wpAny_bind (wpAny_callSpecial?_slot (name := Str.ofString "__setitem__") hl.typeIs slot_list_setitem
    (wpAny_call_entry slot_list_setitem hl.typeIs entry_list_setitem ?_ (args_list_setitem _ _ _)))
  show wpAny _ _ (Builtin.List.listSubscript? (.ref sl) >>= _) _ _ s
  refine wpAny_bind ?_
  unfold Builtin.List.listSubscript?
  refine wpAny_bind (wpAny_specialOf hTs slice_no_index ?_)
  simp only [Option.isNone_none, if_true]
  refine wpAny_pure ?_
  show wpAny _ _ (typeOf (.ref sl) >>= _) _ _ s
  refine wpAny_bind (wpAny_typeOf hTs ?_)
  rw [if_neg (by decide)]
  rw [listSliceParts_eq]
  refine wpAny_bind (wpAny_bind (wpAny_field hos hds (x := .none) rfl (wpAny_bind (wpAny_listPart .none ?_))))
  rw [if_neg (by decide)]
  refine wpAny_bind (wpAny_field hos hds (x := .int (a : Int) ta) rfl (wpAny_bind (wpAny_listPart (.int _ _) ?_)))
  refine wpAny_bind (wpAny_field hos hds (x := .int (b : Int) tb) rfl (wpAny_bind (wpAny_listPart (.int _ _) (wpAny_pure ?_))))
  have hsame : Builtin.List.listSameRef (.ref l) (.ref r) = false := by
    show (l == r) = false
    exact beq_eq_false_iff_ne.mpr hne
  simp only [hsame, Bool.false_eq_true, if_false]
  unfold Builtin.List.listAllItems
  refine wpAny_bind (wpAny_bind (wpAny_typeOf hr.typeIs ?_))
  rw [if_pos (by decide)]
  refine wpAny_bind (wpAny_seqItems hor hdr (wpAny_pure ?_))
  refine wpAny_bind (m := Builtin.List.listItems (.ref l)) (listItems_at ho rfl ?_)
  refine wpAny_bind (wpAny_of_eq (sliceIndices_raw (some (a : Int)) (some (b : Int)) none items.size (by simp)) ?_)
  have e : sliceBounds (some (a : Int)) (some (b : Int)) none items.size = ((a : Int), (b : Int), 1) := by
    simp only [sliceBounds, Option.getD_none]
    have h1 : ¬ ((a : Int) < 0) := by omega
    have h2 : ¬ ((b : Int) < 0) := by omega
    simp only [h1, h2, if_false, show (1 : Int) > 0 by decide, if_true]
    congr 1
    · omega
    · congr 1; omega
  rw [e]
  dsimp only
  rw [if_pos (by decide)]
  refine wpAny_bind (wpAny_rule ?_)
  have hlong : Builtin.List.listTooLong (items.size + new.size) = false := by
    unfold Builtin.List.listTooLong
    exact decide_eq_false (by omega)
  rw [if_neg (by rw [hlong]; exact Bool.false_ne_true)]
  have e1 : ((a : Int)).toNat = a := Int.toNat_natCast a
  have e2 : (max (a : Int) (b : Int)).toNat = b := by omega
  have hsz2 : (items.extract 0 a ++ new ++ items.extract b items.size).size ≤ sizeLine + 1 := by
    simp only [Array.size_append, Array.size_extract]
    omega
  refine wpAny_bind (listUpdate_at ho rfl ?_ (by omega) (by rw [e1, e2]; exact hsz2))
  refine wpAny_bind (wpAny_letGo (wpAny_pure ⟨.none, rfl, ?_⟩))
  rw [e1, e2]
  exact wpAny_pure h

theorem push_keeps {h₀ h : Heap} {L : Addr} {news : List (Addr × Obj)} {o : Obj} (N : News h₀ L h news) : News h₀ L (h.push o) news := fun p hp => ⟨Heap.get?_push_of_some _ (N p hp).1, (N p hp).2⟩
/-- xs[a:b] = ys with its slice just made, over the ledger -/
theorem setslice_K {h₀ : Heap} {L D r : Addr} {m : Str → Option Value} {news news' : List (Addr × Obj)} {us vs : List Value} {xs ys : List Int} {n k : Nat} (a b : Nat) {x y : Int} {ta tb : Tok} {Q : Unit → Shared → Prop} (F : Fr h₀ L s.heap m) (N : News h₀ L s.heap news)
    (hr : (r, listOf vs.toArray k) ∈ news) (hne : D ≠ r) (U : Upd D (listOf us.toArray n) (listOf (us.take a ++ vs ++ us.drop b).toArray n) news news') (hi : IntsAre us xs) (hj : IntsAre vs ys)
    (hx : x = (a : Int)) (hy : y = (b : Int)) (hab : a ≤ b) (hb : b ≤ xs.length) (hlen : ys.length = b - a) (hsz : xs.length ≤ 500)
    (h : ∀ h', Fr h₀ L h' m → News h₀ L h' news' → IntsAre (us.take a ++ vs ++ us.drop b) (xs.take a ++ ys ++ xs.drop b) → (xs.take a ++ ys ++ xs.drop b).length = xs.length → Q () { s with heap := h' }) :
    wpAny (model prog w) A (setItem (.ref D) (.ref s.heap.objs.size) (.ref r)) Q E { s with heap := s.heap.push { cls := .type "slice", data := .fields #[.int x ta, .int y tb, .none] } } := by
  subst hx
  subst hy
  obtain ⟨pre, post, rfl, rfl, h1, h2⟩ := U.split
  have F' := F.push { cls := .type "slice", data := .fields #[.int (a : Int) ta, .int (b : Int) tb, .none] }
  have N' := push_keeps (o := { cls := .type "slice", data := .fields #[.int (a : Int) ta, .int (b : Int) tb, .none] }) N
  have z := N' (D, listOf us.toArray n) (List.mem_append.mpr (.inr (.head _)))
  have zr := N' (r, listOf vs.toArray k) hr
  have hl1 := hi.length
  have hl2 := hj.length
  have hs1 : us.toArray.size = xs.length := by rw [List.size_toArray]; exact hl1
  have hs2 : vs.toArray.size = ys.length := by rw [List.size_toArray]; exact hl2
  have ef : us.toArray.extract 0 a ++ vs.toArray ++ us.toArray.extract b us.toArray.size = (us.take a ++ vs ++ us.drop b).toArray := by
    apply Array.toList_inj.mp
    simp
    exact List.take_of_length_le (by rw [List.length_drop]; exact Nat.le_refl _)
  have et : (us.take a ++ vs ++ us.drop b).length = us.length := by
    simp only [List.length_append, List.length_take, List.length_drop]
    omega
  refine list_setslice (n := n) z.1 (Heap.IsSliceOf.new ..) (PySem.IsL.isList zr.1) hne hab (by rw [hs1]; exact hb) (by rw [hs1, hs2]; omega) ?_
  refine h _ (F'.change (Heap.SameBut.update ..) z.2.1 z.2.2) (news_set N' h1 h2 (Heap.SameBut.update ..) ?_) ?_ ?_
  · have q := PySem.IsL.update z.1 (fun xs : Array Value => xs.extract 0 a ++ vs.toArray ++ xs.extract b xs.size)
    rw [ef, if_pos (by simp only [List.size_toArray, et]; exact beq_self_eq_true _)] at q
    exact q
  · exact ((hi.take _).append hj).append (hi.drop _)
  · simp only [List.length_append, List.length_take, List.length_drop]
    omega
end

--deps: P06_slices
/-- a loop over a list of the ledger that turns another list of ints in place -/
theorem lloop {prog : Program} {w : World} {A : Around} {E : Value → Shared → Prop} {s : Shared} {env : Env} {h₀ : Heap} {x : Str} {body : List Stmt} {Q : Flow → Shared → Prop} {l d : Addr} {vs us₀ : List Value} {ns xs₀ : List Int} {nn mm : Nat} {m₀ : Str → Option Value} {led : List (Addr × Obj)} (g : List Int → Int → List Int)
    (F : Fr h₀ env.locals s.heap m₀) (N : News h₀ env.locals s.heap led) (hl : (l, listOf vs.toArray nn) ∈ led) (hm : (d, listOf us₀.toArray mm) ∈ led) (hi : IntsAre vs ns) (hi₀ : IntsAre us₀ xs₀) (hg : ∀ c n, (g c n).length = c.length) (hh : A.handled = none := by rfl)
    (turn : ∀ n t xs us c h tk own, n ∈ ns → OwnOff own [l, d] → IntsAre us xs → xs.length = xs₀.length →
      Fr h₀ env.locals h (fun z => if z = x then some (.int n t) else m₀ z) → News h₀ env.locals h ([(l, listOf vs.toArray nn), (d, listOf us.toArray c)] ++ own) →
      wpAny (model prog w) A (execs body env) (InvPostN h₀ env.locals (fun m' nx => (l, listOf vs.toArray nn) ∈ nx ∧ (∃ us' c', nx = [(l, listOf vs.toArray nn), (d, listOf us'.toArray c')] ∧ IntsAre us' (g xs n)) ∧ ∀ z, z ≠ x → m' z = m₀ z) own [l, d] { s with heap := h, toks := tk } Q) E { s with heap := h, toks := tk })
    (done : ∀ (q : Str → Option Value) us c h tk, IntsAre us (ns.foldl g xs₀) →
      Fr h₀ env.locals h (fun z => if z = x then q z else m₀ z) → News h₀ env.locals h [(l, listOf vs.toArray nn), (d, listOf us.toArray c)] → Q .next { s with heap := h, toks := tk }) :
    wpAny (model prog w) A (pyIter (.ref l)) (fun it s₂ => LoopAtV prog w A h₀ env x body Q E it s₂) E s := by
  have grow : ∀ (l' : List Int) (c : List Int), (l'.foldl g c).length = c.length := by
    intro l'
    induction l' with
    | nil => intro c; rfl
    | cons a r ih =>
      intro c
      rw [List.foldl_cons, ih, hg]
  have N1 : News h₀ env.locals s.heap [(l, listOf vs.toArray nn), (d, listOf us₀.toArray mm)] := fun p hp => by
    rcases List.mem_cons.mp hp with e | hp
    · exact e ▸ N _ hl
    · exact (List.mem_singleton.mp hp) ▸ N _ hm
  refine iter_invNL (fun i m' nx => (∃ us c, nx = [(l, listOf vs.toArray nn), (d, listOf us.toArray c)] ∧ IntsAre us ((ns.take i).foldl g xs₀)) ∧ ∀ z, z ≠ x → m' z = m₀ z) hh (.head _) hi F N1 ⟨⟨us₀, mm, rfl, hi₀⟩, fun _ _ => rfl⟩ ?_ ?_
  · rintro i n t m₁ nx h tk own hn' _ hoff _ ⟨⟨us, c, rfl, hus⟩, hm₁⟩ F₁ N₁
    have e1 : (fun z => if z = x then some (Value.int n t) else m₁ z) = fun z => if z = x then some (Value.int n t) else m₀ z := by
      funext z
      by_cases h1 : z = x
      · simp only [if_pos h1]
      · simp only [if_neg h1]; exact hm₁ z h1
    have e2 : (ns.take (i + 1)).foldl g xs₀ = g ((ns.take i).foldl g xs₀) n := by
      rw [List.take_add_one, hn', Option.toList_some, List.foldl_append]
      rfl
    rw [e1] at F₁
    rw [e2]
    exact turn n t _ us c h tk own (List.mem_of_getElem? hn') hoff hus (grow _ _) F₁ N₁
  · rintro m₁ nx h tk _ ⟨⟨us, c, rfl, hus⟩, hm₁⟩ F₁ N₁
    rw [List.take_length] at hus
    refine done m₁ us c h tk hus ?_ N₁
    have e1 : (fun z => if z = x then m₁ z else m₀ z) = m₁ := by
      funext z
      by_cases h1 : z = x
      · simp only [if_pos h1]
      · simp only [if_neg h1]; exact (hm₁ z h1).symm
    rw [e1]; exact F₁
theorem newList_ints {prog : Program} {w : World} {A : Around} {E : Value → Shared → Prop} {s : Shared} {h₀ : Heap} {L : Addr} {m : Str → Option Value} {news : List (Addr × Obj)} {vs : List Value} {ns : List Int} {Q : Value → Shared → Prop} (F : Fr h₀ L s.heap m) (N : News h₀ L s.heap news) (hi : IntsAre vs ns) (hz : ns.length ≤ 100)
    (h : ∀ D us h', IntsAre us ns → Fr h₀ L h' m → News h₀ L h' ((D, listOf us.toArray 0) :: news) → (∀ p ∈ news, p.1 < D) → Q (.ref D) { s with heap := h' }) : wpAny (model prog w) A (newList vs) Q E s :=
  newList_K F N (fun l h' F' N' l1 => h l vs h' hi F' N' l1) (by rw [sizeLine_eq, hi.length]; omega)
noncomputable def ns2 : List Int := [9, 10, 13] ++ rangeKs 32 95 ++ rangeKs 161 95
noncomputable def sigC : List Int := (List.range 256).map fun (k : Nat) => ((tabC.find? fun p => decide (p.1 = (k : Int))).map (·.2)).getD 65533
noncomputable def sigL : List Int := [65533, 65533, 65533, 65533, 65533, 65533, 65533, 65533, 65533, 9, 10, 65533, 65533, 13, 65533, 65533, 65533, 65533, 65533, 65533, 65533, 65533, 65533, 65533, 728, 711, 710, 729, 733, 731, 730, 732, 32, 33, 34, 35, 36, 37, 38, 39, 40, 41, 42, 43, 44, 45, 46, 47, 48, 49, 50, 51, 52, 53, 54, 55, 56, 57, 58, 59, 60, 61, 62, 63, 64, 65, 66, 67, 68, 69, 70, 71, 72, 73, 74, 75, 76, 77, 78, 79, 80, 81, 82, 83, 84, 85, 86, 87, 88, 89, 90, 91, 92, 93, 94, 95, 96, 97, 98, 99, 100, 101, 102, 103, 104, 105, 106, 107, 108, 109, 110, 111, 112, 113, 114, 115, 116, 117, 118, 119, 120, 121, 122, 123, 124, 125, 126, 65533, 8226, 8224, 8225, 8230, 8212, 8211, 402, 8260, 8249, 8250, 8722, 8240, 8222, 8220, 8221, 8216, 8217, 8218, 8482, 64257, 64258, 321, 338, 352, 376, 381, 305, 322, 339, 353, 382, 65533, 8364, 161, 162, 163, 164, 165, 166, 167, 168, 169, 170, 171, 172, 65533, 174, 175, 176, 177, 178, 179, 180, 181, 182, 183, 184, 185, 186, 187, 188, 189, 190, 191, 192, 193, 194, 195, 196, 197, 198, 199, 200, 201, 202, 203, 204, 205, 206, 207, 208, 209, 210, 211, 212, 213, 214, 215, 216, 217, 218, 219, 220, 221, 222, 223, 224, 225, 226, 227, 228, 229, 230, 231, 232, 233, 234, 235, 236, 237, 238, 239, 240, 241, 242, 243, 244, 245, 246, 247, 248, 249, 250, 251, 252, 253, 254, 255]
theorem sigC_lit : sigC = sigL := by decide +kernel
noncomputable def sig1 : List Int := ns2.foldl (fun xs k => xs.set k.toNat k) (List.replicate 256 65533)
noncomputable def sig2 (a b : List Int) : List Int := ((((sig1.set (Int.toNat 173) 65533).take 24 ++ a ++ (sig1.set (Int.toNat 173) 65533).drop 32).take 128 ++ b ++ ((sig1.set (Int.toNat 173) 65533).take 24 ++ a ++ (sig1.set (Int.toNat 173) 65533).drop 32).drop 159).set (Int.toNat 160) 8364)
theorem sig_eqL : sig2 [728, 711, 710, 729, 733, 731, 730, 732] [8226, 8224, 8225, 8230, 8212, 8211, 402, 8260, 8249, 8250, 8722, 8240, 8222, 8220, 8221, 8216, 8217, 8218, 8482, 64257, 64258, 321, 338, 352, 376, 381, 305, 322, 339, 353, 382] = sigL := by decide +kernel
theorem sig_eq : sig2 [728, 711, 710, 729, 733, 731, 730, 732] [8226, 8224, 8225, 8230, 8212, 8211, 402, 8260, 8249, 8250, 8722, 8240, 8222, 8220, 8221, 8216, 8217, 8218, 8482, 64257, 64258, 321, 338, 352, 376, 381, 305, 322, 339, 353, 382] = sigC := sig_eqL.trans sigC_lit.symm
theorem sig_of {vs : List Value} {a b : List Int} (ha : a = [728, 711, 710, 729, 733, 731, 730, 732]) (hb : b = [8226, 8224, 8225, 8230, 8212, 8211, 402, 8260, 8249, 8250, 8722, 8240, 8222, 8220, 8221, 8216, 8217, 8218, 8482, 64257, 64258, 321, 338, 352, 376, 381, 305, 322, 339, 353, 382])
    (h : IntsAre vs ((((sig1.set (Int.toNat 173) 65533).take 24 ++ a ++ (sig1.set (Int.toNat 173) 65533).drop 32).take 128 ++ b ++ ((sig1.set (Int.toNat 173) 65533).take 24 ++ a ++ (sig1.set (Int.toNat 173) 65533).drop 32).drop 159).set (Int.toNat 160) 8364)) : IntsAre vs sigC := by
  subst ha hb
  exact sig_eq ▸ (show IntsAre vs (sig2 _ _) from h)
theorem sig1_len : sig1.length = 256 := by decide +kernel
theorem ns2_in : ∀ n ∈ ns2, 0 ≤ n ∧ n < 256 := by decide +kernel
section
theorem signs_ok {w : World} {loose : List Str} {mean : ExcName → Option Value} {mg mb : Str → Option Value} :
    Spec 8 w loose mean mg mb 21 [] [] (fun r own' => ∃ D vs n, r = .ref D ∧ own' = [(D, listOf vs.toArray n)] ∧ IntsAre vs sigC) := by
  k_with_none
  k_with "own pick" => (first | exact Pick.head | (refine' Pick.tail ?ptq0; (case ptq0 => k_extra "own pick")))
  k_with "own picks" => (first | exact Picks.nil | (refine' Picks.cons ?ppq1 ?pqq1; (case ppq1 => k_extra "own pick"); (case pqq1 => k_extra "own picks")))
  k_with "own allin" => (with_unfolding_all ((try simp only [List.nil_append, List.cons_append]); k_allIn))
  k_with "own allin0" => (first | exact List.forall_mem_nil _ | k_extra "own allin")
  k_with "own same" => (intro z h1 h2; first | rfl | (simp [h1, h2]; done) | (simp_all; done))
  k_with "own same1" => (intro z h1; first | rfl | (simp [h1]; done) | (simp_all; done))
  k_with "own same3" => (intro z h1 h2 h3; first | rfl | (simp [h1, h2, h3]; done) | (simp_all; done))
  k_with "own for" => (k_here; (with_reducible rename Fr _ _ _ _ => lF'); (with_unfolding_all refine' For_invVF lF' ?k1q7 ?k2q7 ?_; (case k1q7 => exact rfl); (case k2q7 => exact rfl); k_whole))
  k_with "call type:list" => (k_here; (with_reducible show wpAny _ _ (call (Value.type _) [Value.ref _]) _ _ _); (rename IsRange _ _ _ _ _ _ _ _ => rgX); (with_unfolding_all refine' kll_range ?k0q8 ?k1q8 ?k2q8 ?k3q8 ?k4q8 ?k5q8 ?k6q8 ?_; (case k0q8 => rfl); (case k1q8 => k_asm); (case k2q8 => k_asm); (case k3q8 => first | exact rgX | assumption); (case k4q8 => exact small_one (by l_bnd) (by l_bnd) (by l_bnd) (by l_bnd)); (case k5q8 => first | rfl | exact rangeSize_nat _ _); (case k6q8 => decide); k_whole); intro D' vs' c' h' tk' F' N' l1 hI'; (try k_lt l1); (try k_sweep))
  k_with "exec For Name BinOp cons nil" => k_extra "own for"
  k_with "pyIter ref" => (k_here; ((with_unfolding_all refine' lloop (ns := ns2) (xs₀ := List.replicate 256 65533) (fun xs k => xs.set k.toNat k) ?Fq10 ?Nq10 ?lq10 ?mq10 ?iq10 ?dq10 ?gq10 rfl ?_ ?_; (case Fq10 => k_asm); (case Nq10 => k_asm); (case lq10 => k_mem); (case iq10 => assumption); (case dq10 => k_asm); (case mq10 => k_mem); (case gq10 => exact fun c n => List.length_set ..))); all_goals (first | (intro n' t' xs' us' c' h' tk' own' hmem' hoff' hi' hl' F' N'; k_fold; have hb' := ns2_in _ hmem'; replace hl' : xs'.length = 256 := hl'.trans (by decide)) | (intro q' us' c' h' tk' hi' F' N'; replace hi' : IntsAre us' sig1 := hi'; have hl' := sig1_len; (try dsimp only))))
  k_with "newList" => (k_here; (try dsimp only [List.cons_append, List.nil_append]); (with_reducible show wpAny _ _ (newList (_ :: _ :: _ :: _)) _ _ _); k_dflt (refine' newList_ints ?Fq11 ?Nq11 ?iq11 ?zq11 ?_; (case Fq11 => k_asm); (case Nq11 => k_asm); (case iq11 => l_ints); (case zq11 => decide); k_whole); intro D' us' h' i' F' N' l1; (try k_lt l1); (try k_sweep))
  k_with "setItem ref int" => (k_here; (with_reducible show wpAny _ _ (setItem (Value.ref _) (Value.int _ _) (Value.int _ _)) _ _ _); k_dflt (refine' ksa_set ?k1q12 ?k2q12 ?k3q12 ?k4q12 ?k5q12 ?k6q12 ?k7q12 ?_; (case k1q12 => k_asm); (case k2q12 => k_asm); (case k3q12 => k_upd); (case k4q12 => with_reducible assumption); (case k5q12 => omega); (case k6q12 => omega); (case k7q12 => omega); k_whole); intro h' F' N' hi' hl' hs'; clear hs'; (try k_sweep))
  k_with "InvEndN" => (refine InvEndN.intro (by assumption) (by assumption) ⟨.head _, ⟨_, _, rfl, by assumption⟩, by k_extra "own same1"⟩ (by rfl) (by k_extra "own allin") (by (intro p hp; k_ownIn)))
  k_with "setItem ref ref ref" => (k_here; (with_reducible show wpAny _ _ (setItem (Value.ref _) (Value.ref _) (Value.ref _)) _ _ _); k_dflt (first | ((try dsimp only); refine' setslice_K (s := ⟨_, _, _, _, _⟩) 24 32 ?Fq14 ?Nq14 ?rq14 ?neq14 ?Uq14 ?iq14 ?jq14 ?hxq14 ?hyq14 ?h1q14 ?h2q14 ?h3q14 ?h4q14 ?_; (case Fq14 => k_asm); (case Nq14 => k_asm); (case rq14 => k_mem); (case neq14 => k_ne); (case Uq14 => k_upd); (case iq14 => assumption); (case jq14 => l_ints); (case hxq14 => rfl); (case hyq14 => rfl); (case h1q14 => decide); (case h2q14 => omega); (case h3q14 => rfl); (case h4q14 => omega); intro h' F' N' hi' hl'; (try k_sweep)) | ((try dsimp only); refine' setslice_K (s := ⟨_, _, _, _, _⟩) 128 159 ?Fq14 ?Nq14 ?rq14 ?neq14 ?Uq14 ?iq14 ?jq14 ?hxq14 ?hyq14 ?h1q14 ?h2q14 ?h3q14 ?h4q14 ?_; (case Fq14 => k_asm); (case Nq14 => k_asm); (case rq14 => k_mem); (case neq14 => k_ne); (case Uq14 => k_upd); (case iq14 => assumption); (case jq14 => l_ints); (case hxq14 => rfl); (case hyq14 => rfl); (case h1q14 => decide); (case h2q14 => omega); (case h3q14 => rfl); (case h4q14 => omega); intro h' F' N' hi' hl'; (try k_sweep))))
  w_on
  w_strict (refine' spec_of (binds := []) (by k_is) (by k_is) (fun s => BindsTo.of_eq rfl) (locs rfl) rfl rfl rfl (by decide) (by decide) ?_; intro dp un gd cn cs L a ccd cl outer base g L' h₁ gens drawn os tk Q E B hk F N X T hd hu hret A9; (try k_fold); k_steps; refine' hret _ _ _ _ _ ?ha (News.one ?hb ?hc) ⟨_, _, _, rfl, rfl, ?hd⟩; (case ha => with_reducible assumption); (case hb => with_reducible assumption); (case hc => k_memK); (case hd => (refine' sig_of ?sa ?sb (by with_reducible assumption); (case sa => rfl); (case sb => rfl))))
end

--deps: P01_base
/-- a turn's end: the loop's own object, and what else of the ledger stands -/
noncomputable def LpEnd (h₀ : Heap) (L I : Addr) (oI : Obj) (keep : List (Addr × Obj)) (R : (Str → Option Value) → List (Addr × Obj) → Prop) (s₁ s₂ : Shared) : Prop :=
  ∃ h' tk m' nx, s₂ = { s₁ with heap := h', toks := tk } ∧ Fr h₀ L h' m' ∧ News h₀ L h' ((I, oI) :: nx) ∧ (∀ p ∈ nx, p.1 ≠ I) ∧ (∀ p ∈ keep, p ∈ nx) ∧ R m' nx
noncomputable def LpPost (h₀ : Heap) (L I : Addr) (oI : Obj) (keep : List (Addr × Obj)) (R : (Str → Option Value) → List (Addr × Obj) → Prop) (s₁ : Shared) (Q : Flow → Shared → Prop) (f : Flow) (s₂ : Shared) : Prop :=
  match f with
  | .ret v => Q (.ret v) s₂
  | .brk => Q .next s₂
  | _ => LpEnd h₀ L I oI keep R s₁ s₂
theorem LpEnd.intro {h₀ : Heap} {L I : Addr} {oI : Obj} {keep : List (Addr × Obj)} {R : (Str → Option Value) → List (Addr × Obj) → Prop} {s₁ : Shared} {h' : Heap} {tk : Nat} {m' : Str → Option Value} {all : List (Addr × Obj)} (nx : List (Addr × Obj))
    (F : Fr h₀ L h' m') (r : R m' nx) (N : News h₀ L h' all) (hI : (I, oI) ∈ all) (hn : ∀ p ∈ nx, p ∈ all) (off : ∀ p ∈ nx, p.1 ≠ I) (hk : ∀ p ∈ keep, p ∈ nx) : LpEnd h₀ L I oI keep R s₁ { s₁ with heap := h', toks := tk } :=
  ⟨h', tk, m', nx, rfl, F, fun p hp => by
    rcases List.mem_cons.mp hp with e | hp
    · exact e ▸ N _ hI
    · exact N p (hn p hp), off, hk, r⟩
section
variable {prog : Program} {w : World} {A : Around} {E : Value → Shared → Prop} {s : Shared} {env : Env} {h₀ : Heap} {x : Str} {body : List Stmt} {Q : Flow → Shared → Prop}
theorem lp_loop {I : Addr} {fp : List Addr} {n : Nat} {P : Nat → Value → Prop} {St : Nat → Heap → Prop} {m₀ : Str → Option Value} {news : List (Addr × Obj)} (keep : List (Addr × Obj)) (R : Nat → (Str → Option Value) → List (Addr × Obj) → Prop)
    (W : Walks prog w A I fp [I] n P St) (hI₀ : h₀.get? I = none) (hLf : env.locals ∉ fp) (hIo : ∀ i h, St i h → ∃ o, h.get? I = some o) (hfp : ∀ b ∈ fp, b = I ∨ ∃ o, (b, o) ∈ keep)
    (hst : St 0 s.heap) (F : Fr h₀ env.locals s.heap m₀) (N : News h₀ env.locals s.heap news) (hk : ∀ p ∈ keep, p ∈ news) (hnw : ∀ p ∈ news, p.1 ≠ I) (hj : R 0 m₀ news)
    (turn : ∀ i v oI m₁ nx h tk, i < n → P i v → R i m₁ nx → (∀ p ∈ nx, p.1 ≠ I) → (∀ p ∈ keep, p ∈ nx) → Fr h₀ env.locals h (fun y => if y = x then some v else m₁ y) → News h₀ env.locals h ((I, oI) :: nx) →
      wpAny (model prog w) A (execs body env) (LpPost h₀ env.locals I oI keep (R (i + 1)) { s with heap := h, toks := tk } Q) E { s with heap := h, toks := tk })
    (done : ∀ m₁ nx h tk, R n m₁ nx → Fr h₀ env.locals h m₁ → News h₀ env.locals h nx → Q .next { s with heap := h, toks := tk }) :
    LoopAtV prog w A h₀ env x body Q E (.ref I) s := by
  refine ⟨I, fp, [I], n, P, St, m₀, news, (fun i m nx => (∀ p ∈ keep, p ∈ nx) ∧ R i m nx), rfl, W, hLf, ?_, ?_, hst, F, N, ⟨hk, hj⟩, ?_, ?_⟩
  · intro b hb
    rw [List.mem_singleton.mp hb]; exact hI₀
  · intro p hp hI
    exact hnw p hp (List.mem_singleton.mp hI)
  · rintro i v m₁ nx s₁ own ⟨h, tk, rfl⟩ hin hP ⟨hkn, hR⟩ hoff hown hget hall hst₁ F₁ N₁
    obtain ⟨oI, hoI⟩ := hIo _ _ hst₁
    have hIfp : I ∈ fp := W.sub I (List.mem_singleton.mpr rfl)
    have hIown : (I, oI) ∈ own := hall I hIfp hI₀ oI hoI
    have offI : ∀ p ∈ nx, p.1 ≠ I := fun p hp e => hoff p hp (List.mem_singleton.mpr e)
    have N₂ : News h₀ env.locals h ((I, oI) :: nx) := fun p hp => by
      rcases List.mem_cons.mp hp with e | hp
      · exact e ▸ N₁ _ (List.mem_append_left _ hIown)
      · exact N₁ p (List.mem_append_right _ hp)
    refine wpAny_mono (turn i v oI m₁ nx h tk hin hP hR offI hkn F₁ N₂) (fun f s₂ q => ?_) fun _ _ e => e
    have fin : LpEnd h₀ env.locals I oI keep (R (i + 1)) { s with heap := h, toks := tk } s₂ → LoopStepU h₀ env.locals [I] own (fun m nx => (∀ p ∈ keep, p ∈ nx) ∧ R (i + 1) m nx) { s with heap := h, toks := tk } .next s₂ := by
      rintro ⟨h', tk', m', nx', e, F', N', off', hk', hR'⟩
      refine ⟨rfl, h', tk', m', nx', e, F', fun p hp => ?_, fun p hp hq => off' p hp (List.mem_singleton.mp hq), hk', hR'⟩
      rcases List.mem_append.mp hp with hp | hp
      · obtain ⟨a, o⟩ := p
        rcases hfp _ (hown _ hp) with e | ⟨o', ho'⟩
        · have e' : a = I := e
          subst e'
          have h1 := hget _ hp
          rw [show h.get? a = some oI from hoI] at h1
          cases h1
          exact N' _ (.head _)
        · have h1 : h.get? a = some o := hget _ hp
          have h2 : h.get? a = some o' := (N₂ _ (.tail _ (hkn _ ho'))).1
          rw [h1] at h2
          cases h2
          exact N' _ (.tail _ (hk' _ ho'))
      · exact N' p (.tail _ hp)
    cases f with
    | ret v => exact .ret q
    | brk => exact .brk q
    | next => exact .next (fin q)
    | cont => exact .cont (fin q)
  · rintro h' tk m' news' F' N' _ ⟨_, hJ⟩
    exact done m' news' h' tk hJ F' N'
/-- over a text's signs -/
theorem lp_text {xt : Str} {tx : Tok} {m₀ : Str → Option Value} {news : List (Addr × Obj)} (R : Nat → (Str → Option Value) → List (Addr × Obj) → Prop) (hh : A.handled = none) (F : Fr h₀ env.locals s.heap m₀) (N : News h₀ env.locals s.heap news) (hj : R 0 m₀ news)
    (turn : ∀ i c u I oI m₁ nx h tk, xt.cps[i]? = some c → R i m₁ nx → (∀ p ∈ nx, p.1 ≠ I) → Fr h₀ env.locals h (fun y => if y = x then some (.str ⟨#[c]⟩ u) else m₁ y) → News h₀ env.locals h ((I, oI) :: nx) →
      wpAny (model prog w) A (execs body env) (LpPost h₀ env.locals I oI [] (R (i + 1)) { s with heap := h, toks := tk } Q) E { s with heap := h, toks := tk })
    (done : ∀ m₁ nx h tk, R xt.cps.size m₁ nx → Fr h₀ env.locals h m₁ → News h₀ env.locals h nx → Q .next { s with heap := h, toks := tk }) :
    wpAny (model prog w) A (pyIter (.str xt tx)) (fun it s₂ => LoopAtV prog w A h₀ env x body Q E it s₂) E s := by
  have key : ∀ ty : String, (∀ I : Addr, Walks prog w A I [I] [I] xt.cps.size (SignAt xt) (fun i h => h.IsStrIter I ty xt tx i)) → LoopAtV prog w A h₀ env x body Q E (.ref s.heap.objs.size) { s with heap := s.heap.push { cls := .type ty, data := .fields #[.str xt tx, .int 0 0] } } := by
    intro ty W
    refine lp_loop [] R (W s.heap.objs.size) (next_is_new F) ?_ ?_ ?_ ⟨_, Heap.get?_push_size _ rfl, rfl, rfl⟩ (F.push _) (fun p hp => ⟨Heap.get?_push_of_some _ (N p hp).1, (N p hp).2⟩) (fun _ h => nomatch h) ?_ hj ?_ done
    · intro hm
      exact absurd F.ns.lt ((List.mem_singleton.mp hm) ▸ Nat.lt_irrefl _)
    · rintro i h ⟨o, ho, _⟩
      exact ⟨o, ho⟩
    · intro b hb
      exact .inl (List.mem_singleton.mp hb)
    · intro p hp e
      exact absurd (Heap.lt_size (N p hp).1) (e ▸ Nat.lt_irrefl _)
    · rintro i v oI m₁ nx h tk hi ⟨c, u, hc, rfl⟩ hR hoff _ F₁ N₁
      exact turn i c u _ oI m₁ nx h tk hc hR hoff F₁ N₁
  cases ha : xt.cps.all (· < 128)
  · exact wpAny_pyIter_wide ha (key "str_iterator" fun I => Walks.strWide hh I xt tx)
  · exact wpAny_pyIter_ascii ha (key "str_ascii_iterator" fun I => Walks.strAscii hh I xt tx)
/-- over a range by ones -/
theorem lp_range {r : Addr} {a₀ b₀ : Int} {t₀ u₀ v₀ : Tok} {n : Nat} {m₀ : Str → Option Value} {news : List (Addr × Obj)} (R : Nat → (Str → Option Value) → List (Addr × Obj) → Prop)
    (hr : IsRange s.heap r a₀ b₀ 1 t₀ u₀ v₀) (hsmall : Builtin.Range.small a₀ b₀ 1 = true) (hn : Builtin.Range.rangeSize a₀ b₀ 1 = (n : Int)) (hh : A.handled = none) (F : Fr h₀ env.locals s.heap m₀) (N : News h₀ env.locals s.heap news) (hj : R 0 m₀ news)
    (turn : ∀ (i : Nat) t I oI m₁ nx h tk, i < n → R i m₁ nx → (∀ p ∈ nx, p.1 ≠ I) → Fr h₀ env.locals h (fun y => if y = x then some (.int (a₀ + (i : Int)) t) else m₁ y) → News h₀ env.locals h ((I, oI) :: nx) →
      wpAny (model prog w) A (execs body env) (LpPost h₀ env.locals I oI [] (R (i + 1)) { s with heap := h, toks := tk } Q) E { s with heap := h, toks := tk })
    (done : ∀ m₁ nx h tk, R n m₁ nx → Fr h₀ env.locals h m₁ → News h₀ env.locals h nx → Q .next { s with heap := h, toks := tk }) :
    wpAny (model prog w) A (pyIter (.ref r)) (fun it s₂ => LoopAtV prog w A h₀ env x body Q E it s₂) E s := by
  refine wpAny_pyIter_range hr hsmall ?_
  have W := (Walks.range (prog := prog) (w := w) hh s.heap.objs.size a₀ 1 n).bound
  refine lp_loop [] R W (next_is_new F) ?_ ?_ ?_ (by show IsRangeIter _ _ _ _ _; rw [hn]; simpa using Heap.get?_push_size _ rfl) (F.push _) (fun p hp => ⟨Heap.get?_push_of_some _ (N p hp).1, (N p hp).2⟩) (fun _ h => nomatch h) ?_ hj ?_ done
  · intro hm
    exact absurd F.ns.lt ((List.mem_singleton.mp hm) ▸ Nat.lt_irrefl _)
  · intro i h st
    exact ⟨_, st⟩
  · intro b hb
    exact .inl (List.mem_singleton.mp hb)
  · intro p hp e
    exact absurd (Heap.lt_size (N p hp).1) (e ▸ Nat.lt_irrefl _)
  · rintro i v oI m₁ nx h tk hi ⟨_, t, rfl⟩ hR hoff _ F₁ N₁
    have e1 : a₀ + (i : Int) * 1 = a₀ + (i : Int) := by omega
    rw [e1] at F₁
    exact turn i t _ oI m₁ nx h tk hi hR hoff F₁ N₁
/-- over a list of the ledger -/
theorem lp_list {l : Addr} {vs : List Value} {ns : List Int} {nn : Nat} {m₀ : Str → Option Value} {news : List (Addr × Obj)} (R : Nat → (Str → Option Value) → List (Addr × Obj) → Prop)
    (hl : (l, listOf vs.toArray nn) ∈ news) (hi : IntsAre vs ns) (hh : A.handled = none) (F : Fr h₀ env.locals s.heap m₀) (N : News h₀ env.locals s.heap news) (hj : R 0 m₀ news)
    (turn : ∀ i n t I oI m₁ nx h tk, ns[i]? = some n → R i m₁ nx → (∀ p ∈ nx, p.1 ≠ I) → (l, listOf vs.toArray nn) ∈ nx → Fr h₀ env.locals h (fun y => if y = x then some (.int n t) else m₁ y) → News h₀ env.locals h ((I, oI) :: nx) →
      wpAny (model prog w) A (execs body env) (LpPost h₀ env.locals I oI [(l, listOf vs.toArray nn)] (R (i + 1)) { s with heap := h, toks := tk } Q) E { s with heap := h, toks := tk })
    (done : ∀ m₁ nx h tk, R ns.length m₁ nx → Fr h₀ env.locals h m₁ → News h₀ env.locals h nx → Q .next { s with heap := h, toks := tk }) :
    wpAny (model prog w) A (pyIter (.ref l)) (fun it s₂ => LoopAtV prog w A h₀ env x body Q E it s₂) E s := by
  have hol : s.heap.get? l = some (listOf vs.toArray nn) := (N _ hl).1
  have hls : s.heap.IsList l vs.toArray := ⟨_, hol, rfl, nn, rfl⟩
  have hne : l ≠ s.heap.objs.size := Nat.ne_of_lt (Heap.lt_size hol)
  refine wpAny_pyIter_list hls ?_
  have W := Walks.list (prog := prog) (w := w) hh s.heap.objs.size l hne vs.toArray
  have hlen : vs.toArray.size = ns.length := by simp [hi.length]
  rw [hlen] at W
  refine lp_loop [(l, listOf vs.toArray nn)] R W (next_is_new F) ?_ ?_ ?_ ⟨⟨_, Heap.get?_push_size _ rfl, rfl, rfl⟩, hls.at fun o e => Heap.get?_push_of_some _ e⟩ (F.push _) (fun p hp => ⟨Heap.get?_push_of_some _ (N p hp).1, (N p hp).2⟩) (fun p hp => (List.mem_singleton.mp hp) ▸ hl) ?_ hj ?_ done
  · intro hm
    rcases List.mem_cons.mp hm with e | hm
    · exact absurd F.ns.lt (e ▸ Nat.lt_irrefl _)
    · exact (N _ hl).2.1 ((List.mem_singleton.mp hm).symm)
  · rintro i h ⟨⟨o, ho, _⟩, _⟩
    exact ⟨o, ho⟩
  · intro b hb
    rcases List.mem_cons.mp hb with e | hb
    · exact .inl e
    · rw [List.mem_singleton.mp hb]; exact .inr ⟨listOf vs.toArray nn, List.Mem.head _⟩
  · intro p hp e
    exact absurd (Heap.lt_size (N p hp).1) (e ▸ Nat.lt_irrefl _)
  · rintro i v oI m₁ nx h tk hin hP hR hoff hkp F₁ N₁
    have hlt' : i < ns.length := hin
    obtain ⟨t, hx⟩ := hi.get i ns[i] (by simp [hlt'])
    have hv : v = .int ns[i] t := by
      have hP' : vs[i]? = some v := by simpa using hP
      rw [hx] at hP'; exact (Option.some.inj hP').symm
    subst hv
    exact turn i ns[i] t _ oI m₁ nx h tk (by simp [hlt']) hR hoff (hkp _ (.head _)) F₁ N₁
end

section
variable {prog : Program} {w : World} {A : Around} {E : Value → Shared → Prop} {s : Shared} {h₀ : Heap} {L D : Addr} {m : Str → Option Value} {news : List (Addr × Obj)} {g : Obj → List (Addr × Obj)} {us : List Value} {xs : List Int} {n B : Nat} {k : Int} {t : Tok} {Q : Value → Shared → Prop}
theorem app_any {v : Value} (F : Fr h₀ L s.heap m) (N : News h₀ L s.heap news) (U : UpdF D (listOf us.toArray n) news g) (hb : us.length ≤ B) (hB : B ≤ 100000)
    (h : ∀ us' h', us' = us ++ [v] → us'.length ≤ B + 1 → Fr h₀ L h' m → News h₀ L h' (g (listOf us'.toArray (n + 1))) → Q .none { s with heap := h' }) : wpAny (model prog w) A (call (.builtin "list.append") [.ref D, v]) Q E s := by
  obtain ⟨pre, post, rfl, hg, a, b⟩ := U.split
  have z := N (D, listOf us.toArray n) (List.mem_append.mpr (.inr (.head _)))
  refine append_at (hsz := by rw [List.size_toArray, sizeLine_eq]; omega) z.1 fun h' hs ho' => ?_
  rw [List.push_toArray] at ho'
  exact h _ h' rfl (by rw [List.length_append, List.length_singleton]; omega) (F.change hs z.2.1 z.2.2) (by rw [hg]; exact news_set N a b hs ho')
/-- append of an int -/
theorem app_ints (F : Fr h₀ L s.heap m) (N : News h₀ L s.heap news) (U : UpdF D (listOf us.toArray n) news g) (hi : IntsAre us xs) (hb : xs.length ≤ B) (hB : B ≤ 100000)
    (h : ∀ us' h', IntsAre us' (xs ++ [k]) → (xs ++ [k]).length ≤ B + 1 → Fr h₀ L h' m → News h₀ L h' (g (listOf us'.toArray (n + 1))) → Q .none { s with heap := h' }) : wpAny (model prog w) A (call (.builtin "list.append") [.ref D, .int k t]) Q E s :=
  app_any F N U (by rw [hi.length]; exact hb) hB fun us' h' e _ F' N' => h us' h' (e ▸ hi.append (.cons _ _ .nil)) (by rw [List.length_append, List.length_singleton]; omega) F' N'
/-- append of a text -/
theorem app_strs {ys : List Str} {y : Str} (F : Fr h₀ L s.heap m) (N : News h₀ L s.heap news) (U : UpdF D (listOf us.toArray n) news g) (hi : StrsAre us ys) (hb : ys.length ≤ B) (hB : B ≤ 100000)
    (h : ∀ us' h', StrsAre us' (ys ++ [y]) → (ys ++ [y]).length ≤ B + 1 → Fr h₀ L h' m → News h₀ L h' (g (listOf us'.toArray (n + 1))) → Q .none { s with heap := h' }) : wpAny (model prog w) A (call (.builtin "list.append") [.ref D, .str y t]) Q E s :=
  app_any F N U (by rw [hi.length]; exact hb) hB fun us' h' e _ F' N' => h us' h' (e ▸ hi.append' (.cons _ _ .nil)) (by rw [List.length_append, List.length_singleton]; omega) F' N'
end

/-! ### while, by a measure -/
noncomputable def WlEnd (h₀ : Heap) (L : Addr) (s : Shared) (R : Nat → (Str → Option Value) → List (Addr × Obj) → Prop) (n : Nat) (s₂ : Shared) : Prop :=
  ∃ h' tk m' nx n', s₂ = { s with heap := h', toks := tk } ∧ Fr h₀ L h' m' ∧ News h₀ L h' nx ∧ n' < n ∧ R n' m' nx
noncomputable def WlPost (h₀ : Heap) (L : Addr) (s : Shared) (R : Nat → (Str → Option Value) → List (Addr × Obj) → Prop) (Q : Flow → Shared → Prop) (n : Nat) (f : Flow) (s₂ : Shared) : Prop :=
  match f with
  | .ret v => Q (.ret v) s₂
  | .brk => Q .next s₂
  | _ => WlEnd h₀ L s R n s₂
theorem WlEnd.intro {h₀ : Heap} {L : Addr} {s : Shared} {R : Nat → (Str → Option Value) → List (Addr × Obj) → Prop} {n n' : Nat} {h' : Heap} {tk : Nat} {m' : Str → Option Value} {nx all : List (Addr × Obj)}
    (F : Fr h₀ L h' m') (r : R n' m' nx) (hn : n' < n) (N : News h₀ L h' all) (hs : ∀ p ∈ nx, p ∈ all) : WlEnd h₀ L s R n { s with heap := h', toks := tk } :=
  ⟨h', tk, m', nx, n', rfl, F, fun p hp => N p (hs p hp), hn, r⟩
theorem wl_while {prog : Program} {w : World} {A : Around} {E : Value → Shared → Prop} {Q : Flow → Shared → Prop} {s : Shared} {env : Env} {h₀ : Heap} {L : Addr} {test : PySem.Expr} {body : List Stmt} {pos : Pos} {m₀ : Str → Option Value} {news : List (Addr × Obj)} {n₀ : Nat}
    (R : Nat → (Str → Option Value) → List (Addr × Obj) → Prop) (F : Fr h₀ L s.heap m₀) (N : News h₀ L s.heap news) (hR : R n₀ m₀ news)
    (turn : ∀ n m₁ nx h tk, R n m₁ nx → Fr h₀ L h m₁ → News h₀ L h nx →
      wpAny (model prog w) A (isTrue test env (eval test env)) (fun b s₂ => if b = true then wpAny (model prog w) A (execs body env) (WlPost h₀ L s R Q n) E s₂ else Q .next s₂) E { s with heap := h, toks := tk })
    (hE : PassesOwn (model prog w) A env E := by passes_own) :
    wpAny (model prog w) A (exec (.While test body [] pos) env) Q E s := by
  refine While_inv2 R F N hR ?_ hE
  intro n m₁ nx h tk F₁ N₁ hR₁
  refine wpAny_mono (turn n m₁ nx h tk hR₁ F₁ N₁) (fun b s₂ p => ?_) fun _ _ x => x
  cases b with
  | false => simpa using p
  | true =>
    simp only [if_true] at p ⊢
    refine wpAny_mono p (fun f s₃ q => ?_) fun _ _ x => x
    cases f with
    | ret v => exact q
    | brk => exact q
    | next =>
      obtain ⟨h', tk', m', nx', n', e, F', N', hn, r⟩ := q
      exact ⟨h', tk', m', nx', n', e, F', N', hn, r⟩
    | cont =>
      obtain ⟨h', tk', m', nx', n', e, F', N', hn, r⟩ := q
      exact ⟨h', tk', m', nx', n', e, F', N', hn, r⟩
/-! ### items -/
theorem ints_get : ∀ {vs : List Value} {xs : List Int}, IntsAre vs xs → ∀ {k : Nat}, k < xs.length → ∃ t, vs[k]? = some (.int (xs.getD k 0) t)
  | _, _, .cons n t _, 0, _ => ⟨t, rfl⟩
  | _, _, .cons _ _ h, k + 1, hk => ints_get h (Nat.lt_of_succ_lt_succ hk)
section
variable {prog : Program} {w : World} {A : Around} {E : Value → Shared → Prop} {s : Shared} {h₀ : Heap} {L l : Addr} {news : List (Addr × Obj)} {c : Nat} {vs : List Value} {Q : Value → Shared → Prop}
/-- an item of a list of ints -/
theorem item_ints {xs : List Int} {value slice : PySem.Expr} {k : Int} {u : Tok} 
    (N : News h₀ L s.heap news) (hm : (l, listOf vs.toArray c) ∈ news) (hi : IntsAre vs xs) (h0 : 0 ≤ k) (h1 : k < (xs.length : Int)) (hfit : k < 2 ^ 63) (h : ∀ t, Q (.int (xs.getD k.toNat 0) t) s)
    (hs : subscripted slice false (.ref l) (.int k u) = operate [.ref l, .int k u] (getItem (.ref l) (.int k u)) := by with_unfolding_all rfl) :
    wpAny (model prog w) A (subscriptTail value slice (.ref l) (.int k u)) Q E s := by
  have hl : s.heap.IsList l vs.toArray := ⟨_, (N _ hm).1, rfl, c, rfl⟩
  obtain ⟨t, ht⟩ := ints_get hi (k := k.toNat) (by omega)
  exact tail_any hl.typeIs slot_list_getitem.lookup (wpAny_getItem_list hl h0 hfit (by rw [List.getElem?_toArray]; exact ht) (h t)) hs
/-- the length of a list of ints -/
theorem len_ints {xs : List Int} (N : News h₀ L s.heap news) (hm : (l, listOf vs.toArray c) ∈ news) (hi : IntsAre vs xs) (hfit : xs.length ≤ 1000000)
    (h : ∀ t k, Q (.int (xs.length : Int) t) { s with toks := k }) : wpAny (model prog w) A (call (.builtin "len") [.ref l]) Q E s := by
  have e := hi.length
  refine len_list (News.isList N hm) (by rw [List.size_toArray, e]; omega) ?_
  have e2 : ((vs.toArray.size : Nat) : Int) = (xs.length : Int) := by rw [List.size_toArray, e]
  rw [e2]
  exact h _ _
/-- a text glued of signs -/
noncomputable def chS (c : Int) : Str := ⟨#[c.toNat]⟩
theorem join_sum (cs : List Int) : ((cs.map chS).map (·.length)).sum = cs.length := by
  induction cs with
  | nil => rfl
  | cons a r ih =>
    simp only [List.map_cons, List.sum_cons, List.length_cons] at ih ⊢
    rw [ih]
    show 1 + r.length = r.length + 1
    omega
theorem join_chS : ∀ cs : List Int, PySem.Str.join (PySem.Str.ofString "") (cs.map chS) = KStt.txt cs
  | [] => rfl
  | [a] => rfl
  | a :: b :: r => by
    have ih := join_chS (b :: r)
    have e : PySem.Str.ofString "" = PySem.Str.empty := by decide +kernel
    show (chS a ++ PySem.Str.ofString "" ++ PySem.Str.join (PySem.Str.ofString "") ((b :: r).map chS)) = _
    rw [ih, e]
    refine PySem.Str.ext' (Array.toList_inj.mp ?_)
    simp [PySem.Str.cps_append, chS, KStt.txt, PySem.Str.empty]
theorem join_K {cs : List Int} {t : Tok} (N : News h₀ L s.heap news) (hm : (l, listOf vs.toArray c) ∈ news) (hi : StrsAre vs (cs.map chS)) (hb : cs.length ≤ 200000)
    (h : ∀ t' k, Q (.str (KStt.txt cs) t') { s with toks := k }) : wpAny (model prog w) A (call (.builtin "str.join") [.str (PySem.Str.ofString "") t, .ref l]) Q E s := by
  refine join_listC (News.isList N hm) (ys := cs.map chS) hi (by decide +kernel) (by rw [join_sum, List.length_map]; omega) fun t' k => ?_
  rw [show PySem.Txt.join (PySem.Str.ofString "") (cs.map chS) = KStt.txt cs from (StrLaws.glued_eq_join _ _).trans (join_chS cs)]
  exact h t' k
end
/-! ### addresses apart -/
noncomputable def OffL (a : Addr) : List (Addr × Obj) → Prop
  | [] => True
  | p :: r => (@Ne Nat p.1 a) ∧ OffL a r
noncomputable def ApartL : List (Addr × Obj) → List (Addr × Obj) → Prop
  | [], _ => True
  | p :: own, rest => OffL p.1 rest ∧ ApartL own rest
theorem OffL.of {a : Addr} : ∀ {l : List (Addr × Obj)}, (∀ q ∈ l, a ≠ q.1) → OffL a l
  | [], _ => trivial
  | _ :: _, h => ⟨fun e => h _ (.head _) e.symm, OffL.of fun q hq => h q (.tail _ hq)⟩
theorem ApartL.of {rest : List (Addr × Obj)} : ∀ {own : List (Addr × Obj)}, (∀ p ∈ own, ∀ q ∈ rest, p.1 ≠ q.1) → ApartL own rest
  | [], _ => trivial
  | _ :: _, h => ⟨OffL.of (h _ (.head _)), ApartL.of fun p hp => h p (.tail _ hp)⟩
theorem apart_cons {a : Addr} {o : Obj} {own rest : List (Addr × Obj)} (h : ∀ q ∈ rest, q.1 ≠ a) (k : ∀ p ∈ own, ∀ q ∈ rest, p.1 ≠ q.1) : ∀ p ∈ (a, o) :: own, ∀ q ∈ rest, p.1 ≠ q.1 := by
  intro p hp q hq
  rcases List.mem_cons.mp hp with rfl | hp
  · exact (h q hq).symm
  · exact k p hp q hq
/-! ### a part of a long «and» -/
theorem cjl0 {p q : Prop} (h : p ∧ q) : p := h.1
theorem cjr0 {a0 p : Prop} (h : a0 ∧ p) : p := h.2
theorem cjl1 {a0 p q : Prop} (h : a0 ∧ p ∧ q) : p := h.2.1
theorem cjr1 {a0 a1 p : Prop} (h : a0 ∧ a1 ∧ p) : p := h.2.2
theorem cjl2 {a0 a1 p q : Prop} (h : a0 ∧ a1 ∧ p ∧ q) : p := h.2.2.1
theorem cjr2 {a0 a1 a2 p : Prop} (h : a0 ∧ a1 ∧ a2 ∧ p) : p := h.2.2.2
theorem cjl3 {a0 a1 a2 p q : Prop} (h : a0 ∧ a1 ∧ a2 ∧ p ∧ q) : p := h.2.2.2.1
theorem cjr3 {a0 a1 a2 a3 p : Prop} (h : a0 ∧ a1 ∧ a2 ∧ a3 ∧ p) : p := h.2.2.2.2
theorem cjl4 {a0 a1 a2 a3 p q : Prop} (h : a0 ∧ a1 ∧ a2 ∧ a3 ∧ p ∧ q) : p := h.2.2.2.2.1
theorem cjr4 {a0 a1 a2 a3 a4 p : Prop} (h : a0 ∧ a1 ∧ a2 ∧ a3 ∧ a4 ∧ p) : p := h.2.2.2.2.2
theorem cjl5 {a0 a1 a2 a3 a4 p q : Prop} (h : a0 ∧ a1 ∧ a2 ∧ a3 ∧ a4 ∧ p ∧ q) : p := h.2.2.2.2.2.1
theorem cjr5 {a0 a1 a2 a3 a4 a5 p : Prop} (h : a0 ∧ a1 ∧ a2 ∧ a3 ∧ a4 ∧ a5 ∧ p) : p := h.2.2.2.2.2.2
theorem cjl6 {a0 a1 a2 a3 a4 a5 p q : Prop} (h : a0 ∧ a1 ∧ a2 ∧ a3 ∧ a4 ∧ a5 ∧ p ∧ q) : p := h.2.2.2.2.2.2.1
theorem cjr6 {a0 a1 a2 a3 a4 a5 a6 p : Prop} (h : a0 ∧ a1 ∧ a2 ∧ a3 ∧ a4 ∧ a5 ∧ a6 ∧ p) : p := h.2.2.2.2.2.2.2
theorem cjl7 {a0 a1 a2 a3 a4 a5 a6 p q : Prop} (h : a0 ∧ a1 ∧ a2 ∧ a3 ∧ a4 ∧ a5 ∧ a6 ∧ p ∧ q) : p := h.2.2.2.2.2.2.2.1
theorem cjr7 {a0 a1 a2 a3 a4 a5 a6 a7 p : Prop} (h : a0 ∧ a1 ∧ a2 ∧ a3 ∧ a4 ∧ a5 ∧ a6 ∧ a7 ∧ p) : p := h.2.2.2.2.2.2.2.2
theorem cjl8 {a0 a1 a2 a3 a4 a5 a6 a7 p q : Prop} (h : a0 ∧ a1 ∧ a2 ∧ a3 ∧ a4 ∧ a5 ∧ a6 ∧ a7 ∧ p ∧ q) : p := h.2.2.2.2.2.2.2.2.1
theorem cjr8 {a0 a1 a2 a3 a4 a5 a6 a7 a8 p : Prop} (h : a0 ∧ a1 ∧ a2 ∧ a3 ∧ a4 ∧ a5 ∧ a6 ∧ a7 ∧ a8 ∧ p) : p := h.2.2.2.2.2.2.2.2.2
theorem cjl9 {a0 a1 a2 a3 a4 a5 a6 a7 a8 p q : Prop} (h : a0 ∧ a1 ∧ a2 ∧ a3 ∧ a4 ∧ a5 ∧ a6 ∧ a7 ∧ a8 ∧ p ∧ q) : p := h.2.2.2.2.2.2.2.2.2.1
theorem cjr9 {a0 a1 a2 a3 a4 a5 a6 a7 a8 a9 p : Prop} (h : a0 ∧ a1 ∧ a2 ∧ a3 ∧ a4 ∧ a5 ∧ a6 ∧ a7 ∧ a8 ∧ a9 ∧ p) : p := h.2.2.2.2.2.2.2.2.2.2
theorem cjl10 {a0 a1 a2 a3 a4 a5 a6 a7 a8 a9 p q : Prop} (h : a0 ∧ a1 ∧ a2 ∧ a3 ∧ a4 ∧ a5 ∧ a6 ∧ a7 ∧ a8 ∧ a9 ∧ p ∧ q) : p := h.2.2.2.2.2.2.2.2.2.2.1
theorem cjr10 {a0 a1 a2 a3 a4 a5 a6 a7 a8 a9 a10 p : Prop} (h : a0 ∧ a1 ∧ a2 ∧ a3 ∧ a4 ∧ a5 ∧ a6 ∧ a7 ∧ a8 ∧ a9 ∧ a10 ∧ p) : p := h.2.2.2.2.2.2.2.2.2.2.2
theorem cjl11 {a0 a1 a2 a3 a4 a5 a6 a7 a8 a9 a10 p q : Prop} (h : a0 ∧ a1 ∧ a2 ∧ a3 ∧ a4 ∧ a5 ∧ a6 ∧ a7 ∧ a8 ∧ a9 ∧ a10 ∧ p ∧ q) : p := h.2.2.2.2.2.2.2.2.2.2.2.1
theorem cjr11 {a0 a1 a2 a3 a4 a5 a6 a7 a8 a9 a10 a11 p : Prop} (h : a0 ∧ a1 ∧ a2 ∧ a3 ∧ a4 ∧ a5 ∧ a6 ∧ a7 ∧ a8 ∧ a9 ∧ a10 ∧ a11 ∧ p) : p := h.2.2.2.2.2.2.2.2.2.2.2.2

local macro_rules | `(tactic| k_ne) => `(tactic| k_extra "own kne")
--deps: P08_iter Dev
noncomputable def unitsOf (c : Int) : List Int := if 65536 ≤ c then [55296 + (c - 65536) / 1024, 56320 + (c - 65536) % 1024] else [c]
theorem code_step {x : Str} {i c : Nat} (h : x.cps[i]? = some c) : (KStt.codes x).take (i + 1) = (KStt.codes x).take i ++ [(c : Int)] := by
  rw [List.take_add_one, KStt.code_at h]; rfl
theorem u_big {us : List Value} {xs : List Int} {c : Int} (h : 65536 ≤ c) (hi : IntsAre us (xs ++ [55296 + (c - 65536).fdiv 1024] ++ [56320 + (c - 65536).fmod 1024])) : IntsAre us (xs ++ unitsOf c) := by
  rw [Int.fdiv_eq_ediv_of_nonneg _ (by decide), Int.fmod_eq_emod_of_nonneg _ (by decide)] at hi
  unfold unitsOf
  rw [if_pos h]
  simpa [List.append_assoc] using hi
theorem u_small {us : List Value} {xs : List Int} {c : Int} (h : ¬ 65536 ≤ c) (hi : IntsAre us (xs ++ [c])) : IntsAre us (xs ++ unitsOf c) := by
  unfold unitsOf
  rw [if_neg h]; exact hi
theorem unitsOf_len (c : Int) : (unitsOf c).length ≤ 2 := by unfold unitsOf; split <;> simp
theorem flat_len (l : List Int) : (l.flatMap unitsOf).length ≤ 2 * l.length := by
  induction l with
  | nil => simp
  | cons a r ih => rw [List.flatMap_cons, List.length_append, List.length_cons]; have := unitsOf_len a; omega
/-- a loop over a text's signs that fills a list by f of each code -/
theorem tloop {prog : Program} {w : World} {A : Around} {E : Value → Shared → Prop} {s : Shared} {env : Env} {h₀ : Heap} {x : Str} {body : List Stmt} {Q : Flow → Shared → Prop} {xt : Str} {tx : Tok} {D : Addr} {n₀ : Nat} {m₀ : Str → Option Value} {led : List (Addr × Obj)} (f : Int → List Int) (tmp : Str)
    (F : Fr h₀ env.locals s.heap m₀) (N : News h₀ env.locals s.heap led) (hm : (D, listOf #[] n₀) ∈ led) (hlen : ∀ i, (((KStt.codes xt).take i).flatMap f).length ≤ 1000) (hh : A.handled = none := by rfl)
    (turn : ∀ (i c : Nat) u (q : Str → Option Value) us xs k I oI h tk, xt.cps[i]? = some c → i < xt.cps.size → IntsAre us xs → xs.length ≤ 1000 → (@Ne Nat D I) →
      Fr h₀ env.locals h (fun z => if z = x then some (.str ⟨#[c]⟩ u) else if z = tmp then q z else m₀ z) → News h₀ env.locals h [(I, oI), (D, listOf us.toArray k)] →
      wpAny (model prog w) A (execs body env) (LpPost h₀ env.locals I oI [] (fun m' nx => (∃ us' k', nx = [(D, listOf us'.toArray k')] ∧ IntsAre us' (xs ++ f c)) ∧ ∀ z, z ≠ x → z ≠ tmp → m' z = m₀ z) { s with heap := h, toks := tk } Q) E { s with heap := h, toks := tk })
    (done : ∀ (q : Str → Option Value) us k h tk, IntsAre us ((KStt.codes xt).flatMap f) →
      Fr h₀ env.locals h (fun z => if z = x then q z else if z = tmp then q z else m₀ z) → News h₀ env.locals h [(D, listOf us.toArray k)] → Q .next { s with heap := h, toks := tk }) :
    wpAny (model prog w) A (pyIter (.str xt tx)) (fun it s₂ => LoopAtV prog w A h₀ env x body Q E it s₂) E s := by
  refine lp_text (fun i m' nx => (∃ us k, nx = [(D, listOf us.toArray k)] ∧ IntsAre us (((KStt.codes xt).take i).flatMap f)) ∧ ∀ z, z ≠ x → z ≠ tmp → m' z = m₀ z) hh F (news := [(D, listOf #[] n₀)]) (fun p hp => (List.mem_singleton.mp hp) ▸ N _ hm) ⟨⟨[], n₀, rfl, by simpa using IntsAre.nil⟩, fun _ _ _ => rfl⟩ ?_ ?_
  · rintro i c u I oI m₁ nx h tk hc ⟨⟨us, k, rfl, hus⟩, hm₁⟩ hoff F₁ N₁
    have e1 : (fun z => if z = x then some (Value.str ⟨#[c]⟩ u) else m₁ z) = fun z => if z = x then some (Value.str ⟨#[c]⟩ u) else if z = tmp then m₁ z else m₀ z := by
      funext z
      by_cases h1 : z = x
      · simp only [if_pos h1]
      · simp only [if_neg h1]
        by_cases h2 : z = tmp
        · simp only [if_pos h2]
        · simp only [if_neg h2]; exact hm₁ z h1 h2
    rw [e1] at F₁
    have hlt : i < xt.cps.size := (Array.getElem?_eq_some_iff.mp hc).1
    have e2 : ((KStt.codes xt).take (i + 1)).flatMap f = ((KStt.codes xt).take i).flatMap f ++ f c := by
      rw [code_step hc, List.flatMap_append]; simp
    rw [e2]
    exact turn i c u m₁ us _ k I oI h tk hc hlt hus (hlen i) (hoff _ (.head _)) F₁ N₁
  · rintro m₁ nx h tk ⟨⟨us, k, rfl, hus⟩, hm₁⟩ F₁ N₁
    rw [show xt.cps.size = (KStt.codes xt).length from (KStt.codes_length xt).symm, List.take_length] at hus
    refine done m₁ us k h tk hus ?_ N₁
    have e1 : (fun z => if z = x then m₁ z else if z = tmp then m₁ z else m₀ z) = m₁ := by
      funext z
      by_cases h1 : z = x
      · simp only [if_pos h1]
      · simp only [if_neg h1]
        by_cases h2 : z = tmp
        · simp only [if_pos h2]
        · simp only [if_neg h2]; exact (hm₁ z h1 h2).symm
    rw [e1]; exact F₁
section
theorem units_ok {w : World} {loose : List Str} {mean : ExcName → Option Value} {mg mb : Str → Option Value} {x : Str} {t : Tok} (hx : x.cps.size ≤ 100) :
    Spec 8 w loose mean mg mb 28 [] [.str x t] (fun r own' => ∃ D vs n, r = .ref D ∧ own' = [(D, listOf vs.toArray n)] ∧ IntsAre vs ((KStt.codes x).flatMap unitsOf)) := by
  k_with_none
  k_with "own pick" => (first | exact Pick.head | (refine' Pick.tail ?ptq0; (case ptq0 => k_extra "own pick")))
  k_with "own picks" => (first | exact Picks.nil | (refine' Picks.cons ?ppq1 ?pqq1; (case ppq1 => k_extra "own pick"); (case pqq1 => k_extra "own picks")))
  k_with "own allin" => (with_unfolding_all ((try simp only [List.nil_append, List.cons_append]); k_allIn))
  k_with "own allin0" => (first | exact List.forall_mem_nil _ | k_extra "own allin")
  k_with "own same" => (intro z h1 h2; first | rfl | (simp [h1, h2]; done) | (simp_all; done))
  k_with "own same1" => (intro z h1; first | rfl | (simp [h1]; done) | (simp_all; done))
  k_with "own same3" => (intro z h1 h2 h3; first | rfl | (simp [h1, h2, h3]; done) | (simp_all; done))
  k_with "own for" => (k_here; (with_reducible rename Fr _ _ _ _ => lF'); (with_unfolding_all refine' For_invVF lF' ?k1q7 ?k2q7 ?_; (case k1q7 => exact rfl); (case k2q7 => exact rfl); k_whole))
  k_with "own apart" => (first | exact List.forall_mem_nil _ | (refine' apart_cons ?paq8 ?pbq8; (case paq8 => k_all); (case pbq8 => k_extra "own apart")))
  k_with "own after" => (intro N9 D9; (replace D9 := ApartL.of D9); (try simp only [ApartL, OffL, and_true] at D9); (try simp only [List.cons_append, List.nil_append] at N9); (try dsimp only); (try k_sweep); (try k_fold))
  k_with "own append" => (k_here; (try dsimp only [List.cons_append, List.nil_append]); (with_reducible show wpAny _ _ (call (Value.builtin _) [Value.ref _, Value.int _ _]) _ _ _); k_dflt (refine' app_ints ?k1q10 ?k2q10 ?k3q10 ?k4q10 ?k5q10 ?k6q10 ?_; (case k1q10 => k_asm); (case k2q10 => k_asm); (case k3q10 => k_updF); (case k4q10 => with_reducible assumption); (case k5q10 => with_reducible assumption); (case k6q10 => first | with_reducible assumption | omega); k_whole); intro us' h' hi' hl' F' N'; (try dsimp only at N'); (try k_sweep))
  k_with "own get" => (k_here; (try dsimp only [List.cons_append, List.nil_append]); (with_reducible show wpAny _ _ (call (Value.builtin "dict.get") [Value.ref _, Value.int _ _, Value.int _ _]) _ _ _); k_dflt (refine kdf_get2 (by k_tabat) ?_); intro _)
  k_with "own off" => ((try simp only [LCg.Off3, OffL, and_true]); k_extra "own offs")
  k_with "own offs" => (first | k_extra "own cj" | (with_reducible refine' And.intro ?oaq13 ?obq13; (case oaq13 => k_extra "own offs"); (case obq13 => k_extra "own offs")) | k_extra "own ne")
  k_with "own ne" => (first | k_extra "own ne0" | omega)
  k_with "own ne0" => (first | k_extra "own cj" | (with_reducible refine Ne.symm ?_; k_extra "own cj") | (with_reducible refine Nat.ne_of_lt ?_; k_extra "own cj") | (with_reducible refine Nat.ne_of_gt ?_; k_extra "own cj"))
  k_with "own cj" => (with_reducible first | assumption | exact cjl0 (by assumption) | exact cjr0 (by assumption) | exact cjl1 (by assumption) | exact cjr1 (by assumption) | exact cjl2 (by assumption) | exact cjr2 (by assumption) | exact cjl3 (by assumption) | exact cjr3 (by assumption) | exact cjl4 (by assumption) | exact cjr4 (by assumption) | exact cjl5 (by assumption) | exact cjr5 (by assumption) | exact cjl6 (by assumption) | exact cjr6 (by assumption) | exact cjl7 (by assumption) | exact cjr7 (by assumption) | exact cjl8 (by assumption) | exact cjr8 (by assumption) | exact cjl9 (by assumption) | exact cjr9 (by assumption) | exact cjl10 (by assumption) | exact cjr10 (by assumption) | exact cjl11 (by assumption) | exact cjr11 (by assumption))
  k_with "own kne" => (refine neN ?_; (try dsimp only); k_extra "own ne0")
  k_with "exec For Name Name cons nil" => k_extra "own for"
  k_with "pyIter str" => (k_here; (with_unfolding_all refine' tloop unitsOf (Str.ofString "code") ?Fq19 ?Nq19 ?mq19 ?bq19 rfl ?_ ?_; (case bq19 => intro i9; refine Nat.le_trans (flat_len _) ?_; rw [List.length_take, KStt.codes_length]; unfold PySem.Str.length; omega); (case Fq19 => k_asm); (case Nq19 => k_asm); (case mq19 => k_mem)); all_goals (first | (intro i' c' u' q' us' xs' k' I' oI' h' tk' hc' hlt' hi' he' hne' F' N'; (try clear lF'); k_fold) | (intro q' us' k' h' tk' hi' F' N'; (try clear lF'); (try dsimp only))))
  k_with "LpPost" => dsimp only [LpPost]
  k_with "call builtin:list.append" => k_extra "own append"
  k_with "LpEnd" => first | k_dflt (exact LpEnd.intro _ (by k_asm) ⟨⟨_, _, rfl, u_big (by assumption) (by with_reducible assumption)⟩, (by k_extra "own same")⟩ (by k_asm) (by k_memK) (by k_extra "own allin") (by k_all) (by k_extra "own allin0")) | k_dflt (exact LpEnd.intro _ (by k_asm) ⟨⟨_, _, rfl, u_small (by assumption) (by with_reducible assumption)⟩, (by k_extra "own same")⟩ (by k_asm) (by k_memK) (by k_extra "own allin") (by k_all) (by k_extra "own allin0"))
  w_on
  w_strict (refine' spec_of (binds := [(Str.ofString "text", .str x t)]) (by k_is) (by k_is) (fun s => BindsTo.of_eq rfl) (locs rfl) rfl rfl rfl (by decide) (by decide) ?_; intro dp un gd cn cs L a ccd cl outer base g L' h₁ gens drawn os tk Q E B hk F N X T hd hu hret A9; (try k_fold); k_steps; all_goals (first | exact hret _ _ _ _ _ (by assumption) (by assumption) ⟨_, _, _, rfl, rfl, by assumption⟩))
end

--deps: P08_iter Dev
/-- the codes that a row of units says -/
noncomputable def readU : List Int → List Int
  | [] => []
  | [u] => if 55296 ≤ u ∧ u < 57344 then [65533] else [u]
  | u :: v :: r => if 55296 ≤ u ∧ u < 56320 ∧ 56320 ≤ v ∧ v < 57344 then (65536 + (u - 55296) * 1024 + v - 56320) :: readU r
    else (if 55296 ≤ u ∧ u < 57344 then 65533 else u) :: readU (v :: r)
noncomputable def RdSt (xs : List Int) (i : Int) (done : List Int) : Prop := 0 ≤ i ∧ i ≤ (xs.length : Int) ∧ done ++ readU (xs.drop i.toNat) = readU xs ∧ (done.length : Int) ≤ i
theorem drop_at {xs : List Int} {i : Int} (h0 : 0 ≤ i) (h1 : i < (xs.length : Int)) : xs.drop i.toNat = xs.getD i.toNat 0 :: xs.drop (i + 1).toNat := by
  have h2 : i.toNat < xs.length := by omega
  rw [show (i + 1).toNat = i.toNat + 1 by omega, List.drop_eq_getElem_cons h2]
  simp [List.getElem?_eq_getElem h2]
theorem drop_end {xs : List Int} {i : Int} (h1 : (xs.length : Int) ≤ i) : xs.drop i.toNat = [] := List.drop_eq_nil_of_le (by omega)
theorem rd_pair {xs done : List Int} {i : Int} (S : RdSt xs i done) (h1 : i + 1 < (xs.length : Int)) (a : 55296 ≤ xs.getD i.toNat 0) (b : xs.getD i.toNat 0 < 56320) (c : 56320 ≤ xs.getD (i + 1).toNat 0) (d : xs.getD (i + 1).toNat 0 < 57344) :
    RdSt xs (i + 1 + 1) (done ++ [65536 + (xs.getD i.toNat 0 - 55296) * 1024 + xs.getD (i + 1).toNat 0 - 56320]) := by
  obtain ⟨h0, _, h2, h3⟩ := S
  refine ⟨by omega, by omega, ?_, by simp only [List.length_append, List.length_singleton]; omega⟩
  rw [← h2, drop_at h0 (by omega), drop_at (i := i + 1) (by omega) h1, readU, if_pos ⟨a, b, c, d⟩, List.append_assoc]
  rfl
theorem rd_one {xs done : List Int} {i : Int} (S : RdSt xs i done) (h1 : i < (xs.length : Int)) (hn : i + 1 < (xs.length : Int) → ¬ (55296 ≤ xs.getD i.toNat 0 ∧ xs.getD i.toNat 0 < 56320 ∧ 56320 ≤ xs.getD (i + 1).toNat 0 ∧ xs.getD (i + 1).toNat 0 < 57344)) :
    RdSt xs (i + 1) (done ++ [if 55296 ≤ xs.getD i.toNat 0 ∧ xs.getD i.toNat 0 < 57344 then 65533 else xs.getD i.toNat 0]) := by
  obtain ⟨h0, _, h2, h3⟩ := S
  refine ⟨by omega, by omega, ?_, by simp only [List.length_append, List.length_singleton]; omega⟩
  rw [← h2, drop_at h0 h1, List.append_assoc]
  congr 1
  by_cases h4 : i + 1 < (xs.length : Int)
  · rw [drop_at (i := i + 1) (by omega) h4, readU, if_neg (hn h4)]; rfl
  · rw [drop_end (by omega)]
    simp only [readU]
    split <;> rfl
theorem rd_half {xs done : List Int} {i : Int} (S : RdSt xs i done) (h1 : i < (xs.length : Int)) (a : 55296 ≤ xs.getD i.toNat 0) (b : xs.getD i.toNat 0 < 57344)
    (hn : i + 1 < (xs.length : Int) → ¬ (55296 ≤ xs.getD i.toNat 0 ∧ xs.getD i.toNat 0 < 56320 ∧ 56320 ≤ xs.getD (i + 1).toNat 0 ∧ xs.getD (i + 1).toNat 0 < 57344)) : RdSt xs (i + 1) (done ++ [65533]) := by
  have := rd_one S h1 hn
  rwa [if_pos ⟨a, b⟩] at this
theorem rd_unit {xs done : List Int} {i : Int} (S : RdSt xs i done) (h1 : i < (xs.length : Int)) (a : ¬ (55296 ≤ xs.getD i.toNat 0 ∧ xs.getD i.toNat 0 < 57344)) : RdSt xs (i + 1) (done ++ [xs.getD i.toNat 0]) := by
  have := rd_one S h1 fun _ h => a ⟨h.1, by omega⟩
  rwa [if_neg a] at this
theorem rd_end {xs done : List Int} {i : Int} (S : RdSt xs i done) (h1 : ¬ i < (xs.length : Int)) : done = readU xs := by
  obtain ⟨h0, _, h2, h3⟩ := S
  rw [drop_end (by omega)] at h2
  simpa [readU] using h2
theorem strs_chS {us : List Value} {done : List Int} {c : Int} (h : StrsAre us (done.map chS ++ [⟨#[c.toNat]⟩])) : StrsAre us ((done ++ [c]).map chS) := by
  rw [List.map_append]; exact h
theorem toNat_lt {i : Int} {n : Nat} (h0 : 0 ≤ i) (h1 : i < (n : Int)) : i.toNat < n := by omega
theorem getD_in {xs : List Int} {P : Int → Prop} (h : ∀ x ∈ xs, P x) {k : Nat} (hk : k < xs.length) : P (xs.getD k 0) := by
  rw [List.getD_eq_getElem?_getD, List.getElem?_eq_getElem hk]
  exact h _ (List.getElem_mem _)
/-- the while -/
noncomputable def RdR (xs : List Int) (l D : Addr) (ol : Obj) (m₀ : Str → Option Value) (n : Nat) (m : Str → Option Value) (nx : List (Addr × Obj)) : Prop :=
  ∃ i t done us k, nx = [(D, listOf us.toArray k), (l, ol)] ∧ n = ((xs.length : Int) - i).toNat ∧ RdSt xs i done ∧ StrsAre us (done.map chS) ∧ m (Str.ofString "at") = some (.int i t) ∧ ∀ z, z ≠ Str.ofString "at" → z ≠ Str.ofString "unit" → m z = m₀ z
theorem rd_while {prog : Program} {w : World} {A : Around} {E : Value → Shared → Prop} {Q : Flow → Shared → Prop} {s : Shared} {env : Env} {h₀ : Heap} {L : Addr} {test : PySem.Expr} {body : List Stmt} {pos : Pos} {m₀ : Str → Option Value} {news : List (Addr × Obj)} {xs : List Int} {l D : Addr} {vs : List Value} {nn k₀ : Nat} {t₀ : Tok}
    (F : Fr h₀ L s.heap m₀) (N : News h₀ L s.heap news) (hn : ∀ p ∈ [(D, listOf #[] k₀), (l, listOf vs.toArray nn)], p ∈ news) (hi : IntsAre vs xs) (h0 : m₀ (Str.ofString "at") = some (.int 0 t₀))
    (turn : ∀ i t done us k (q : Str → Option Value) h tk, RdSt xs i done → done.length ≤ xs.length → StrsAre us (done.map chS) → 0 ≤ i → i ≤ (xs.length : Int) → (done.map chS).length ≤ xs.length →
      Fr h₀ L h (fun z => if z = Str.ofString "at" then some (.int i t) else if z = Str.ofString "unit" then q z else m₀ z) → News h₀ L h [(D, listOf us.toArray k), (l, listOf vs.toArray nn)] →
      wpAny (model prog w) A (isTrue test env (eval test env)) (fun b s₂ => if b = true then wpAny (model prog w) A (execs body env) (WlPost h₀ L s (RdR xs l D (listOf vs.toArray nn) m₀) Q ((xs.length : Int) - i).toNat) E s₂ else Q .next s₂) E { s with heap := h, toks := tk })
    (hE : PassesOwn (model prog w) A env E := by passes_own) :
    wpAny (model prog w) A (exec (.While test body [] pos) env) Q E s := by
  refine wl_while (RdR xs l D (listOf vs.toArray nn) m₀) F (news := [(D, listOf #[] k₀), (l, listOf vs.toArray nn)]) (fun p hp => N p (hn p hp)) (n₀ := xs.length) ⟨0, t₀, [], [], k₀, rfl, by omega, ⟨Int.le_refl 0, by omega, rfl, Int.le_refl 0⟩, .nil, h0, fun _ _ _ => rfl⟩ ?_ hE
  rintro n m₁ nx h tk ⟨i, t, done, us, k, rfl, rfl, S, hus, ha, hm⟩ F₁ N₁
  have e1 : m₁ = fun z => if z = Str.ofString "at" then some (Value.int i t) else if z = Str.ofString "unit" then m₁ z else m₀ z := by
    funext z
    by_cases h1 : z = Str.ofString "at"
    · simp only [if_pos h1]; rw [h1]; exact ha
    · simp only [if_neg h1]
      by_cases h2 : z = Str.ofString "unit"
      · simp only [if_pos h2]
      · simp only [if_neg h2]; exact hm z h1 h2
  rw [e1] at F₁
  obtain ⟨h1, h2, h3, h4⟩ := id S
  exact turn i t done us k m₁ h tk S (by omega) hus h1 h2 (by rw [List.length_map]; omega) F₁ N₁
section
theorem read_ok {w : World} {loose : List Str} {mean : ExcName → Option Value} {mg mb : Str → Option Value} {l : Addr} {vs : List Value} {n : Nat} {xs : List Int} (hv : IntsAre vs xs) (hr : ∀ x ∈ xs, 0 ≤ x ∧ x < 65536) (hb : xs.length ≤ 1000) :
    Spec 8 w loose mean mg mb 35 [(l, listOf vs.toArray n)] [.ref l] (fun r own' => (∃ t, r = .str (KStt.txt (readU xs)) t) ∧ own' = [(l, listOf vs.toArray n)]) := by
  k_with_none
  k_with "own pick" => (first | exact Pick.head | (refine' Pick.tail ?ptq0; (case ptq0 => k_extra "own pick")))
  k_with "own picks" => (first | exact Picks.nil | (refine' Picks.cons ?ppq1 ?pqq1; (case ppq1 => k_extra "own pick"); (case pqq1 => k_extra "own picks")))
  k_with "own allin" => (with_unfolding_all ((try simp only [List.nil_append, List.cons_append]); k_allIn))
  k_with "own allin0" => (first | exact List.forall_mem_nil _ | k_extra "own allin")
  k_with "own same" => (intro z h1 h2; first | rfl | (simp [h1, h2]; done) | (simp_all; done))
  k_with "own same1" => (intro z h1; first | rfl | (simp [h1]; done) | (simp_all; done))
  k_with "own same3" => (intro z h1 h2 h3; first | rfl | (simp [h1, h2, h3]; done) | (simp_all; done))
  k_with "own for" => (k_here; (with_reducible rename Fr _ _ _ _ => lF'); (with_unfolding_all refine' For_invVF lF' ?k1q7 ?k2q7 ?_; (case k1q7 => exact rfl); (case k2q7 => exact rfl); k_whole))
  k_with "own apart" => (first | exact List.forall_mem_nil _ | (refine' apart_cons ?paq8 ?pbq8; (case paq8 => k_all); (case pbq8 => k_extra "own apart")))
  k_with "own after" => (intro N9 D9; (replace D9 := ApartL.of D9); (try simp only [ApartL, OffL, and_true] at D9); (try simp only [List.cons_append, List.nil_append] at N9); (try dsimp only); (try k_sweep); (try k_fold))
  k_with "own append" => (k_here; (try dsimp only [List.cons_append, List.nil_append]); (with_reducible show wpAny _ _ (call (Value.builtin _) [Value.ref _, Value.int _ _]) _ _ _); k_dflt (refine' app_ints ?k1q10 ?k2q10 ?k3q10 ?k4q10 ?k5q10 ?k6q10 ?_; (case k1q10 => k_asm); (case k2q10 => k_asm); (case k3q10 => k_updF); (case k4q10 => with_reducible assumption); (case k5q10 => with_reducible assumption); (case k6q10 => first | with_reducible assumption | omega); k_whole); intro us' h' hi' hl' F' N'; (try dsimp only at N'); (try k_sweep))
  k_with "own get" => (k_here; (try dsimp only [List.cons_append, List.nil_append]); (with_reducible show wpAny _ _ (call (Value.builtin "dict.get") [Value.ref _, Value.int _ _, Value.int _ _]) _ _ _); k_dflt (refine kdf_get2 (by k_tabat) ?_); intro _)
  k_with "own off" => ((try simp only [LCg.Off3, OffL, and_true]); k_extra "own offs")
  k_with "own offs" => (first | k_extra "own cj" | (with_reducible refine' And.intro ?oaq13 ?obq13; (case oaq13 => k_extra "own offs"); (case obq13 => k_extra "own offs")) | k_extra "own ne")
  k_with "own ne" => (first | k_extra "own ne0" | omega)
  k_with "own ne0" => (first | k_extra "own cj" | (with_reducible refine Ne.symm ?_; k_extra "own cj") | (with_reducible refine Nat.ne_of_lt ?_; k_extra "own cj") | (with_reducible refine Nat.ne_of_gt ?_; k_extra "own cj"))
  k_with "own cj" => (with_reducible first | assumption | exact cjl0 (by assumption) | exact cjr0 (by assumption) | exact cjl1 (by assumption) | exact cjr1 (by assumption) | exact cjl2 (by assumption) | exact cjr2 (by assumption) | exact cjl3 (by assumption) | exact cjr3 (by assumption) | exact cjl4 (by assumption) | exact cjr4 (by assumption) | exact cjl5 (by assumption) | exact cjr5 (by assumption) | exact cjl6 (by assumption) | exact cjr6 (by assumption) | exact cjl7 (by assumption) | exact cjr7 (by assumption) | exact cjl8 (by assumption) | exact cjr8 (by assumption) | exact cjl9 (by assumption) | exact cjr9 (by assumption) | exact cjl10 (by assumption) | exact cjr10 (by assumption) | exact cjl11 (by assumption) | exact cjr11 (by assumption))
  k_with "own kne" => (refine neN ?_; (try dsimp only); k_extra "own ne0")
  k_with "exec While Compare cons nil" => (k_here; (with_unfolding_all refine' rd_while ?Fq18 ?Nq18 ?nq18 ?iq18 ?zq18 ?_; (case Fq18 => k_asm); (case iq18 => with_reducible assumption); (case Nq18 => k_asm); (case nq18 => k_allIn); (case zq18 => rfl)); intro i' t' done' us' k' q' h' tk' hS' hd' hu' h0' hi' hd2' F' N'; k_fold)
  k_with "call builtin:len" => (k_here; (with_reducible show wpAny _ _ (call (Value.builtin "len") [Value.ref _]) _ _ _); k_dflt (refine' len_ints ?k1q19 ?k2q19 ?k3q19 ?k4q19 ?_; (case k1q19 => k_asm); (case k2q19 => k_mem); (case k3q19 => with_reducible assumption); (case k4q19 => omega); k_whole); intro _ _)
  k_with "subscriptTail" => (k_here; (with_reducible show wpAny _ _ (subscriptTail _ _ (Value.ref _) (Value.int _ _)) _ _ _); k_dflt (refine' item_ints ?k1q20 ?k2q20 ?k3q20 ?k4q20 ?k5q20 ?k6q20 ?_ ?k7q20; (case k1q20 => k_asm); (case k2q20 => k_mem); (case k3q20 => with_reducible assumption); (case k4q20 => omega); (case k5q20 => omega); (case k6q20 => omega); (case k7q20 => with_unfolding_all rfl); k_whole); intro _)
  k_with "call builtin:chr" => (k_here; (with_reducible show wpAny _ _ (call (Value.builtin "chr") [Value.int _ _]) _ _ _); k_dflt (refine' chr_of_range ?k1q21 ?k2q21 ?_; (case k1q21 => first | omega | ((rename (∀ k : Nat, k < _ → 0 ≤ _ ∧ _) => hgY); have hg := hgY _ (toNat_lt (by assumption) (by assumption)); omega)); (case k2q21 => first | omega | ((rename (∀ k : Nat, k < _ → 0 ≤ _ ∧ _) => hgY); have hg := hgY _ (toNat_lt (by assumption) (by assumption)); omega)); k_whole))
  k_with "call builtin:list.append" => (k_here; (try dsimp only [List.cons_append, List.nil_append]); (with_reducible show wpAny _ _ (call (Value.builtin _) [Value.ref _, Value.str _ _]) _ _ _); k_dflt (refine' app_strs ?k1q22 ?k2q22 ?k3q22 ?k4q22 ?k5q22 ?k6q22 ?_; (case k1q22 => k_asm); (case k2q22 => k_asm); (case k3q22 => k_updF); (case k4q22 => with_reducible assumption); (case k5q22 => with_reducible assumption); (case k6q22 => omega); k_whole); intro us' h' hi' hl' F' N'; (try dsimp only at N'); (try k_sweep))
  k_with "call builtin:str.join" => (k_here; (try dsimp only [List.cons_append, List.nil_append]); (with_reducible show wpAny _ _ (call (Value.builtin _) [Value.str _ _, Value.ref _]) _ _ _); k_dflt (refine' join_K ?k1q23 ?k2q23 ?k3q23 ?k4q23 ?_; (case k1q23 => k_asm); (case k2q23 => k_mem); (case k3q23 => with_reducible assumption); (case k4q23 => omega); k_whole); intro _ _)
  k_with "WlPost" => dsimp only [WlPost]
  k_with "WlEnd" => first | k_dflt (exact WlEnd.intro (by k_asm) ⟨_, _, _, _, _, rfl, rfl, rd_pair (by with_reducible assumption) (by omega) (by omega) (by omega) (by omega) (by omega), strs_chS (by with_reducible assumption), rfl, (by k_extra "own same")⟩ (by omega) (by k_asm) (by k_extra "own allin")) | k_dflt (exact WlEnd.intro (by k_asm) ⟨_, _, _, _, _, rfl, rfl, rd_half (by with_reducible assumption) (by omega) (by omega) (by omega) (by omega), strs_chS (by with_reducible assumption), rfl, (by k_extra "own same")⟩ (by omega) (by k_asm) (by k_extra "own allin")) | k_dflt (exact WlEnd.intro (by k_asm) ⟨_, _, _, _, _, rfl, rfl, rd_unit (by with_reducible assumption) (by omega) (by omega), strs_chS (by with_reducible assumption), rfl, (by k_extra "own same")⟩ (by omega) (by k_asm) (by k_extra "own allin"))
  have hgX : ∀ k : Nat, k < xs.length → 0 ≤ xs.getD k 0 ∧ xs.getD k 0 < 65536 := fun k hk => getD_in hr hk
  w_on
  w_strict (refine' spec_of (binds := [(Str.ofString "units", .ref l)]) (by k_is) (by k_is) (fun s => BindsTo.of_eq rfl) (locs rfl) rfl rfl rfl (by decide) (by decide) ?_; intro dp un gd cn cs L a ccd cl outer base g L' h₁ gens drawn os tk Q E B hk F N X T hd hu hret A9; (try k_fold); k_steps; exact hret _ _ _ _ _ (by assumption) (News.one (by assumption) (by k_memK)) ⟨⟨_, congrArg (fun c => Value.str (KStt.txt c) _) (rd_end (by assumption) (by assumption))⟩, rfl⟩)
end

--deps: P08_iter
noncomputable def stepKs (a c : Int) (n : Nat) : List Int := (List.range n).map fun (i : Nat) => a + (i : Int) * c
theorem stepKs_length (a c : Int) (n : Nat) : (stepKs a c n).length = n := by simp [stepKs]
theorem stepKs_at (a c : Int) {n i : Nat} (h : i < n) : (stepKs a c n)[i]? = some (a + (i : Int) * c) := by simp [stepKs, h]
/-! ### list comprehensions over any source -/
section
variable {prog : Program} {w : World} {A : Around} {E : Value → Shared → Prop} {s : Shared} {h₀ : Heap} {L : Addr} {m : Str → Option Value} {env : Env}
noncomputable def CSrc (prog : Program) (w : World) (A : Around) (h₀ : Heap) (L : Addr) (m : Str → Option Value) (env : Env) (elt : PySem.Expr) (x : Str) (scope : Scope) (cl : List (Str × Addr)) (Fin : Shared → List Value → List (Addr × Obj) → Prop) (E : Value → Shared → Prop) (xv : Value) (s₁ : Shared) : Prop :=
  wpAny (model prog w) A (pyIter xv) (fun it s₂ => ∃ (I : Addr) (fp : List Addr) (n : Nat) (P : Nat → Value → Prop) (St : Nat → Heap → Prop) (S : List (Addr × Obj) → Prop) (news : List (Addr × Obj)), it = .ref I ∧ Walks prog w A I fp [I] n P St ∧ n ≤ sizeLine ∧ (∀ i h, St i h → ∃ o, h.get? I = some o) ∧
    (∀ i h h' o nw, St i h → h.get? I = some o → h'.get? I = some o → (∀ b o, h₀.get? b = some o → h'.get? b = some o) → News h₀ L h' nw → S nw → St i h') ∧ St 0 s₂.heap ∧ (∀ b ∈ fp, b < s₂.heap.objs.size) ∧ Fr h₀ L s₂.heap m ∧ News h₀ L s₂.heap news ∧ L ≠ I ∧ h₀.get? I = none ∧
    (∀ p ∈ news, p.1 ≠ I) ∧ S news ∧ LCg.CompRest prog w A h₀ L m env elt x scope cl s₂ S P (Fin s₂) n 0 [] news) E s₁
theorem ListComp_M {elt iter : PySem.Expr} {x : Str} {px : Pos} {scope : Scope} {cl : List (Str × Addr)} {pos : Pos} {Q : Value → Shared → Prop} (F₀ : Fr h₀ L s.heap m)
    (hclos : closureFor scope env = pure cl) (hcell : ∀ y ∈ scope.names, y.2 ≠ .cell) (hkind : scope.kind = .function)
    (hnames : ∀ y ∈ scope.names, y.2 = .local → scope.names.lookup y.1 = some .local) (hx : scope.names.lookup x = some .local)
    (h : wpAny (model prog w) A (eval iter env) (CSrc prog w A h₀ L m env elt x scope cl (fun s₂ => LCg.FinE h₀ L m s₂ Q) E) E s)
    (hs : ∀ x, foldedSetIterable iter env x = pure x := by intro _; rfl) :
    wpAny (model prog w) A (eval (.ListComp elt [⟨.Name x px, iter, [], 0⟩] scope pos) env) Q E s := by
  rw [eval_ListComp]
  refine wpAny_comprehension_free (use := none) rfl hs hclos hkind hnames (wpAny_mono h (fun xv s₁ h₁ => ?_) fun _ _ e => e)
  refine wpAny_mono h₁ (fun it s₂ h₂ => ?_) fun _ _ e => e
  obtain ⟨I, fp, n, P, St, S, news, rfl, W, hsz, hIo, hSt, hst, hfp, F, N, hIL, hI₀, off, hS, R⟩ := h₂
  refine LCg.block_U W hsz hIo hSt hcell hkind hx hst hfp F N hIL hI₀ off hS R ?_
  intro D C h' tk m' ys news' F' N' o1 hn hC₀ hD₀ hCL hDL hCD offC fin
  refine ⟨m', hn, fun h'' hs'' => fin D h'' tk (F'.change hs'' hCL hC₀) (fun p hp => ?_) o1⟩
  refine ⟨hs''.extBut _ _ ?_ (N' p hp).1, (N' p hp).2⟩
  rcases List.mem_cons.mp hp with rfl | hp
  · exact Ne.symm hCD
  · exact offC p hp
theorem Assign_ListComp_M {elt iter : PySem.Expr} {x y : Str} {px py : Pos} {scope : Scope} {cl : List (Str × Addr)} {pos spos : Pos} {Q : Flow → Shared → Prop} (F₀ : Fr h₀ L s.heap m) (hLe : env.locals = L)
    (hsw : swapsWith (.ListComp elt [⟨.Name x px, iter, [], 0⟩] scope pos) (some (.Name y py)) spos.line env = pure true)
    (hclos : closureFor scope env = pure cl) (hcell : ∀ z ∈ scope.names, z.2 ≠ .cell) (hkind : scope.kind = .function)
    (hnames : ∀ z ∈ scope.names, z.2 = .local → scope.names.lookup z.1 = some .local) (hx : scope.names.lookup x = some .local)
    (hy : env.kindOf y = some .local) (hp : (env.scope.kind == .class || (env.scope.kind == .module && env.locals != env.globals)) = false)
    (h : wpAny (model prog w) A (eval iter env) (CSrc prog w A h₀ L m env elt x scope cl (fun s₂ => LCg.FinA h₀ L m s₂ y Q) E) E s)
    (hs : ∀ x, foldedSetIterable iter env x = pure x := by intro _; rfl) :
    wpAny (model prog w) A (exec (.Assign [.Name y py] (.ListComp elt [⟨.Name x px, iter, [], 0⟩] scope pos) spos) env) Q E s := by
  subst hLe
  rw [exec_Assign_Name_used _ _ _ _ hsw]
  refine wpAny_bind (wpAny_standAt (wpAny_bind ?_))
  show wpAny _ A (do let _ ← comprehension (.ListComp elt [⟨.Name x px, iter, [], 0⟩] scope pos) scope env _ (newList []) false (eval iter env) (some (assign (.Name y py) env))) _ _ s
  refine wpAny_bind (wpAny_mono (wpAny_comprehension_free (use := some (assign (.Name y py) env)) (Q := fun _ s' => Q .next s') rfl hs hclos hkind hnames
    (wpAny_mono h (fun xv s₁ h₁ => ?_) fun _ _ e => e)) (fun _ s' hq => wpAny_pure (wpAny_pure hq)) fun _ _ e => e)
  refine wpAny_mono h₁ (fun it s₂ h₂ => ?_) fun _ _ e => e
  obtain ⟨I, fp, n, P, St, S, news, rfl, W, hsz, hIo, hSt, hst, hfp, F, N, hIL, hI₀, off, hS, R⟩ := h₂
  refine LCg.block_U W hsz hIo hSt hcell hkind hx hst hfp F N hIL hI₀ off hS R ?_
  intro D C h' tk m' ys news' F' N' o1 hn hC₀ hD₀ hCL hDL hCD offC fin
  show wpAny _ A (assign (.Name y py) env (.ref D)) _ _ _
  refine wpAny_assign_Name (wpAny_storeName_local hy F'.ns (fun h₂ hn₂ hs₂ => ?_) hp)
  have hL₀ : h₀.get? env.locals = none := Heap.get?_none_of_le F'.above
  have F₂ : Fr h₀ env.locals h₂ (fun z => if z = y then some (.ref D) else m z) := ⟨hn₂, fun b o e => hs₂.extBut b o (fun q => by rw [q, hL₀] at e; cases e) (F'.keep b o e), F'.above⟩
  refine ⟨m', hn.sameBut hs₂ hCL, fun h'' hs'' => fin D h'' _ (F₂.change hs'' hCL hC₀) (fun p hp => ?_) o1⟩
  have z : h₂.get? p.1 = some p.2 := hs₂.extBut _ _ (N' p hp).2.1 (N' p hp).1
  refine ⟨hs''.extBut _ _ ?_ z, (N' p hp).2⟩
  rcases List.mem_cons.mp hp with rfl | hp
  · exact Ne.symm hCD
  · exact offC p hp

/-- each item by its source -/
inductive Each {α : Type} (res : α → Value → Prop) : List α → List Value → Prop
  | nil : Each res [] []
  | cons {a v as vs} : res a v → Each res as vs → Each res (a :: as) (v :: vs)
theorem Each.append {α : Type} {res : α → Value → Prop} {as bs : List α} {vs us : List Value} (h : Each res as vs) (k : Each res bs us) : Each res (as ++ bs) (vs ++ us) := by
  induction h with
  | nil => exact k
  | cons r _ ih => exact .cons r ih
theorem Each.ints {α : Type} {g : α → Int} {as : List α} {vs : List Value} (h : Each (fun a v => ∃ t, v = .int (g a) t) as vs) : IntsAre vs (as.map g) := by
  induction h with
  | nil => exact .nil
  | cons r _ ih => obtain ⟨t, rfl⟩ := r; exact .cons _ t ih
theorem Each.strs {α : Type} {g : α → Str} {as : List α} {vs : List Value} (h : Each (fun a v => ∃ t, v = .str (g a) t) as vs) : StrsAre vs (as.map g) := by
  induction h with
  | nil => exact .nil
  | cons r _ ih => obtain ⟨t, rfl⟩ := r; exact .cons _ t ih
theorem Each.bools {α : Type} {g : α → Bool} {as : List α} {vs : List Value} (h : Each (fun a v => v = .bool (g a)) as vs) : vs = (as.map g).map Value.bool := by
  induction h with
  | nil => rfl
  | cons r _ ih => rw [r, ih]; rfl

variable {elt : PySem.Expr} {x : Str} {scope : Scope} {cl : List (Str × Addr)} {S : List (Addr × Obj) → Prop} {P : Nat → Value → Prop} {news : List (Addr × Obj)}
noncomputable def CEl (news : List (Addr × Obj)) (r : Value → Prop) (y : Value) (news' : List (Addr × Obj)) : Prop := news' = news ∧ r y
/-- the turns -/
noncomputable def CTurn (prog : Program) (w : World) (A : Around) (h₀ : Heap) (L : Addr) (m : Str → Option Value) (env : Env) (elt : PySem.Expr) (x : Str) (scope : Scope) (cl : List (Str × Addr)) (s : Shared) (S : List (Addr × Obj) → Prop) (news : List (Addr × Obj)) (v : Value) (r : Value → Prop) : Prop :=
  ∀ I oI C oC D m₂ ys h tk (E' : Value → Shared → Prop), LCg.NsObj oC m₂ → m₂ x = some v → Fr h₀ L h m → News h₀ L h ((I, oI) :: (C, oC) :: (D, LCg.lst ys) :: news) → LCg.Off3 I C D news → ((@Ne Nat I C) ∧ (@Ne Nat I D) ∧ (@Ne Nat C D)) →
    wpAny (model prog w) A (eval elt (compEnvC scope cl C env)) (LCg.CompEnd h₀ L m { s with heap := h, toks := tk } I oI C oC D (LCg.lst ys) S (fun y news' => CEl news r y news')) E' { s with heap := h, toks := tk }
theorem cr_map {α : Type} {as : List α} {n : Nat} {Fin : List Value → List (Addr × Obj) → Prop} (res : α → Value → Prop) (hn : as.length = n) (hP : ∀ i v, i < n → P i v → ∃ a, as[i]? = some a ∧ CTurn prog w A h₀ L m env elt x scope cl s S news v (res a))
    (fin : ∀ ys, Each res as ys → Fin ys news) : LCg.CompRest prog w A h₀ L m env elt x scope cl s S P Fin n 0 [] news := by
  have key : ∀ (j i : Nat) (ys : List Value), i + j = n → Each res (as.take i) ys → LCg.CompRest prog w A h₀ L m env elt x scope cl s S P Fin j i ys news := by
    intro j
    induction j with
    | zero =>
      intro i ys hi hy
      have e : i = as.length := by omega
      subst e
      rw [List.take_length] at hy
      exact LCg.CompRest.zero (fin ys hy)
    | succ j ih =>
      intro i ys hi hy
      refine LCg.CompRest.succ ?_
      intro v I oI C oC D m₂ h tk E' hv hC hx F N off ne
      obtain ⟨a, ha, T⟩ := hP i v (by omega) hv
      refine wpAny_mono (T I oI C oC D m₂ ys h tk E' hC hx F N off ne) (fun y s₂ hq => ?_) fun _ _ e => e
      obtain ⟨h', tk', nw, e, F', N', off', hS, hn', hy'⟩ := hq
      rw [hn'] at N' off' hS
      refine ⟨h', tk', news, e, F', N', off', hS, ?_⟩
      refine ih (i + 1) _ (by omega) ?_
      rw [List.take_add_one, ha, Option.toList_some]
      exact hy.append (.cons hy' .nil)
  exact key n 0 [] (by omega) (by simp only [List.take_zero]; exact .nil)

variable {Fin : Shared → List Value → List (Addr × Obj) → Prop} {s₁ : Shared}
theorem CSrc.text {xt : Str} {tx : Tok} (res : Int → Value → Prop) (hh : A.handled = none) (F : Fr h₀ L s₁.heap m) (N : News h₀ L s₁.heap news) (hsz : xt.cps.size ≤ 100000)
    (turn : ∀ (c : Nat) u g, (c : Int) ∈ KStt.codes xt → CTurn prog w A h₀ L m env elt x scope cl { s₁ with heap := g } (fun _ => True) news (.str ⟨#[c]⟩ u) (res c))
    (fin : ∀ ys g, Each res (KStt.codes xt) ys → Fin { s₁ with heap := g } ys news) : CSrc prog w A h₀ L m env elt x scope cl Fin E (.str xt tx) s₁ := by
  have key : ∀ ty : String, (∀ I : Addr, Walks prog w A I [I] [I] xt.cps.size (SignAt xt) (fun i h => h.IsStrIter I ty xt tx i)) → _ := fun ty W =>
    show ∃ (I : Addr) (fp : List Addr) (n : Nat) (P : Nat → Value → Prop) (St : Nat → Heap → Prop) (S : List (Addr × Obj) → Prop) (news : List (Addr × Obj)), (Value.ref s₁.heap.objs.size) = .ref I ∧ Walks prog w A I fp [I] n P St ∧ n ≤ sizeLine ∧ (∀ i h, St i h → ∃ o, h.get? I = some o) ∧
      (∀ i h h' o nw, St i h → h.get? I = some o → h'.get? I = some o → (∀ b o, h₀.get? b = some o → h'.get? b = some o) → News h₀ L h' nw → S nw → St i h') ∧ St 0 (s₁.heap.push { cls := .type ty, data := .fields #[.str xt tx, .int 0 0] }) ∧ (∀ b ∈ fp, b < (s₁.heap.push { cls := .type ty, data := .fields #[.str xt tx, .int 0 0] }).objs.size) ∧ Fr h₀ L (s₁.heap.push { cls := .type ty, data := .fields #[.str xt tx, .int 0 0] }) m ∧ News h₀ L (s₁.heap.push { cls := .type ty, data := .fields #[.str xt tx, .int 0 0] }) news ∧ L ≠ I ∧ h₀.get? I = none ∧
      (∀ p ∈ news, p.1 ≠ I) ∧ S news ∧ LCg.CompRest prog w A h₀ L m env elt x scope cl { s₁ with heap := s₁.heap.push { cls := .type ty, data := .fields #[.str xt tx, .int 0 0] } } S P (Fin { s₁ with heap := s₁.heap.push { cls := .type ty, data := .fields #[.str xt tx, .int 0 0] } }) n 0 [] news from by
    refine ⟨s₁.heap.objs.size, _, _, _, _, (fun _ => True), news, rfl, W _, by rw [sizeLine_eq]; omega, ?_, ?_, ⟨_, Heap.get?_push_size _ rfl, rfl, rfl⟩, ?_, F.push _, (fun p hp => ⟨Heap.get?_push_of_some _ (N p hp).1, (N p hp).2⟩), Nat.ne_of_lt F.ns.lt, next_is_new F, (fun p hp => Nat.ne_of_lt (Heap.lt_size (N p hp).1)), trivial, ?_⟩
    · rintro i h ⟨o, ho, _⟩; exact ⟨o, ho⟩
    · rintro i h h' o nw ⟨o', ho', r⟩ e e' _ _ _
      rw [e] at ho'; cases ho'
      exact ⟨o, e', r⟩
    · intro b hb
      rw [List.mem_singleton.mp hb, Heap.size_push]; exact Nat.lt_succ_self _
    · refine cr_map res (KStt.codes_length xt) ?_ fun ys h => fin ys _ h
      rintro i v _ ⟨c, u, hc, rfl⟩
      exact ⟨_, KStt.code_at hc, turn c u _ (List.mem_of_getElem? (KStt.code_at hc))⟩
  unfold CSrc
  cases ha : xt.cps.all (· < 128)
  · exact wpAny_pyIter_wide ha (key "str_iterator" fun I => Walks.strWide hh I xt tx)
  · exact wpAny_pyIter_ascii ha (key "str_ascii_iterator" fun I => Walks.strAscii hh I xt tx)
theorem CSrc.bytes {b : Array UInt8} {ks : List Int} {tb : Tok} (res : Int → Value → Prop) (hk : KBw.bInts b = ks) (hh : A.handled = none) (F : Fr h₀ L s₁.heap m) (N : News h₀ L s₁.heap news) (hsz : ks.length ≤ 100000)
    (turn : ∀ (c : Int) u g, c ∈ ks → 0 ≤ c → c < 256 → CTurn prog w A h₀ L m env elt x scope cl { s₁ with heap := g } (fun _ => True) news (.int c u) (res c))
    (fin : ∀ ys g, Each res ks ys → Fin { s₁ with heap := g } ys news) : CSrc prog w A h₀ L m env elt x scope cl Fin E (.bytes b tb) s₁ := by
  subst hk
  unfold CSrc
  refine KBw.pyIter_bytes ⟨s₁.heap.objs.size, _, _, _, _, (fun _ => True), news, rfl, KBw.walks hh _ b tb, by rw [sizeLine_eq, ← KBw.ints_length]; omega, ?_, ?_, ⟨_, Heap.get?_push_size _ rfl, rfl, rfl⟩, ?_, F.push _, (fun p hp => ⟨Heap.get?_push_of_some _ (N p hp).1, (N p hp).2⟩), Nat.ne_of_lt F.ns.lt, next_is_new F, (fun p hp => Nat.ne_of_lt (Heap.lt_size (N p hp).1)), trivial, ?_⟩
  · rintro i h ⟨o, ho, _⟩; exact ⟨o, ho⟩
  · rintro i h h' o nw ⟨o', ho', r⟩ e e' _ _ _
    rw [e] at ho'; cases ho'
    exact ⟨o, e', r⟩
  · intro b hb
    rw [List.mem_singleton.mp hb]
    show _ < (s₁.heap.push _).objs.size
    rw [Heap.size_push]; exact Nat.lt_succ_self _
  · refine cr_map res (KBw.ints_length b) ?_ fun ys h => fin ys _ h
    rintro i v _ ⟨n, u, hn, rfl⟩
    have hn' := KBw.ints_get hn
    have hb := KBw.ints_in (List.mem_of_getElem? hn')
    exact ⟨_, hn', turn _ u _ (List.mem_of_getElem? hn') hb.1 hb.2⟩
theorem CSrc.range {r : Addr} {a b c : Int} {t u v : Tok} {n : Nat} (res : Int → Value → Prop) (hh : A.handled = none) (F : Fr h₀ L s₁.heap m) (N : News h₀ L s₁.heap news) (hr : IsRange s₁.heap r a b c t u v) (hsmall : Builtin.Range.small a b c = true) (hn : Builtin.Range.rangeSize a b c = (n : Int)) (hsz : n ≤ 100000)
    (turn : ∀ (i : Nat) u g, i < n → CTurn prog w A h₀ L m env elt x scope cl { s₁ with heap := g } (fun _ => True) news (.int (a + (i : Int) * c) u) (res (a + (i : Int) * c)))
    (fin : ∀ ys g, Each res (stepKs a c n) ys → Fin { s₁ with heap := g } ys news) : CSrc prog w A h₀ L m env elt x scope cl Fin E (.ref r) s₁ := by
  unfold CSrc
  refine wpAny_pyIter_range hr hsmall ⟨s₁.heap.objs.size, _, n, _, _, (fun _ => True), news, rfl, (Walks.range hh _ a c n).bound, by rw [sizeLine_eq]; omega, ?_, ?_, (by show IsRangeIter _ _ _ _ _; rw [hn]; simpa using Heap.get?_push_size _ rfl), ?_, F.push _, (fun p hp => ⟨Heap.get?_push_of_some _ (N p hp).1, (N p hp).2⟩), Nat.ne_of_lt F.ns.lt, next_is_new F, (fun p hp => Nat.ne_of_lt (Heap.lt_size (N p hp).1)), trivial, ?_⟩
  · intro i h st; exact ⟨_, st⟩
  · intro i h h' o nw st e e' _ _ _
    have st' : h.get? _ = some _ := st
    show h'.get? _ = some _
    rw [e', ← e]; exact st'
  · intro b hb
    rw [List.mem_singleton.mp hb]
    show _ < (s₁.heap.push _).objs.size
    rw [Heap.size_push]; exact Nat.lt_succ_self _
  · refine cr_map res (stepKs_length a c n) ?_ fun ys h => fin ys _ h
    rintro i v _ ⟨hi, t', rfl⟩
    exact ⟨a + (i : Int) * c, stepKs_at a c hi, turn i t' _ hi⟩
theorem CSrc.list {l : Addr} {vs : List Value} {ns : List Int} {k : Nat} (res : Int → Value → Prop) (hh : A.handled = none) (F : Fr h₀ L s₁.heap m) (N : News h₀ L s₁.heap news) (hm : (l, listOf vs.toArray k) ∈ news) (hi : IntsAre vs ns) (hsz : ns.length ≤ 100000)
    (turn : ∀ (c : Int) u g, c ∈ ns → CTurn prog w A h₀ L m env elt x scope cl { s₁ with heap := g } (fun nw => (l, listOf vs.toArray k) ∈ nw) news (.int c u) (res c))
    (fin : ∀ ys g, Each res ns ys → Fin { s₁ with heap := g } ys news) : CSrc prog w A h₀ L m env elt x scope cl Fin E (.ref l) s₁ := by
  unfold CSrc
  have hol : s₁.heap.get? l = some (listOf vs.toArray k) := (N _ hm).1
  have hls : s₁.heap.IsList l vs.toArray := ⟨_, hol, rfl, k, rfl⟩
  have hlt : l < s₁.heap.objs.size := Heap.lt_size hol
  refine wpAny_pyIter_list hls ⟨s₁.heap.objs.size, _, vs.toArray.size, _, _, (fun nw => (l, listOf vs.toArray k) ∈ nw), news, rfl, Walks.list hh _ l (Nat.ne_of_lt hlt) vs.toArray, by rw [sizeLine_eq, List.size_toArray, hi.length]; omega, ?_, ?_, ⟨⟨_, Heap.get?_push_size _ rfl, rfl, rfl⟩, hls.at fun o e => Heap.get?_push_of_some _ e⟩, ?_, F.push _, (fun p hp => ⟨Heap.get?_push_of_some _ (N p hp).1, (N p hp).2⟩), Nat.ne_of_lt F.ns.lt, next_is_new F, (fun p hp => Nat.ne_of_lt (Heap.lt_size (N p hp).1)), hm, ?_⟩
  · rintro i h ⟨⟨o, ho, _⟩, _⟩; exact ⟨o, ho⟩
  · rintro i h h' o nw ⟨⟨o', ho', r⟩, hl⟩ e e' _ N' S'
    rw [e] at ho'; cases ho'
    exact ⟨⟨o, e', r⟩, ⟨_, (N' _ S').1, rfl, k, rfl⟩⟩
  · intro b hb
    show b < (s₁.heap.push _).objs.size
    rw [Heap.size_push]
    rcases List.mem_cons.mp hb with rfl | hb
    · exact Nat.lt_succ_self _
    · rw [List.mem_singleton.mp hb]; exact Nat.lt_succ_of_lt hlt
  · refine cr_map res (by rw [List.size_toArray]; exact hi.length.symm) ?_ fun ys h => fin ys _ h
    intro i v _ hv
    obtain ⟨n, t, rfl, hn⟩ := IntsAre.at hi i v (by simpa using hv)
    exact ⟨n, hn, turn n t _ (List.mem_of_getElem? hn)⟩
end

--deps: P11_comp P07_signs P10_read P09_units
noncomputable def startsB (b c : Array UInt8) : Bool :=
  if ((Builtin.Bytes.window b.size none none).2 - (Builtin.Bytes.window b.size none none).1 < c.size) then false else b.extract (Builtin.Bytes.window b.size none none).1.toNat ((Builtin.Bytes.window b.size none none).1.toNat + c.size) == c
theorem starts_tree (b c : Array UInt8) (t u : Tok) : Builtin.«bytes.startswith» ⟨[.bytes b t, .bytes c u], []⟩ = ret (Value.bool (startsB b c)) := by kernel_rfl
theorem gives_starts (b c : Array UInt8) (t u : Tok) : Gives (Builtin.«bytes.startswith» ⟨[.bytes b t, .bytes c u], []⟩) (.val (.bool (startsB b c))) := .of_eq (starts_tree b c t u)
theorem uints_inj {a b : List UInt8} (h : (a.map fun c => ((c.toNat : Nat) : Int)) = b.map fun c => ((c.toNat : Nat) : Int)) : a = b := by
  induction a generalizing b with
  | nil => cases b with
    | nil => rfl
    | cons y r => simp at h
  | cons x l ih => cases b with
    | nil => simp at h
    | cons y r =>
      simp only [List.map_cons, List.cons.injEq] at h
      have h1 : x.toNat = y.toNat := by omega
      rw [UInt8.toNat_inj.mp h1, ih h.2]
theorem bInts_inj {b c : Array UInt8} (h : KBw.bInts b = KBw.bInts c) : b = c := Array.toList_inj.mp (uints_inj h)
theorem startsB_mark {b : Array UInt8} {ks : List Int} (hk : KBw.bInts b = ks) : startsB b #[254, 255] = decide (ks.take 2 = [254, 255]) := by
  subst hk
  unfold startsB
  have e : Builtin.Bytes.window b.size none none = ((0 : Int), (b.size : Int)) := by
    unfold Builtin.Bytes.window
    simp
    split <;> omega
  rw [e]
  dsimp only
  have e1 : ((#[254, 255] : Array UInt8).size : Int) = 2 := rfl
  have e2 : (#[254, 255] : Array UInt8).size = 2 := rfl
  rw [e1]
  have e3 : KBw.bInts (b.extract 0 2) = (KBw.bInts b).take 2 := by
    unfold KBw.bInts
    simp
  by_cases h : (b.size : Int) - 0 < 2
  · rw [if_pos h]
    symm
    refine decide_eq_false fun q => ?_
    have := congrArg List.length q
    rw [List.length_take, KBw.ints_length] at this
    simp at this
    omega
  · rw [if_neg h, e2]
    show (b.extract 0 2 == #[254, 255]) = _
    by_cases q : (KBw.bInts b).take 2 = [254, 255]
    · rw [decide_eq_true q]
      exact beq_iff_eq.mpr (bInts_inj (by rw [e3, q]; rfl))
    · rw [decide_eq_false q]
      refine beq_eq_false_iff_ne.mpr fun e => q ?_
      rw [← e3, e]; rfl
section
variable {prog : Program} {w : World} {A : Around} {E : Value → Shared → Prop} {s : Shared} {b : Array UInt8} {t u : Tok}
theorem method_starts {M : Model} {pl : Sem Bool} {Q : Value × List Value → Shared → Prop} (h : Q (.builtin "bytes.startswith", [.bytes b t]) s) : wpAny M A (getMethod (.bytes b t) "startswith" pl) Q E s := by
  with_reducible exact KBd.method_of (Value.bytes b t) (typeIs_bytes _ _ _) FB.slot_bytes_startswith FB.type_bytes_startswith KBd.noRef h
theorem call_starts {ks : List Int} {Q : Value → Shared → Prop} (hk : KBw.bInts b = ks) (h : Q (.bool (decide (ks.take 2 = [254, 255]))) s) : wpAny (model prog w) A (call (.builtin "bytes.startswith") [.bytes b t, .bytes #[254, 255] u]) Q E s :=
  call_meets FB.slot_bytes_startswith (typeIs_bytes _ _ _) FB.entry_bytes_startswith (FB.args_bytes_startswith_2 _ _) (gives_starts b _ t u).meets (show (Made.val _).post _ s from by rw [startsB_mark hk]; exact h)
end
/-! ### texts by their codes -/
theorem txt_app (a b : List Int) : KStt.txt a ++ KStt.txt b = KStt.txt (a ++ b) := by
  refine PySem.Str.ext' (Array.toList_inj.mp ?_)
  simp [PySem.Str.cps_append, KStt.txt]
theorem codes_txt {l : List Int} (h : ∀ c ∈ l, 0 ≤ c) : KStt.codes (KStt.txt l) = l := by
  unfold KStt.codes KStt.txt
  simp only [List.map_map]
  exact (List.map_congr_left (g := _root_.id) fun c hc => Int.toNat_of_nonneg (h c hc)).trans (List.map_id _)
theorem txt_cps (l : List Int) : (KStt.txt l).cps = (l.map Int.toNat).toArray := rfl
theorem txt_size (l : List Int) : (KStt.txt l).cps.size = l.length := by rw [txt_cps]; simp
theorem Each.chs {f : Int → Int} {ks : List Int} {ys : List Value} (h : Each (fun c v => ∃ t, v = .str (chS (f c)) t) ks ys) : StrsAre ys ((ks.map f).map chS) := by
  rw [List.map_map]; exact h.strs
/-! ### pairs of octets -/
noncomputable def pairsU : List Int → List Int
  | a :: b :: r => (a * 256 + b) :: pairsU r
  | _ => []
theorem pairsU_len : ∀ l : List Int, (pairsU l).length = l.length / 2
  | [] => rfl
  | [_] => by simp [pairsU]
  | a :: b :: r => by
    have := pairsU_len r
    simp only [pairsU, List.length_cons, this]
    omega
theorem pairsU_in : ∀ {l : List Int}, (∀ k ∈ l, 0 ≤ k ∧ k < 256) → ∀ u ∈ pairsU l, 0 ≤ u ∧ u < 65536
  | [], _, u, hu => nomatch hu
  | [_], _, u, hu => nomatch hu
  | a :: b :: r, h, u, hu => by
    have ha := h a (.head _)
    have hb := h b (.tail _ (.head _))
    rcases List.mem_cons.mp hu with rfl | hu
    · omega
    · exact pairsU_in (fun k hk => h k (.tail _ (.tail _ hk))) u hu
theorem pairsU_steps (f : Int → Int → Int) (hf : ∀ a b, f a b = a * 256 + b) : ∀ (n : Nat) (l : List Int) (p : List Int), l.length / 2 = n → (List.range n).map (fun (i : Nat) => f ((p ++ l).getD (p.length + 2 * i) 0) ((p ++ l).getD (p.length + 2 * i + 1) 0)) = pairsU l
  | 0, l, p, h => by
    match l, h with
    | [], _ => rfl
    | [_], _ => rfl
    | _ :: _ :: _, h => simp at h; omega
  | n + 1, l, p, h => by
    match l, h with
    | [], h => simp at h
    | [_], h => simp at h
    | a :: b :: r, h =>
      have ih := pairsU_steps f hf n r (p ++ [a, b]) (by simp at h; omega)
      rw [List.range_succ_eq_map, List.map_cons, pairsU, List.map_map]
      congr 1
      · rw [hf]
        simp [List.getD_eq_getElem?_getD]
      · rw [← ih]
        refine List.map_congr_left fun i _ => ?_
        simp only [Function.comp, List.append_assoc, List.length_append, List.length_cons, List.length_nil, List.cons_append, List.nil_append]
        rw [show p.length + 2 * i.succ = p.length + (0 + 1 + 1) + 2 * i by omega]
theorem pairs_of {ks : List Int} (h : 2 ≤ ks.length) : (stepKs 2 2 ((ks.length - 2) / 2)).map (fun at' => ks.getD at'.toNat 0 * 256 + ks.getD (at' + 1).toNat 0) = pairsU (ks.drop 2) := by
  rw [← pairsU_steps (fun a b => a * 256 + b) (fun _ _ => rfl) ((ks.length - 2) / 2) (ks.drop 2) (ks.take 2) (by rw [List.length_drop]), List.take_append_drop, List.length_take]
  unfold stepKs
  rw [List.map_map]
  refine List.map_congr_left fun i _ => ?_
  show ks.getD ((2 : Int) + (i : Int) * 2).toNat 0 * 256 + ks.getD ((2 : Int) + (i : Int) * 2 + 1).toNat 0 = _
  rw [show ((2 : Int) + (i : Int) * 2).toNat = min 2 ks.length + 2 * i by omega, show ((2 : Int) + (i : Int) * 2 + 1).toNat = min 2 ks.length + 2 * i + 1 by omega]
theorem range_pairs {n : Nat} (h : 2 ≤ n) : Builtin.Range.rangeSize 2 ((n : Int) - 1) 2 = (((n - 2) / 2 : Nat) : Int) := by
  unfold Builtin.Range.rangeSize
  rw [if_pos (by decide)]
  split <;> omega
theorem small_pairs {n : Nat} (h2 : 2 ≤ n) (h : n ≤ 1000) : Builtin.Range.small 2 ((n : Int) - 1) 2 = true := by
  unfold Builtin.Range.small
  rw [range_pairs h2]
  simp only [Builtin.Range.rangeFitsLong, Bool.and_eq_true, Bool.or_eq_true, decide_eq_true_eq, beq_iff_eq, show (2 : Int) > 0 by decide, if_true]
  omega
/-- what text_of yields -/
noncomputable def textC (ks : List Int) : List Int :=
  if ks.take 2 = [254, 255] then readU (pairsU (ks.drop 2)) ++ (if ks.length % 2 = 1 then [65533] else []) else ks.map fun k => sigC.getD k.toNat 0
theorem sigC_len : sigC.length = 256 := by decide +kernel
theorem sigC_in : ∀ k : Nat, k < 256 → 0 ≤ sigC.getD k 0 ∧ sigC.getD k 0 < 65536 := by rw [sigC_lit]; decide +kernel
theorem mark_len {ks : List Int} (e : ks.take 2 = [254, 255]) : 2 ≤ ks.length := by
  have := congrArg List.length e
  rw [List.length_take] at this
  simp at this
  omega
theorem CSrc.pairs {prog : Program} {w : World} {A : Around} {E : Value → Shared → Prop} {h₀ : Heap} {L : Addr} {m : Str → Option Value} {env : Env} {elt : PySem.Expr} {x : Str} {scope : Scope} {cl : List (Str × Addr)} {news : List (Addr × Obj)} {Fin : Shared → List Value → List (Addr × Obj) → Prop} {s₁ : Shared} {r : Addr} {t u v : Tok} {ks : List Int}
    (hr : IsRange s₁.heap r 2 ((ks.length : Int) - 1) 2 t u v) (hm : ks.take 2 = [254, 255]) (hb : ks.length ≤ 1000) (hh : A.handled = none) (F : Fr h₀ L s₁.heap m) (N : News h₀ L s₁.heap news)
    (turn : ∀ (i : Int) u g, 2 ≤ i → i + 1 < (ks.length : Int) → CTurn prog w A h₀ L m env elt x scope cl { s₁ with heap := g } (fun _ => True) news (.int i u) (fun v => ∃ t, v = .int (ks.getD i.toNat 0 * 256 + ks.getD (i + 1).toNat 0) t))
    (fin : ∀ ys g, IntsAre ys (pairsU (ks.drop 2)) → (pairsU (ks.drop 2)).length ≤ 1000 → Fin { s₁ with heap := g } ys news) : CSrc prog w A h₀ L m env elt x scope cl Fin E (.ref r) s₁ := by
  have h2 := mark_len hm
  refine CSrc.range (n := (ks.length - 2) / 2) (fun c v => ∃ t, v = .int (ks.getD c.toNat 0 * 256 + ks.getD (c + 1).toNat 0) t) hh F N hr (small_pairs h2 hb) (range_pairs h2) (by omega) (fun i u g hi => turn _ u g (by omega) (by omega)) fun ys g h => fin ys g ?_ ?_
  · have h' := h.ints
    rw [pairs_of h2] at h'
    exact h'
  · rw [pairsU_len]
    have : (ks.drop 2).length ≤ ks.length := by rw [List.length_drop]; omega
    omega
theorem textC_a {ks : List Int} (h : ¬ ks.take 2 = [254, 255]) : ks.map (fun k => sigC.getD k.toNat 0) = textC ks := by unfold textC; rw [if_neg h]
theorem readU_len : ∀ l : List Int, (readU l).length ≤ l.length
  | [] => Nat.le_refl _
  | [u] => by simp only [readU]; split <;> exact Nat.le_refl _
  | u :: v :: r => by
    have h1 := readU_len r
    have h2 := readU_len (v :: r)
    rw [readU]
    split
    · simp only [List.length_cons]; omega
    · simp only [List.length_cons] at h2 ⊢; omega
section
variable {prog : Program} {w : World} {A : Around} {E : Value → Shared → Prop} {s : Shared} {t u : Tok} {a : List Int} {Q : Value → Shared → Prop}
theorem add_txt (hb : a.length ≤ 100000) (h : ∀ t' tk, Q (.str (KStt.txt (a ++ [65533])) t') { s with toks := tk }) : wpAny (model prog w) A (binaryOp .Add (.str (KStt.txt a) t) (.str ⟨#[Int.toNat 65533]⟩ u)) Q E s := by
  refine PyProof.Rows.add_str (fun t' tk => ?_) (by rw [KStt.txt_length, sizeLine_eq]; show a.length + 1 ≤ _; omega)
  have := txt_app a [65533]
  rw [show (PySem.Str.mk #[Int.toNat 65533]) = KStt.txt [65533] from rfl, this]
  exact h t' tk
theorem add_none (hb : a.length ≤ 100000) (h : ∀ t' tk, Q (.str (KStt.txt (a ++ [])) t') { s with toks := tk }) : wpAny (model prog w) A (binaryOp .Add (.str (KStt.txt a) t) (.str (PySem.Str.ofString "") u)) Q E s := by
  refine PyProof.Rows.add_str (fun t' tk => ?_) (by rw [KStt.txt_length, sizeLine_eq, show (PySem.Str.ofString "").length = 0 from by decide +kernel]; omega)
  have := txt_app a []
  rw [show (PySem.Str.ofString "") = KStt.txt [] from by decide +kernel, this]
  exact h t' tk
end
theorem textC_b {ks : List Int} (h : ks.take 2 = [254, 255]) (h1 : (ks.length : Int).fmod 2 = 1) : readU (pairsU (ks.drop 2)) ++ [65533] = textC ks := by rw [Int.fmod_eq_emod_of_nonneg _ (by decide)] at h1; unfold textC; rw [if_pos h, if_pos (by omega)]
theorem textC_c {ks : List Int} (h : ks.take 2 = [254, 255]) (h1 : (ks.length : Int).fmod 2 ≠ 1) : readU (pairsU (ks.drop 2)) ++ [] = textC ks := by rw [Int.fmod_eq_emod_of_nonneg _ (by decide)] at h1; unfold textC; rw [if_pos h, if_neg (by omega)]
theorem pairs_fit {ks : List Int} (h : ks.length ≤ 1000) : (readU (pairsU (ks.drop 2))).length ≤ 100000 := by
  have h1 := readU_len (pairsU (ks.drop 2))
  rw [pairsU_len, List.length_drop] at h1
  omega

--deps: P12_bytes Dev
section
theorem text_ok {w : World} {loose : List Str} {mean : ExcName → Option Value} {mg mb : Str → Option Value} {b : Array UInt8} {tb : Tok} {ks : List Int} (hk' : KBw.bInts b = ks) (hb : ks.length ≤ 1000) :
    Spec 16 w loose mean mg mb 45 [] [.bytes b tb] (fun r own' => (∃ t, r = .str (KStt.txt (textC ks)) t) ∧ own' = []) := by
  k_with_none
  k_with "own pick" => (first | exact Pick.head | (refine' Pick.tail ?ptq0; (case ptq0 => k_extra "own pick")))
  k_with "own picks" => (first | exact Picks.nil | (refine' Picks.cons ?ppq1 ?pqq1; (case ppq1 => k_extra "own pick"); (case pqq1 => k_extra "own picks")))
  k_with "own allin" => (with_unfolding_all ((try simp only [List.nil_append, List.cons_append]); k_allIn))
  k_with "own allin0" => (first | exact List.forall_mem_nil _ | k_extra "own allin")
  k_with "own same" => (intro z h1 h2; first | rfl | (simp [h1, h2]; done) | (simp_all; done))
  k_with "own same1" => (intro z h1; first | rfl | (simp [h1]; done) | (simp_all; done))
  k_with "own same3" => (intro z h1 h2 h3; first | rfl | (simp [h1, h2, h3]; done) | (simp_all; done))
  k_with "own for" => (k_here; (with_reducible rename Fr _ _ _ _ => lF'); (with_unfolding_all refine' For_invVF lF' ?k1q7 ?k2q7 ?_; (case k1q7 => exact rfl); (case k2q7 => exact rfl); k_whole))
  k_with "own apart" => (first | exact List.forall_mem_nil _ | (refine' apart_cons ?paq8 ?pbq8; (case paq8 => k_all); (case pbq8 => k_extra "own apart")))
  k_with "own after" => (intro N9 D9; (replace D9 := ApartL.of D9); (try simp only [ApartL, OffL, and_true] at D9); (try simp only [List.cons_append, List.nil_append] at N9); (try dsimp only); (try k_sweep); (try k_fold))
  k_with "own append" => (k_here; (try dsimp only [List.cons_append, List.nil_append]); (with_reducible show wpAny _ _ (call (Value.builtin _) [Value.ref _, Value.int _ _]) _ _ _); k_dflt (refine' app_ints ?k1q10 ?k2q10 ?k3q10 ?k4q10 ?k5q10 ?k6q10 ?_; (case k1q10 => k_asm); (case k2q10 => k_asm); (case k3q10 => k_updF); (case k4q10 => with_reducible assumption); (case k5q10 => with_reducible assumption); (case k6q10 => first | with_reducible assumption | omega); k_whole); intro us' h' hi' hl' F' N'; (try dsimp only at N'); (try k_sweep))
  k_with "own get" => (k_here; (try dsimp only [List.cons_append, List.nil_append]); (with_reducible show wpAny _ _ (call (Value.builtin "dict.get") [Value.ref _, Value.int _ _, Value.int _ _]) _ _ _); k_dflt (refine kdf_get2 (by k_tabat) ?_); intro _)
  k_with "own off" => ((try simp only [LCg.Off3, OffL, and_true]); k_extra "own offs")
  k_with "own offs" => (first | k_extra "own cj" | (with_reducible refine' And.intro ?oaq13 ?obq13; (case oaq13 => k_extra "own offs"); (case obq13 => k_extra "own offs")) | k_extra "own ne")
  k_with "own ne" => (first | k_extra "own ne0" | omega)
  k_with "own ne0" => (first | k_extra "own cj" | (with_reducible refine Ne.symm ?_; k_extra "own cj") | (with_reducible refine Nat.ne_of_lt ?_; k_extra "own cj") | (with_reducible refine Nat.ne_of_gt ?_; k_extra "own cj"))
  k_with "own cj" => (with_reducible first | assumption | exact cjl0 (by assumption) | exact cjr0 (by assumption) | exact cjl1 (by assumption) | exact cjr1 (by assumption) | exact cjl2 (by assumption) | exact cjr2 (by assumption) | exact cjl3 (by assumption) | exact cjr3 (by assumption) | exact cjl4 (by assumption) | exact cjr4 (by assumption) | exact cjl5 (by assumption) | exact cjr5 (by assumption) | exact cjl6 (by assumption) | exact cjr6 (by assumption) | exact cjl7 (by assumption) | exact cjr7 (by assumption) | exact cjl8 (by assumption) | exact cjr8 (by assumption) | exact cjl9 (by assumption) | exact cjr9 (by assumption) | exact cjl10 (by assumption) | exact cjr10 (by assumption) | exact cjl11 (by assumption) | exact cjr11 (by assumption))
  k_with "own kne" => (refine neN ?_; (try dsimp only); k_extra "own ne0")
  k_with "own turn" => (unfold CTurn; intro I' oI' C' oC' D' m' ys' h' tk' E' hC' hx' F' N' off' ne'; (try (simp only [LCg.Off3, and_true] at off')); (try dsimp only); k_fold)
  k_with "own listcomp" => (k_here; k_dflt (refine ListComp_M (F₀ := by k_asm) (by with_unfolding_all rfl) (by decide) (by rfl) (by decide) (by rfl) ?_))
  k_with "own alistcomp" => (k_here; k_dflt (refine Assign_ListComp_M (F₀ := by k_asm) (by rfl) (by with_unfolding_all rfl) (by with_unfolding_all rfl) (by decide) (by rfl) (by decide) (by rfl) (by rfl) (by rfl) ?_))
  k_with "call ref" => first | (k_here; (with_reducible show wpAny _ _ (call (Value.ref 21) _) _ _ _); k_dflt (refine' Spec.use ?Bq21 ?Fq21 ?Xq21 ?Nq21 ?Tq21 (signs_ok) ?Pq21 ?Dq21 ?hkq21 ?hdq21 ?huq21 ?_; (case Bq21 | Fq21 | Xq21 | Nq21 | Tq21 => k_asm);  (case Pq21 => k_extra "own picks"); (case Dq21 => k_extra "own apart"); (case hkq21 => first | exact rfl | assumption); (case hdq21 => ktr_room); (case huq21 => ktr_units)); intro r9 own9 h9 tk9 F9 N9 D9 hp9; (obtain ⟨Ds, vs9, n9, er9, eo9, hi9⟩ := hp9; subst er9; subst eo9); revert N9 D9; k_extra "own after") | (k_here; (with_reducible show wpAny _ _ (call (Value.ref 35) _) _ _ _); k_dflt (refine' Spec.use ?Bq21 ?Fq21 ?Xq21 ?Nq21 ?Tq21 (read_ok ?saq21 ?sbq21 ?scq21) ?Pq21 ?Dq21 ?hkq21 ?hdq21 ?huq21 ?_; (case Bq21 | Fq21 | Xq21 | Nq21 | Tq21 => k_asm); (case saq21 => with_reducible assumption); (case sbq21 => with_reducible assumption); (case scq21 => with_reducible assumption); (case Pq21 => k_extra "own picks"); (case Dq21 => k_extra "own apart"); (case hkq21 => first | exact rfl | assumption); (case hdq21 => ktr_room); (case huq21 => ktr_units)); intro r9 own9 h9 tk9 F9 N9 D9 hp9; (obtain ⟨⟨t9, er9⟩, eo9⟩ := hp9; subst er9; subst eo9); revert N9 D9; k_extra "own after")
  k_with "getMethod bytes" => (k_here; (with_reducible refine method_starts ?_))
  k_with "call builtin:bytes.startswith" => (k_here; (try dsimp only [List.cons_append, List.nil_append]); k_dflt (refine call_starts (by with_reducible assumption) ?_))
  k_with "eval ListComp" => k_extra "own listcomp"
  k_with "exec Assign cons ListComp" => k_extra "own alistcomp"
  k_with "CSrc" => (k_here; first | ((with_reducible show CSrc _ _ _ _ _ _ _ _ _ _ _ _ _ (Value.bytes _ _) _); k_dflt (refine' CSrc.bytes (fun c v => ∃ t, v = .str (chS (sigC.getD c.toNat 0)) t) ?k1q26 rfl ?k2q26 ?k3q26 ?k4q26 ?_ ?_; (case k1q26 => with_reducible assumption); (case k2q26 => k_asm); (case k3q26 => k_asm); (case k4q26 => omega)); all_goals (first | (intro c9 u9 g9 hc9 hlo9 hhi9; k_extra "own turn") | (intro ys9 g9 hy9; have hy9 := Each.chs hy9))) | ((with_reducible show CSrc _ _ _ _ _ _ _ _ _ _ _ _ _ (Value.ref _) _); (rename IsRange _ _ _ _ _ _ _ _ => rgX); k_dflt (refine' CSrc.pairs rgX ?k2q26 ?k3q26 rfl ?k5q26 ?k6q26 ?_ ?_; (case k2q26 => assumption); (case k3q26 => assumption); (case k5q26 => k_asm); (case k6q26 => k_asm)); all_goals (first | (intro i9 u9 g9 hlo9 hhi9; k_extra "own turn") | (intro ys9 g9 hy9 hyl9))))
  k_with "subscriptTail" => (k_here; (with_reducible show wpAny _ _ (subscriptTail _ _ (Value.ref _) (Value.int _ _)) _ _ _); k_dflt (refine' item_ints ?k1q27 ?k2q27 ?k3q27 ?k4q27 ?k5q27 ?k6q27 ?_ ?k7q27; (case k1q27 => k_asm); (case k2q27 => k_mem); (case k3q27 => with_reducible assumption); (case k4q27 => omega); (case k5q27 => rw [sigC_len]; omega); (case k6q27 => omega); (case k7q27 => with_unfolding_all rfl); k_whole); intro _)
  k_with "call builtin:chr" => (k_here; (with_reducible show wpAny _ _ (call (Value.builtin "chr") [Value.int _ _]) _ _ _); k_dflt (refine' chr_of_range ?k1q28 ?k2q28 ?_; (case k1q28 => first | omega | exact (sigC_in _ (by omega)).1); (case k2q28 => first | omega | exact Int.le_trans (Int.le_of_lt (sigC_in _ (by omega)).2) (by decide)); k_whole))
  k_with "call builtin:str.join" => (k_here; (try dsimp only [List.cons_append, List.nil_append]); (with_reducible show wpAny _ _ (call (Value.builtin _) [Value.str _ _, Value.ref _]) _ _ _); k_dflt (refine' join_K ?k1q29 ?k2q29 ?k3q29 ?k4q29 ?_; (case k1q29 => k_asm); (case k2q29 => k_mem); (case k3q29 => with_reducible assumption); (case k4q29 => rw [List.length_map]; omega); k_whole); intro _ _)
  k_with "binaryOp Add str str" => (k_here; (first | ((with_reducible show wpAny _ _ (binaryOp _ _ (Value.str (PySem.Str.ofString _) _)) _ _ _); with_reducible refine' add_none ?k1q30 ?_; (case k1q30 => exact pairs_fit (by assumption)); k_whole) | ((with_reducible show wpAny _ _ (binaryOp _ _ (Value.str (PySem.Str.mk _) _)) _ _ _); with_reducible refine' add_txt ?k1q30 ?_; (case k1q30 => exact pairs_fit (by assumption)); k_whole)); intro _ _)
  k_with "CompEnd" => first | k_dflt (exact LCg.CompEnd.intro (by k_asm) (by k_asm) _ (by kcf_all) (by first | assumption | k_extra "own off") (by trivial) ⟨rfl, ⟨_, rfl⟩⟩)
  have hS : ∀ k : Nat, k < 256 → 0 ≤ sigC.getD k 0 ∧ sigC.getD k 0 < 65536 := sigC_in
  have hpr : ∀ x ∈ pairsU (ks.drop 2), 0 ≤ x ∧ x < 65536 := pairsU_in fun k hk => by subst hk'; exact KBw.ints_in (List.mem_of_mem_drop hk)
  have hlen2 : ks.take 2 = [254, 255] → 2 ≤ ks.length := fun e => by have := congrArg List.length e; rw [List.length_take] at this; simp at this; omega
  w_on
  w_strict (refine' spec_ofC (binds := [(Str.ofString "octets", .bytes b tb)]) (by k_is) (by k_is) (fun s => BindsTo.of_eq rfl) (by rfl) (by decide +kernel) rfl rfl rfl (by decide) ?_; intro dp un gd cn cs L a ccd cl outer base g L' h₁ cells gens drawn os tk Q E B hk F N Y l1 X T hd hu hret A9; k_cells Y; (try simp only [List.cons_append, List.nil_append] at N); (try dsimp only); (try k_fold); k_steps; all_goals ((try dsimp only); refine' hret _ _ _ _ _ ?ha News.nil ⟨⟨_, congrArg (fun c => Value.str (KStt.txt c) _) ?hc⟩, rfl⟩; (case ha => with_reducible assumption); (case hc => first | with_reducible exact textC_a (by assumption) | with_reducible exact textC_b (by assumption) (by assumption) | with_reducible exact textC_c (by assumption) (by assumption))))
end

--deps: P12_bytes P04_loops
/-- a loop over a range from 0 that turns a dict of ints; `rest` of the ledger stands by -/
theorem dlp {prog : Program} {w : World} {A : Around} {E : Value → Shared → Prop} {s : Shared} {env : Env} {h₀ : Heap} {x : Str} {body : List Stmt} {Q : Flow → Shared → Prop} {d r : Addr} {n : Nat} {b₀ : Int} {t₀ u₀ v₀ : Tok} {m₀ : Str → Option Value} {led rest : List (Addr × Obj)} {o₀ : Obj} {kvs₀ : List (Int × Value)} (g : List (Int × Int) → Int → List (Int × Int))
    (F : Fr h₀ env.locals s.heap m₀) (N : News h₀ env.locals s.heap led) (hr : IsRange s.heap r 0 b₀ 1 t₀ u₀ v₀) (hb : b₀ = (n : Int)) (hd₀ : o₀.IsDictOf (PySem.intKind prog w) kvs₀) (hf₀ : PyProof.V.FlatPairs PyData.int kvs₀ (kdfD [])) (P : Pick (d, o₀) led rest)
    (hn : n ≤ 1000) (hg : ∀ c k, (g c k).length ≤ c.length + 1) (hh : A.handled = none := by rfl)
    (turn : ∀ k t c o kvs I oI h tk, 0 ≤ k → k < (n : Int) → o.IsDictOf (PySem.intKind prog w) kvs → PyProof.V.FlatPairs PyData.int kvs (kdfD c) → c.length ≤ 1000 → OffL I ((d, o) :: rest) →
      Fr h₀ env.locals h (fun z => if z = x then some (.int k t) else m₀ z) → News h₀ env.locals h ((I, oI) :: (d, o) :: rest) →
      wpAny (model prog w) A (execs body env) (LpPost h₀ env.locals I oI [] (fun m' nx => (∃ o' kvs', nx = (d, o') :: rest ∧ o'.IsDictOf (PySem.intKind prog w) kvs' ∧ PyProof.V.FlatPairs PyData.int kvs' (kdfD (g c k))) ∧ ∀ z, z ≠ x → m' z = m₀ z) { s with heap := h, toks := tk } Q) E { s with heap := h, toks := tk })
    (done : ∀ (q : Str → Option Value) o kvs h tk, o.IsDictOf (PySem.intKind prog w) kvs → PyProof.V.FlatPairs PyData.int kvs (kdfD ((rangeKs 0 n).foldl g [])) →
      Fr h₀ env.locals h (fun z => if z = x then q z else m₀ z) → News h₀ env.locals h ((d, o) :: rest) → Q .next { s with heap := h, toks := tk }) :
    wpAny (model prog w) A (pyIter (.ref r)) (fun it s₂ => LoopAtV prog w A h₀ env x body Q E it s₂) E s := by
  subst hb
  have grow : ∀ (l' : List Int) (c : List (Int × Int)), (l'.foldl g c).length ≤ c.length + l'.length := by
    intro l'
    induction l' with
    | nil => intro c; exact Nat.le_refl _
    | cons a r ih =>
      intro c
      have h1 := ih (g c a)
      have h2 := hg c a
      simp only [List.foldl_cons, List.length_cons]
      omega
  have N1 : News h₀ env.locals s.heap ((d, o₀) :: rest) := fun p hp => by
    rcases List.mem_cons.mp hp with e | hp
    · exact e ▸ N _ P.mem.1
    · exact N _ (P.mem.2 _ hp)
  have hK : ∀ i, i < n → (rangeKs 0 n).take (i + 1) = (rangeKs 0 n).take i ++ [(i : Int)] := by
    intro i hi
    have : (rangeKs 0 n)[i]? = some ((0 : Int) + (i : Int)) := by simp [rangeKs, hi]
    rw [List.take_add_one, this, Option.toList_some, Int.zero_add]
  refine lp_range (n := n) (fun i m' nx => (∃ o kvs, nx = (d, o) :: rest ∧ o.IsDictOf (PySem.intKind prog w) kvs ∧ PyProof.V.FlatPairs PyData.int kvs (kdfD (((rangeKs 0 n).take i).foldl g []))) ∧ ∀ z, z ≠ x → m' z = m₀ z) hr
    (small_one (by decide) (by decide) (by omega) (by omega)) (by rw [rangeSize_nat]; omega) hh F N1 ⟨⟨o₀, kvs₀, rfl, hd₀, hf₀⟩, fun _ _ => rfl⟩ ?_ ?_
  · rintro i t I oI m₁ nx h tk hi ⟨⟨o, kvs, rfl, hd, hf⟩, hm₁⟩ hoff F₁ N₁
    have e1 : (fun z => if z = x then some (Value.int ((0 : Int) + (i : Int)) t) else m₁ z) = fun z => if z = x then some (Value.int (i : Int) t) else m₀ z := by
      funext z
      by_cases h1 : z = x
      · simp only [if_pos h1, Int.zero_add]
      · simp only [if_neg h1]; exact hm₁ z h1
    have e3 := grow ((rangeKs 0 n).take i) []
    have e4 : ((rangeKs 0 n).take i).length ≤ i := by rw [List.length_take]; omega
    have e5 : ([] : List (Int × Int)).length = 0 := rfl
    rw [e1] at F₁
    rw [hK i hi, List.foldl_append]
    exact turn (i : Int) t _ o kvs I oI h tk (by omega) (by omega) hd hf (by omega) (OffL.of fun q hq e => hoff q hq e.symm) F₁ N₁
  · rintro m₁ nx h tk ⟨⟨o, kvs, rfl, hd, hf⟩, hm₁⟩ F₁ N₁
    have e5 : (rangeKs 0 n).take n = rangeKs 0 n := List.take_of_length_le (Nat.le_of_eq (rangeKs_length _ _))
    rw [e5] at hf
    refine done m₁ o kvs h tk hd hf ?_ N₁
    have e1 : (fun z => if z = x then m₁ z else m₀ z) = m₁ := by
      funext z
      by_cases h1 : z = x
      · simp only [if_pos h1]
      · simp only [if_neg h1]; exact (hm₁ z h1).symm
    rw [e1]; exact F₁
/-- a loop over a list of the ledger that fills another by f of each int -/
theorem lfill {prog : Program} {w : World} {A : Around} {E : Value → Shared → Prop} {s : Shared} {env : Env} {h₀ : Heap} {x : Str} {body : List Stmt} {Q : Flow → Shared → Prop} {l D : Addr} {vs : List Value} {ns : List Int} {nn n₀ : Nat} {m₀ : Str → Option Value} {led : List (Addr × Obj)} (f : Int → List Int)
    (F : Fr h₀ env.locals s.heap m₀) (N : News h₀ env.locals s.heap led) (hl : (l, listOf vs.toArray nn) ∈ led) (hm : (D, listOf #[] n₀) ∈ led) (hi : IntsAre vs ns) (hne : @Ne Nat l D) (hlen : ∀ i, ((ns.take i).flatMap f).length ≤ 1000) (hh : A.handled = none := by rfl)
    (turn : ∀ n t us xs k I oI h tk, n ∈ ns → IntsAre us xs → xs.length ≤ 1000 → (@Ne Nat l D) ∧ (@Ne Nat D I) ∧ (@Ne Nat l I) →
      Fr h₀ env.locals h (fun z => if z = x then some (.int n t) else m₀ z) → News h₀ env.locals h [(I, oI), (D, listOf us.toArray k), (l, listOf vs.toArray nn)] →
      wpAny (model prog w) A (execs body env) (LpPost h₀ env.locals I oI [(l, listOf vs.toArray nn)] (fun m' nx => (∃ us' k', nx = [(D, listOf us'.toArray k'), (l, listOf vs.toArray nn)] ∧ IntsAre us' (xs ++ f n)) ∧ ∀ z, z ≠ x → m' z = m₀ z) { s with heap := h, toks := tk } Q) E { s with heap := h, toks := tk })
    (done : ∀ (q : Str → Option Value) us k h tk, IntsAre us (ns.flatMap f) → (ns.flatMap f).length ≤ 1000 →
      Fr h₀ env.locals h (fun z => if z = x then q z else m₀ z) → News h₀ env.locals h [(D, listOf us.toArray k), (l, listOf vs.toArray nn)] → Q .next { s with heap := h, toks := tk }) :
    wpAny (model prog w) A (pyIter (.ref l)) (fun it s₂ => LoopAtV prog w A h₀ env x body Q E it s₂) E s := by
  have N1 : News h₀ env.locals s.heap [(D, listOf #[] n₀), (l, listOf vs.toArray nn)] := fun p hp => by
    rcases List.mem_cons.mp hp with e | hp
    · exact e ▸ N _ hm
    · exact (List.mem_singleton.mp hp) ▸ N _ hl
  refine lp_list (fun i m' nx => (∃ us k, nx = [(D, listOf us.toArray k), (l, listOf vs.toArray nn)] ∧ IntsAre us ((ns.take i).flatMap f)) ∧ ∀ z, z ≠ x → m' z = m₀ z) (List.Mem.tail _ (.head _)) hi hh F N1 ⟨⟨[], n₀, rfl, by simpa using IntsAre.nil⟩, fun _ _ => rfl⟩ ?_ ?_
  · rintro i n t I oI m₁ nx h tk hn ⟨⟨us, k, rfl, hus⟩, hm₁⟩ hoff _ F₁ N₁
    have e1 : (fun z => if z = x then some (Value.int n t) else m₁ z) = fun z => if z = x then some (Value.int n t) else m₀ z := by
      funext z
      by_cases h1 : z = x
      · simp only [if_pos h1]
      · simp only [if_neg h1]; exact hm₁ z h1
    rw [e1] at F₁
    have e2 : (ns.take (i + 1)).flatMap f = (ns.take i).flatMap f ++ f n := by
      rw [List.take_add_one, hn, Option.toList_some, List.flatMap_append]; simp
    rw [e2]
    exact turn n t us _ k I oI h tk (List.mem_of_getElem? hn) hus (hlen i) ⟨hne, hoff _ (.head _), hoff _ (.tail _ (.head _))⟩ F₁ N₁
  · rintro m₁ nx h tk ⟨⟨us, k, rfl, hus⟩, hm₁⟩ F₁ N₁
    rw [List.take_length] at hus
    refine done m₁ us k h tk hus (by have := hlen ns.length; rwa [List.take_length] at this) ?_ N₁
    have e1 : (fun z => if z = x then m₁ z else m₀ z) = m₁ := by
      funext z
      by_cases h1 : z = x
      · simp only [if_pos h1]
      · simp only [if_neg h1]; exact (hm₁ z h1).symm
    rw [e1]; exact F₁
/-! ### places -/
noncomputable def plStep (c : List (Int × Int)) (k : Int) : List (Int × Int) := if sigC.getD k.toNat 0 ≠ 65533 then kdfPut c (sigC.getD k.toNat 0) k else c
theorem plStep_put {c : List (Int × Int)} {k : Int} (h : sigC.getD k.toNat 0 ≠ 65533) : kdfPut c (sigC.getD k.toNat 0) k = plStep c k := by unfold plStep; rw [if_pos h]
theorem plStep_skip {c : List (Int × Int)} {k : Int} (h : sigC.getD k.toNat 0 = 65533) : c = plStep c k := by unfold plStep; rw [if_neg (fun q => q h)]
theorem plStep_len (c : List (Int × Int)) (k : Int) : (plStep c k).length ≤ c.length + 1 := by
  unfold plStep
  split
  · exact kdfPut_len _ _ _
  · omega
noncomputable def plC : List (Int × Int) := (rangeKs 0 256).foldl plStep []
noncomputable def hiLo (u : Int) : List Int := [u.fdiv 256, u.fmod 256]
/-- what octets_of yields -/
noncomputable def octC (cs : List Int) : List Int :=
  if (cs.map (kdfHas plC)).all id = true ∧ ¬ (cs.map fun c => kdfLook plC c 0).take 2 = [254, 255] then cs.map fun c => kdfLook plC c 0
  else [254, 255] ++ (cs.flatMap unitsOf).flatMap hiLo
theorem octC_a {cs : List Int} (h : (cs.map (kdfHas plC)).all id = true) (h2 : ¬ (cs.map fun c => kdfLook plC c 0).take 2 = [254, 255]) : (cs.map fun c => kdfLook plC c 0) = octC cs := by unfold octC; rw [if_pos ⟨h, h2⟩]
theorem octC_b {cs : List Int} (h2 : (cs.map fun c => kdfLook plC c 0).take 2 = [254, 255]) : [254, 255] ++ (cs.flatMap unitsOf).flatMap hiLo = octC cs := by unfold octC; rw [if_neg fun q => q.2 h2]
theorem octC_c {cs : List Int} (h : (cs.map (kdfHas plC)).all id = false) : [254, 255] ++ (cs.flatMap unitsOf).flatMap hiLo = octC cs := by unfold octC; rw [if_neg fun q => by rw [h] at q; exact Bool.false_ne_true q.1]
/-! the tables, written out: evaluated once -/
noncomputable def plL : List (Int × Int) := [(9, 9), (10, 10), (13, 13), (728, 24), (711, 25), (710, 26), (729, 27), (733, 28), (731, 29), (730, 30), (732, 31), (32, 32), (33, 33), (34, 34), (35, 35), (36, 36), (37, 37), (38, 38), (39, 39), (40, 40), (41, 41), (42, 42), (43, 43), (44, 44), (45, 45), (46, 46), (47, 47), (48, 48), (49, 49), (50, 50), (51, 51), (52, 52), (53, 53), (54, 54), (55, 55), (56, 56), (57, 57), (58, 58), (59, 59), (60, 60), (61, 61), (62, 62), (63, 63), (64, 64), (65, 65), (66, 66), (67, 67), (68, 68), (69, 69), (70, 70), (71, 71), (72, 72), (73, 73), (74, 74), (75, 75), (76, 76), (77, 77), (78, 78), (79, 79), (80, 80), (81, 81), (82, 82), (83, 83), (84, 84), (85, 85), (86, 86), (87, 87), (88, 88), (89, 89), (90, 90), (91, 91), (92, 92), (93, 93), (94, 94), (95, 95), (96, 96), (97, 97), (98, 98), (99, 99), (100, 100), (101, 101), (102, 102), (103, 103), (104, 104), (105, 105), (106, 106), (107, 107), (108, 108), (109, 109), (110, 110), (111, 111), (112, 112), (113, 113), (114, 114), (115, 115), (116, 116), (117, 117), (118, 118), (119, 119), (120, 120), (121, 121), (122, 122), (123, 123), (124, 124), (125, 125), (126, 126), (8226, 128), (8224, 129), (8225, 130), (8230, 131), (8212, 132), (8211, 133), (402, 134), (8260, 135), (8249, 136), (8250, 137), (8722, 138), (8240, 139), (8222, 140), (8220, 141), (8221, 142), (8216, 143), (8217, 144), (8218, 145), (8482, 146), (64257, 147), (64258, 148), (321, 149), (338, 150), (352, 151), (376, 152), (381, 153), (305, 154), (322, 155), (339, 156), (353, 157), (382, 158), (8364, 160), (161, 161), (162, 162), (163, 163), (164, 164), (165, 165), (166, 166), (167, 167), (168, 168), (169, 169), (170, 170), (171, 171), (172, 172), (174, 174), (175, 175), (176, 176), (177, 177), (178, 178), (179, 179), (180, 180), (181, 181), (182, 182), (183, 183), (184, 184), (185, 185), (186, 186), (187, 187), (188, 188), (189, 189), (190, 190), (191, 191), (192, 192), (193, 193), (194, 194), (195, 195), (196, 196), (197, 197), (198, 198), (199, 199), (200, 200), (201, 201), (202, 202), (203, 203), (204, 204), (205, 205), (206, 206), (207, 207), (208, 208), (209, 209), (210, 210), (211, 211), (212, 212), (213, 213), (214, 214), (215, 215), (216, 216), (217, 217), (218, 218), (219, 219), (220, 220), (221, 221), (222, 222), (223, 223), (224, 224), (225, 225), (226, 226), (227, 227), (228, 228), (229, 229), (230, 230), (231, 231), (232, 232), (233, 233), (234, 234), (235, 235), (236, 236), (237, 237), (238, 238), (239, 239), (240, 240), (241, 241), (242, 242), (243, 243), (244, 244), (245, 245), (246, 246), (247, 247), (248, 248), (249, 249), (250, 250), (251, 251), (252, 252), (253, 253), (254, 254), (255, 255)]
noncomputable def plStepL (c : List (Int × Int)) (k : Int) : List (Int × Int) := if sigL.getD k.toNat 0 ≠ 65533 then kdfPut c (sigL.getD k.toNat 0) k else c
theorem plStep_lit : plStep = plStepL := by
  funext c k
  unfold plStep plStepL
  rw [sigC_lit]
theorem plL_eq : (rangeKs 0 256).foldl plStepL [] = plL := by decide +kernel
theorem plC_lit : plC = plL := by
  unfold plC
  rw [plStep_lit]
  exact plL_eq
theorem plL_in : ∀ p ∈ plL, 0 ≤ p.2 ∧ p.2 < 256 := by decide +kernel
theorem plC_in : ∀ p ∈ plC, 0 ≤ p.2 ∧ p.2 < 256 := plC_lit ▸ plL_in
theorem pg_in {P : List (Int × Int)} (h : ∀ p ∈ P, 0 ≤ p.2 ∧ p.2 < 256) (c : Int) : 0 ≤ kdfLook P c 0 ∧ kdfLook P c 0 < 256 := by
  unfold kdfLook
  cases e : P.find? fun p => decide (p.1 = c) with
  | none => decide
  | some p => exact h p (List.mem_of_find?_eq_some e)
theorem look_in (c : Int) : 0 ≤ kdfLook plC c 0 ∧ kdfLook plC c 0 < 256 := pg_in plC_in c
theorem unit_in {c : Int} (h0 : 0 ≤ c) (h1 : c < 1114112) : ∀ u ∈ unitsOf c, 0 ≤ u ∧ u < 65536 := by
  unfold unitsOf
  intro u hu
  split at hu
  · rcases List.mem_cons.mp hu with rfl | hu
    · omega
    · rw [List.mem_singleton.mp hu]; omega
  · rw [List.mem_singleton.mp hu]; omega
theorem hiLo_in {us : List Int} (h : ∀ u ∈ us, 0 ≤ u ∧ u < 65536) : KBa.In (us.flatMap hiLo) := by
  intro b hb
  obtain ⟨u, hu, hb⟩ := List.mem_flatMap.mp hb
  have := h u hu
  unfold hiLo at hb
  rw [Int.fdiv_eq_ediv_of_nonneg _ (by decide), Int.fmod_eq_emod_of_nonneg _ (by decide)] at hb
  rcases List.mem_cons.mp hb with rfl | hb
  · omega
  · rw [List.mem_singleton.mp hb]; omega
theorem hiLo_len (l : List Int) : (l.flatMap hiLo).length = 2 * l.length := by
  induction l with
  | nil => rfl
  | cons a r ih => rw [List.flatMap_cons, List.length_append, ih, List.length_cons]; show 2 + _ = _; omega
theorem hiLo_fit {us : List Int} (h : us.length ≤ 400) (i : Nat) : ((us.take i).flatMap hiLo).length ≤ 1000 := by
  rw [hiLo_len, List.length_take]; omega
theorem Each.boolsAre {α : Type} {g : α → Bool} {as : List α} {vs : List Value} (h : Each (fun a v => v = .bool (g a)) as vs) : LSm.BoolsAre vs (as.map g) := by
  induction h with
  | nil => exact .nil
  | cons r _ ih => subst r; exact .cons _ ih
theorem pg_of_all {P : List (Int × Int)} {cs : List Int} {c : Int} (h : (cs.map (kdfHas P)).all id = true) (hc : c ∈ cs) : kdfHas P c = true := by
  have := List.all_eq_true.mp h _ (List.mem_map_of_mem hc)
  exact this
theorem has_of_all {cs : List Int} {c : Int} (h : (cs.map (kdfHas plC)).all id = true) (hc : c ∈ cs) : kdfHas plC c = true := pg_of_all h hc
theorem look_ins (cs : List Int) : KBa.In (cs.map fun c => kdfLook plC c 0) := by
  intro b hb
  obtain ⟨c, _, rfl⟩ := List.mem_map.mp hb
  exact look_in c
theorem units_in {cs : List Int} (h : ∀ c ∈ cs, 0 ≤ c ∧ c < 1114112) : ∀ u ∈ cs.flatMap unitsOf, 0 ≤ u ∧ u < 65536 := by
  intro u hu
  obtain ⟨c, hc, hu⟩ := List.mem_flatMap.mp hu
  exact unit_in (h c hc).1 (h c hc).2 u hu
theorem units_fit {x : Str} (h : x.cps.size ≤ 100) : ((KStt.codes x).flatMap unitsOf).length ≤ 400 := by
  have h1 := flat_len (KStt.codes x)
  have h2 := KStt.codes_length x
  unfold PySem.Str.length at h2
  omega
theorem fill_two {us : List Value} {xs : List Int} {n : Int} (h : IntsAre us (xs ++ [n.fdiv 256] ++ [n.fmod 256])) : IntsAre us (xs ++ hiLo n) := by
  rw [List.append_assoc] at h; exact h
theorem plEnd_put {kvs : List (Int × Value)} {c : List (Int × Int)} {k : Int} (h : sigC.getD k.toNat 0 ≠ 65533) (hf : PyProof.V.FlatPairs PyData.int kvs (kdfD (kdfPut c (sigC.getD k.toNat 0) k))) : PyProof.V.FlatPairs PyData.int kvs (kdfD (plStep c k)) := plStep_put h ▸ hf
theorem plEnd_skip {kvs : List (Int × Value)} {c : List (Int × Int)} {k : Int} (h : sigC.getD k.toNat 0 = 65533) (hf : PyProof.V.FlatPairs PyData.int kvs (kdfD c)) : PyProof.V.FlatPairs PyData.int kvs (kdfD (plStep c k)) := plStep_skip h ▸ hf

--deps: P14_oct Dev
section
theorem octets_ok {w : World} {loose : List Str} {mean : ExcName → Option Value} {mg mb : Str → Option Value} {x : Str} {t : Tok} (hx : x.cps.size ≤ 100) (hcs : ∀ c ∈ KStt.codes x, 0 ≤ c ∧ c < 1114112) :
    Spec 16 w loose mean mg mb 40 [] [.str x t] (fun r own' => (∃ b t, r = .bytes b t ∧ KBw.bInts b = octC (KStt.codes x)) ∧ own' = []) := by
  k_with_none
  k_with "own pick" => (first | exact Pick.head | (refine' Pick.tail ?ptq0; (case ptq0 => k_extra "own pick")))
  k_with "own picks" => (first | exact Picks.nil | (refine' Picks.cons ?ppq1 ?pqq1; (case ppq1 => k_extra "own pick"); (case pqq1 => k_extra "own picks")))
  k_with "own allin" => (with_unfolding_all ((try simp only [List.nil_append, List.cons_append]); k_allIn))
  k_with "own allin0" => (first | exact List.forall_mem_nil _ | k_extra "own allin")
  k_with "own same" => (intro z h1 h2; first | rfl | (simp [h1, h2]; done) | (simp_all; done))
  k_with "own same1" => (intro z h1; first | rfl | (simp [h1]; done) | (simp_all; done))
  k_with "own same3" => (intro z h1 h2 h3; first | rfl | (simp [h1, h2, h3]; done) | (simp_all; done))
  k_with "own for" => (k_here; (with_reducible rename Fr _ _ _ _ => lF'); (with_unfolding_all refine' For_invVF lF' ?k1q7 ?k2q7 ?_; (case k1q7 => exact rfl); (case k2q7 => exact rfl); k_whole))
  k_with "own apart" => (first | exact List.forall_mem_nil _ | (refine' apart_cons ?paq8 ?pbq8; (case paq8 => k_all); (case pbq8 => k_extra "own apart")))
  k_with "own after" => (intro N9 D9; (replace D9 := ApartL.of D9); (try simp only [ApartL, OffL, and_true] at D9); (try simp only [List.cons_append, List.nil_append] at N9); (try dsimp only); (try k_sweep); (try k_fold))
  k_with "own append" => (k_here; (try dsimp only [List.cons_append, List.nil_append]); (with_reducible show wpAny _ _ (call (Value.builtin _) [Value.ref _, Value.int _ _]) _ _ _); k_dflt (refine' app_ints ?k1q10 ?k2q10 ?k3q10 ?k4q10 ?k5q10 ?k6q10 ?_; (case k1q10 => k_asm); (case k2q10 => k_asm); (case k3q10 => k_updF); (case k4q10 => with_reducible assumption); (case k5q10 => with_reducible assumption); (case k6q10 => first | with_reducible assumption | omega); k_whole); intro us' h' hi' hl' F' N'; (try dsimp only at N'); (try k_sweep))
  k_with "own get" => (k_here; (try dsimp only [List.cons_append, List.nil_append]); (with_reducible show wpAny _ _ (call (Value.builtin "dict.get") [Value.ref _, Value.int _ _, Value.int _ _]) _ _ _); k_dflt (refine kdf_get2 (by k_tabat) ?_); intro _)
  k_with "own off" => ((try simp only [LCg.Off3, OffL, and_true]); k_extra "own offs")
  k_with "own offs" => (first | k_extra "own cj" | (with_reducible refine' And.intro ?oaq13 ?obq13; (case oaq13 => k_extra "own offs"); (case obq13 => k_extra "own offs")) | k_extra "own ne")
  k_with "own ne" => (first | k_extra "own ne0" | omega)
  k_with "own ne0" => (first | k_extra "own cj" | (with_reducible refine Ne.symm ?_; k_extra "own cj") | (with_reducible refine Nat.ne_of_lt ?_; k_extra "own cj") | (with_reducible refine Nat.ne_of_gt ?_; k_extra "own cj"))
  k_with "own cj" => (with_reducible first | assumption | exact cjl0 (by assumption) | exact cjr0 (by assumption) | exact cjl1 (by assumption) | exact cjr1 (by assumption) | exact cjl2 (by assumption) | exact cjr2 (by assumption) | exact cjl3 (by assumption) | exact cjr3 (by assumption) | exact cjl4 (by assumption) | exact cjr4 (by assumption) | exact cjl5 (by assumption) | exact cjr5 (by assumption) | exact cjl6 (by assumption) | exact cjr6 (by assumption) | exact cjl7 (by assumption) | exact cjr7 (by assumption) | exact cjl8 (by assumption) | exact cjr8 (by assumption) | exact cjl9 (by assumption) | exact cjr9 (by assumption) | exact cjl10 (by assumption) | exact cjr10 (by assumption) | exact cjl11 (by assumption) | exact cjr11 (by assumption))
  k_with "own kne" => (refine neN ?_; (try dsimp only); k_extra "own ne0")
  k_with "own turn" => (unfold CTurn; intro I' oI' C' oC' D' m' ys' h' tk' E' hC' hx' F' N' off' ne'; (try (simp only [LCg.Off3, and_true] at off')); (try dsimp only); k_fold)
  k_with "own listcomp" => (k_here; k_dflt (refine ListComp_M (F₀ := by k_asm) (by with_unfolding_all rfl) (by decide) (by rfl) (by decide) (by rfl) ?_))
  k_with "own alistcomp" => (k_here; k_dflt (refine Assign_ListComp_M (F₀ := by k_asm) (by rfl) (by with_unfolding_all rfl) (by with_unfolding_all rfl) (by decide) (by rfl) (by decide) (by rfl) (by rfl) (by rfl) ?_))
  k_with "call ref" => first | (k_here; (with_reducible show wpAny _ _ (call (Value.ref 21) _) _ _ _); k_dflt (refine' Spec.use ?Bq21 ?Fq21 ?Xq21 ?Nq21 ?Tq21 (signs_ok) ?Pq21 ?Dq21 ?hkq21 ?hdq21 ?huq21 ?_; (case Bq21 | Fq21 | Xq21 | Nq21 | Tq21 => k_asm);  (case Pq21 => k_extra "own picks"); (case Dq21 => k_extra "own apart"); (case hkq21 => first | exact rfl | assumption); (case hdq21 => ktr_room); (case huq21 => ktr_units)); intro r9 own9 h9 tk9 F9 N9 D9 hp9; (obtain ⟨Ds, vs9, n9, er9, eo9, hi9⟩ := hp9; subst er9; subst eo9); revert N9 D9; k_extra "own after") | (k_here; (with_reducible show wpAny _ _ (call (Value.ref 28) _) _ _ _); k_dflt (refine' Spec.use ?Bq21 ?Fq21 ?Xq21 ?Nq21 ?Tq21 (units_ok ?saq21) ?Pq21 ?Dq21 ?hkq21 ?hdq21 ?huq21 ?_; (case Bq21 | Fq21 | Xq21 | Nq21 | Tq21 => k_asm); (case saq21 => with_reducible assumption); (case Pq21 => k_extra "own picks"); (case Dq21 => k_extra "own apart"); (case hkq21 => first | exact rfl | assumption); (case hdq21 => ktr_room); (case huq21 => ktr_units)); intro r9 own9 h9 tk9 F9 N9 D9 hp9; (obtain ⟨Ds, vs9, n9, er9, eo9, hi9⟩ := hp9; subst er9; subst eo9); revert N9 D9; k_extra "own after")
  k_with "getMethod bytes" => (k_here; (with_reducible refine method_starts ?_))
  k_with "call builtin:bytes.startswith" => (k_here; (try dsimp only [List.cons_append, List.nil_append]); k_dflt (refine call_starts (by with_reducible assumption) ?_))
  k_with "eval ListComp" => k_extra "own listcomp"
  k_with "exec For Name Call cons nil" => k_extra "own for"
  k_with "pyIter ref" => (k_here; first | ((with_unfolding_all refine' dlp (n := 256) plStep ?Fq26 ?Nq26 ?rq26 ?zq26 ?dq26 ?fq26 ?Pq26 ?nnq26 ?gq26 rfl ?_ ?_; (case Fq26 => k_asm); (case Nq26 => k_asm); (case rq26 => assumption); (case zq26 => first | rfl | decide); (case dq26 => k_asm); (case fq26 => k_asm); (case Pq26 => k_extra "own pick"); (case nnq26 => decide); (case gq26 => exact plStep_len)); all_goals (first | (intro k9 t9 c9 o9 kvs9 I9 oI9 h9 tk9 hlo9 hhi9 hd9 hf9 hc9 hoff9 F9 N9; (try simp only [OffL, and_true] at hoff9); (have hhi8 := Int.toNat_of_nonneg hlo9); (try k_unmd); k_fold) | (intro q9 o9 kvs9 h9 tk9 hd9 hf9 F9 N9; k_dflt (replace hf9 : PyProof.V.FlatPairs PyData.int kvs9 (kdfD plC) := hf9); (try dsimp only)))) | ((with_unfolding_all refine' lfill hiLo ?Fq26 ?Nq26 ?lq26 ?mq26 ?iq26 ?neq26 ?lenq26 rfl ?_ ?_; (case Fq26 => k_asm); (case Nq26 => k_asm); (case lq26 => k_mem); (case iq26 => with_reducible assumption); (case mq26 => k_mem); (case neq26 => first | k_ne | omega); (case lenq26 => exact hiLo_fit (units_fit (by assumption)))); all_goals (first | (intro n9 t9 us9 xs9 k9 I9 oI9 h9 tk9 hm9 hi9 hl9 hne9 F9 N9; k_fold) | (intro q9 us9 k9 h9 tk9 hi9 hl9 F9 N9; (try dsimp only)))))
  k_with "LpPost" => dsimp only [LpPost]
  k_with "subscriptTail" => (k_here; (with_reducible show wpAny _ _ (subscriptTail _ _ (Value.ref _) (Value.int _ _)) _ _ _); first | (k_dflt (refine' kdf_item ?k1q28 ?k2q28 ?_; (case k1q28 => k_tabat); (case k2q28 => exact has_of_all (by with_reducible assumption) (by with_reducible assumption))); intro _) | (k_dflt (refine' item_ints ?k1q28 ?k2q28 ?k3q28 ?k4q28 ?k5q28 ?k6q28 ?_ ?k7q28; (case k1q28 => k_asm); (case k2q28 => k_mem); (case k3q28 => with_reducible assumption); (case k4q28 => omega); (case k5q28 => rw [sigC_len]; omega); (case k6q28 => omega); (case k7q28 => with_unfolding_all rfl); k_whole); intro _))
  k_with "setItem ref int" => (k_here; (with_reducible show wpAny _ _ (setItem (Value.ref _) (Value.int _ _) (Value.int _ _)) _ _ _); k_dflt (refine' kdf_setItem ?Fq29 ?Nq29 ?Uq29 ?dq29 ?fq29 ?zq29 ?_; (case Fq29 => k_asm); (case Nq29 => k_asm); (case Uq29 => k_updF); (case dq29 => k_asm); (case fq29 => k_asm); (case zq29 => omega)); intro h' o' kvs' F' N' hd' hf'; (try dsimp only at N'); (try k_sweep))
  k_with "call builtin:list.append" => k_extra "own append"
  k_with "CSrc" => (k_here; (with_reducible show CSrc _ _ _ _ _ _ _ _ _ _ _ _ _ (Value.str _ _) _); first | ((with_reducible rename (List.all _ _ = true) => hAll9); k_dflt (refine' CSrc.text (fun c v => ∃ t, v = .int (kdfLook plC c 0) t) rfl ?k2q31 ?k3q31 ?k4q31 ?_ ?_; (case k2q31 => k_asm); (case k3q31 => k_asm); (case k4q31 => omega)); all_goals (first | (intro c9 u9 g9 hc9; k_extra "own turn") | (intro ys9 g9 hy9; have hy9 := Each.ints hy9))) | (k_dflt (refine' CSrc.text (fun c v => v = .bool (kdfHas plC c)) rfl ?k2q31 ?k3q31 ?k4q31 ?_ ?_; (case k2q31 => k_asm); (case k3q31 => k_asm); (case k4q31 => omega)); all_goals (first | (intro c9 u9 g9 hc9; k_extra "own turn") | (intro ys9 g9 hy9; have hy9 := Each.boolsAre hy9))))
  k_with "CompEnd" => first | k_dflt (exact LCg.CompEnd.intro (by k_asm) (by k_asm) _ (by kcf_all) (by first | assumption | k_extra "own off") (by trivial) ⟨rfl, ⟨_, rfl⟩⟩) | k_dflt (exact LCg.CompEnd.intro (by k_asm) (by k_asm) _ (by kcf_all) (by first | assumption | k_extra "own off") (by trivial) ⟨rfl, rfl⟩)
  k_with "compareOp In int ref" => (k_here; k_dflt (refine kdf_in (by k_tabat) ?_))
  k_with "call builtin:all" => (k_here; (with_reducible show wpAny _ _ (call (Value.builtin "all") [Value.ref _]) _ _ _); k_dflt (refine LSm.all_bools (by k_asm) (by k_asm) (by rfl) (News.isList (by k_asm) (by k_mem)) (by with_reducible assumption) ?_); intro h' tk' F' N')
  k_with "call type:bytes" => (k_here; (with_reducible show wpAny _ _ (call (Value.type "bytes") [Value.ref _]) _ _ _); k_dflt (refine' KBa.make_K ?kbaFq35 ?kbaNq35 ?kbahq35 ?kbalq35 ?kbaiq35 ?kbarq35 ?kbanq35 ?_; (case kbaFq35 => k_asm); (case kbaNq35 => k_asm); (case kbahq35 => rfl); (case kbalq35 => exact News.isList (by k_asm) (by k_mem)); (case kbaiq35 => with_reducible assumption); (case kbarq35 => first | exact look_ins _ | exact hiLo_in (units_in (by with_reducible assumption))); (case kbanq35 => first | omega | (rw [List.length_map, KStt.codes_length]; unfold PySem.Str.length; omega))); intro h' t' k' F' N' hIn9; have hIn9 := KBa.ints_make hIn9)
  k_with "binaryOp Add bytes bytes" => (k_here; k_dflt (refine' KBa.add_K (ks := [254, 255]) ?k1q36 ?k2q36 ?k3q36 ?_; (case k1q36 => rfl); (case k2q36 => with_reducible assumption); (case k3q36 => simp only [List.length_cons, List.length_nil]; omega)); intro _ _ _)
  k_with "LpEnd" => first | k_dflt (exact LpEnd.intro _ (by k_asm) ⟨⟨_, _, rfl, (by with_reducible assumption), plEnd_put (by with_reducible assumption) (by with_reducible assumption)⟩, (by k_extra "own same1")⟩ (by k_asm) (by k_memK) (by k_extra "own allin") (by k_all) (by k_extra "own allin0")) | k_dflt (exact LpEnd.intro _ (by k_asm) ⟨⟨_, _, rfl, (by with_reducible assumption), plEnd_skip (by with_reducible assumption) (by with_reducible assumption)⟩, (by k_extra "own same1")⟩ (by k_asm) (by k_memK) (by k_extra "own allin") (by k_all) (by k_extra "own allin0")) | k_dflt (exact LpEnd.intro _ (by k_asm) ⟨⟨_, _, rfl, fill_two (by with_reducible assumption)⟩, (by k_extra "own same1")⟩ (by k_asm) (by k_memK) (by k_extra "own allin") (by k_all) (by k_extra "own allin0"))
  w_on
  w_strict (refine' spec_ofC (binds := [(Str.ofString "text", .str x t)]) (by k_is) (by k_is) (fun s => BindsTo.of_eq rfl) (by rfl) (by decide +kernel) rfl rfl rfl (by decide) ?_; intro dp un gd cn cs L a ccd cl outer base g L' h₁ cells gens drawn os tk Q E B hk F N Y l1 X T hd hu hret A9; k_cells Y; (try simp only [List.cons_append, List.nil_append] at N); (try dsimp only); (try k_fold); k_steps; all_goals ((try dsimp only); (refine' hret _ _ _ _ _ ?ha News.nil ⟨⟨_, _, rfl, ?hc⟩, rfl⟩; (case ha => k_asm); (case hc => first | with_reducible exact (Eq.trans (by assumption) (octC_a (by assumption) (by assumption))) | with_reducible exact (Eq.trans (by assumption) (octC_b (by assumption))) | with_reducible exact (Eq.trans (by assumption) (octC_c (by assumption)))))))
end

--deps: P14_oct
noncomputable abbrev gallop' : Bool → Keyed → Array Keyed → Nat → Nat → Nat → StateT SortSt Sem (Option Nat) := sortPriv% PySem.Builtin.gallop
noncomputable abbrev mergeLo' : Array Keyed → Array Keyed → StateT SortSt Sem (Array Keyed) := sortPriv% PySem.Builtin.mergeLo
noncomputable abbrev mergeHi' : Array Keyed → Array Keyed → StateT SortSt Sem (Array Keyed) := sortPriv% PySem.Builtin.mergeHi
noncomputable def KIn (ks : List Int) (p : Keyed) : Prop := ∃ n t, p = (.int n t, .int n t) ∧ n ∈ ks
noncomputable def Good (ks : List Int) (xs : Array Keyed) : Prop := ∀ p ∈ xs, KIn ks p
structure SI (ks : List Int) (N : Nat) (P : Array (Nat × Nat × Nat)) (st : SortSt) : Prop where
  kind : kindOf st = oneType'
  failed : failedOf st = none
  pend : pendingOf st = P
  size : (arrOf st).size = N
  good : ∀ p ∈ arrOf st, KIn ks p
section
variable {prog : Program} {w : World} {A : Around} {E : Value → Shared → Prop} {s : Shared} {ks : List Int} {N : Nat} {P : Array (Nat × Nat × Nat)}
theorem wpS_elem {xs : Array Keyed} {i : Nat} {st : SortSt} {Q : Keyed → SortSt → Prop} (hi : i < xs.size) (h : ∀ p, p ∈ xs → Q p st) : wpS (model prog w) A E s (elem' xs i) Q st := by
  rw [elem'_eq, getElem?_pos xs i hi]
  exact wpS_pure (h _ (by simp))
theorem wpS_lt {p q : Keyed} {st : SortSt} {Q : Option Bool → SortSt → Prop} (hI : SI ks N P st) (hp : KIn ks p) (hq : KIn ks q) (h : ∀ b, Q (some b) st) : wpS (model prog w) A E s (lt' p q) Q st := by
  obtain ⟨a, t, rfl, _⟩ := hp
  obtain ⟨b, u, rfl, _⟩ := hq
  rw [lt'_eq]
  refine wpS_bind (wpS_get ?_)
  rw [hI.kind, keyLt'_oneType]
  refine wpS_bind (wpS_lift (wpAny_attempt (oneLt_int ⟨rfl, ?_⟩)))
  exact wpS_pure (h _)
theorem wpS_ltAtI {i j : Nat} {st : SortSt} {Q : Option Bool → SortSt → Prop} (hI : SI ks N P st) (hi : i < N) (hj : j < N) (h : ∀ b, Q (some b) st) : wpS (model prog w) A E s (ltAt' i j) Q st := by
  rw [ltAt'_eq]
  refine wpS_bind (wpS_get (wpS_bind (wpS_elem (by rw [hI.size]; exact hi) fun p hp => wpS_bind (wpS_elem (by rw [hI.size]; exact hj) fun q hq => ?_))))
  exact wpS_lt hI (hI.good p hp) (hI.good q hq) h
theorem wpS_gallop {left : Bool} {key : Keyed} {arr : Array Keyed} {base n hint : Nat} {st : SortSt} {Q : Option Nat → SortSt → Prop} (hI : SI ks N P st) (hk : KIn ks key) (ha : Good ks arr)
    (hb : base + n ≤ arr.size) (hh : hint < n) (h : ∀ k, k ≤ n → Q (some k) st) : wpS (model prog w) A E s (gallop' left key arr base n hint) Q st := by
  have beyond : ∀ {Q' : Option Bool → SortSt → Prop} (i : Nat), i < n → (∀ b, Q' (some b) st) → wpS (model prog w) A E s (do let x ← elem' arr (base + i); if left then lt' x key else return (← lt' key x).map (!·)) Q' st := by
    intro Q' i hi h'
    refine wpS_bind (wpS_elem (by omega) fun p hp => ?_)
    cases left with
    | true => exact wpS_lt hI (ha p hp) hk h'
    | false => exact wpS_bind (wpS_lt hI hk (ha p hp) fun b => wpS_pure (h' _))
  refine wpS_bind (beyond hint hh fun b => ?_)
  dsimp only
  split
  all_goals
    refine wpS_bind (wpS_mono (wpS_forRange (I := fun _ c st' => st' = st ∧ ∃ a b, c = (none, a, b)) (Q := fun c st' => st' = st ∧ ∃ a b, c = (none, a, b)) ?_ (fun _ _ h => h) ⟨rfl, _, _, rfl⟩) ?_)
    · rintro x c st' _ hx ⟨rfl, a, b, rfl⟩
      dsimp only
      split
      · exact wpS_pure ⟨rfl, _, _, rfl⟩
      · refine wpS_bind (beyond _ (by omega) fun b => ?_)
        try dsimp only
        split <;> exact wpS_pure ⟨rfl, _, _, rfl⟩
    · rintro c st' ⟨rfl, a, b, rfl⟩
      dsimp only
      refine wpS_bind (wpS_mono (wpS_forRange (I := fun _ c st'' => st'' = st' ∧ ∃ lo hi, c = (none, lo, hi) ∧ hi ≤ n) (Q := fun c st'' => st'' = st' ∧ ∃ lo hi, c = (none, lo, hi) ∧ hi ≤ n) ?_ (fun _ _ h => h) ⟨rfl, _, _, rfl, by omega⟩) ?_)
      · rintro x c st'' _ hx ⟨rfl, lo, hi, rfl, hl⟩
        try dsimp only
        split
        · exact wpS_pure ⟨rfl, _, _, rfl, hl⟩
        · refine wpS_bind (beyond _ (by omega) fun b => ?_)
          dsimp only
          split <;> exact wpS_pure ⟨rfl, _, _, rfl, by omega⟩
      · rintro c st'' ⟨rfl, lo, hi, rfl, hl⟩
        exact wpS_pure (h _ hl)
theorem Good.one {p : Keyed} (h : KIn ks p) : Good ks #[p] := by intro q hq; simp at hq; rw [hq]; exact h
theorem Good.push {xs : Array Keyed} {p : Keyed} (h : Good ks xs) (hp : KIn ks p) : Good ks (xs.push p) := by
  intro q hq; rcases Array.mem_push.mp hq with h1 | h1
  · exact h q h1
  · rw [h1]; exact hp
theorem Good.app {xs ys : Array Keyed} (h : Good ks xs) (h' : Good ks ys) : Good ks (xs ++ ys) := by
  intro q hq; rcases Array.mem_append.mp hq with h1 | h1
  · exact h q h1
  · exact h' q h1
theorem Good.ext {xs : Array Keyed} {i j : Nat} (h : Good ks xs) : Good ks (xs.extract i j) := by
  intro q hq
  obtain ⟨k, hk, e⟩ := Array.mem_extract_iff_getElem.mp hq
  exact h q (by rw [← e]; simp)
theorem Good.rev {xs : Array Keyed} (h : Good ks xs) : Good ks xs.reverse := by
  intro q hq; exact h q (by simpa using hq)
theorem Good.at {xs : Array Keyed} {p : Keyed} (hp : p ∈ xs) (h : Good ks xs) : KIn ks p := h p hp
noncomputable abbrev setMinGallop' : Nat → StateT SortSt Sem Unit := sortPriv% PySem.Builtin.setMinGallop
theorem wpS_gal {g : Nat} {st : SortSt} {Q : Unit → SortSt → Prop} (hI : SI ks N P st) (h : ∀ st', SI ks N P st' → Q () st') : wpS (model prog w) A E s (setMinGallop' g) Q st :=
  wpS_modify (h _ ⟨hI.kind, hI.failed, hI.pend, hI.size, hI.good⟩)
theorem wpS_ite {α : Type} {c : Prop} [Decidable c] {x y : StateT SortSt Sem α} {st : SortSt} {Q : α → SortSt → Prop} (hx : c → wpS (model prog w) A E s x Q st) (hy : ¬ c → wpS (model prog w) A E s y Q st) :
    wpS (model prog w) A E s (if c then x else y) Q st := by
  by_cases h : c
  · rw [if_pos h]; exact hx h
  · rw [if_neg h]; exact hy h
theorem wpS_iteb {α : Type} {a b : Nat} {x y : StateT SortSt Sem α} {st : SortSt} {Q : α → SortSt → Prop} (hx : a = b → wpS (model prog w) A E s x Q st) (hy : a ≠ b → wpS (model prog w) A E s y Q st) :
    wpS (model prog w) A E s (if (a == b) = true then x else y) Q st :=
  wpS_ite (fun h => hx (by simpa using h)) (fun h => hy (by simpa using h))
noncomputable abbrev elem2 : Array Keyed → Nat → StateT SortSt Sem Keyed := sortPriv% PySem.Builtin.elem
noncomputable abbrev lt2 : Keyed → Keyed → StateT SortSt Sem (Option Bool) := sortPriv% PySem.Builtin.lt
theorem wpS_elem2 {xs : Array Keyed} {i : Nat} {st : SortSt} {Q : Keyed → SortSt → Prop} (hi : i < xs.size) (h : ∀ p, p ∈ xs → Q p st) : wpS (model prog w) A E s (elem2 xs i) Q st := wpS_elem hi h
theorem wpS_lt2 {p q : Keyed} {st : SortSt} {Q : Option Bool → SortSt → Prop} (hI : SI ks N P st) (hp : KIn ks p) (hq : KIn ks q) (h : ∀ b, Q (some b) st) : wpS (model prog w) A E s (lt2 p q) Q st := wpS_lt hI hp hq h
/-! one step for a whole row of «there is»: the goal is written once -/
theorem q4 {S : Prop} {α β γ δ κ : Type} {c : κ} {f : α → β → γ → δ → κ} {R : α → β → γ → δ → Prop} {T : κ → Prop} (h : S ∧ ∃ a b x y, c = f a b x y ∧ R a b x y) (k : S → ∀ a b x y, R a b x y → T (f a b x y)) : T c := by
  obtain ⟨s, a, b, x, y, rfl, r⟩ := h; exact k s a b x y r
theorem q5 {S : Prop} {α β γ δ ε κ : Type} {c : κ} {f : α → β → γ → δ → ε → κ} {R : α → β → γ → δ → ε → Prop} {T : κ → Prop} (h : S ∧ ∃ a b x y z, c = f a b x y z ∧ R a b x y z) (k : S → ∀ a b x y z, R a b x y z → T (f a b x y z)) : T c := by
  obtain ⟨s, a, b, x, y, z, rfl, r⟩ := h; exact k s a b x y z r
theorem q6 {S : Prop} {α β γ δ ε ζ κ : Type} {c : κ} {f : α → β → γ → δ → ε → ζ → κ} {R : α → β → γ → δ → ε → ζ → Prop} {T : κ → Prop} (h : S ∧ ∃ a b x y z w, c = f a b x y z w ∧ R a b x y z w) (k : S → ∀ a b x y z w, R a b x y z w → T (f a b x y z w)) : T c := by
  obtain ⟨s, a, b, x, y, z, w, rfl, r⟩ := h; exact k s a b x y z w r
theorem q2 {S : Prop} {α β κ : Type} {c : κ} {f : α → β → κ} {R : α → β → Prop} {T : κ → Prop} (h : S ∧ ∃ a b, c = f a b ∧ R a b) (k : S → ∀ a b, R a b → T (f a b)) : T c := by
  obtain ⟨s, a, b, rfl, r⟩ := h; exact k s a b r
theorem qo {S V W : Prop} {T : Prop} (h : S ∧ (V ∨ W)) (k : S ∧ V → T) (l : S ∧ W → T) : T := by
  rcases h with ⟨s, v | w⟩
  · exact k ⟨s, v⟩
  · exact l ⟨s, w⟩
/-! two ways that meet: what stands behind is walked once -/
theorem jg {α : Type} {F t : Nat → StateT SortSt Sem α} {c : Nat → Prop} {dc : ∀ y, Decidable (c y)} {x : Nat → Nat} {st : SortSt} {Q : α → SortSt → Prop} (ht : ∀ y, t y = F (x y)) (h : ∀ g, wpS (model prog w) A E s (F g) Q st) :
    ∀ g, wpS (model prog w) A E s (@ite _ (c g) (dc g) (t g) (F g)) Q st := fun g =>
  @wpS_ite _ _ _ _ _ _ _ (dc g) _ _ _ _ (fun _ => ht g ▸ h _) (fun _ => h g)
theorem jk {α : Type} {F t : Array Keyed → Nat → StateT SortSt Sem α} {R R' : Array Keyed → Nat → Prop} {c : Prop} {dc : Decidable c} {st : SortSt} {Q : α → SortSt → Prop}
    (ht : ∀ o i, R' o i → (∀ o i, R o i → wpS (model prog w) A E s (F o i) Q st) → wpS (model prog w) A E s (t o i) Q st) (h : ∀ o i, R o i → wpS (model prog w) A E s (F o i) Q st) (hw : ∀ o i, R' o i → R o i) :
    ∀ o i, R' o i → wpS (model prog w) A E s (@ite _ c dc (t o i) (F o i)) Q st := fun o i h' =>
  @wpS_ite _ _ _ _ _ _ _ dc _ _ _ _ (fun _ => ht o i h' h) (fun _ => h o i (hw o i h'))
theorem gb {i n : Nat} (h : i < n) : i + (n - i) ≤ n := by omega
theorem gh {i n : Nat} (h : i < n) : 0 < n - i := by omega
theorem gk {i k n : Nat} (h : i < n) (hk : k ≤ n - i) : i + k ≤ n := by omega
theorem lz1 {m i k j : Nat} (h : m < i + j) : m < i + k + j := by omega
theorem lz2 {m i k j : Nat} (h : m < i + j) : m < i + (j + k) := by omega
theorem lz3 {z x i j : Nat} (h : z + min x 1 + 1 < i + j) : z + 1 < i + 1 + j := by omega
theorem lz4 {z x i j : Nat} (h : z + min x 1 + 1 < i + j) : z + min (x + 1) 1 < i + 1 + j := by omega
theorem hi_z {z x : Nat} : z + 1 ≤ z + min x 1 + 1 := by omega
theorem hi_y {z x : Nat} : z + min (x + 1) 1 ≤ z + min x 1 + 1 := by omega
theorem wpS_mergeLo {a b : Array Keyed} {st : SortSt} {Q : Array Keyed → SortSt → Prop} (hI : SI ks N P st) (ha : Good ks a) (hb : Good ks b) (h1 : 1 ≤ a.size) (h2 : 1 ≤ b.size)
    (h : ∀ out st', SI ks N P st' → Good ks out → Q out st') : wpS (model prog w) A E s (mergeLo' a b) Q st := by
  k_with_none
  k_with "own pick" => (first | exact Pick.head | (refine' Pick.tail ?ptq0; (case ptq0 => k_extra "own pick")))
  k_with "own picks" => (first | exact Picks.nil | (refine' Picks.cons ?ppq1 ?pqq1; (case ppq1 => k_extra "own pick"); (case pqq1 => k_extra "own picks")))
  k_with "own allin" => (with_unfolding_all ((try simp only [List.nil_append, List.cons_append]); k_allIn))
  k_with "own allin0" => (first | exact List.forall_mem_nil _ | k_extra "own allin")
  k_with "own same" => (intro z h1 h2; first | rfl | (simp [h1, h2]; done) | (simp_all; done))
  k_with "own same1" => (intro z h1; first | rfl | (simp [h1]; done) | (simp_all; done))
  k_with "own same3" => (intro z h1 h2 h3; first | rfl | (simp [h1, h2, h3]; done) | (simp_all; done))
  k_with "own for" => (k_here; (with_reducible rename Fr _ _ _ _ => lF'); (with_unfolding_all refine' For_invVF lF' ?k1q7 ?k2q7 ?_; (case k1q7 => exact rfl); (case k2q7 => exact rfl); k_whole))
  k_with "own apart" => (first | exact List.forall_mem_nil _ | (refine' apart_cons ?paq8 ?pbq8; (case paq8 => k_all); (case pbq8 => k_extra "own apart")))
  k_with "own after" => (intro N9 D9; (replace D9 := ApartL.of D9); (try simp only [ApartL, OffL, and_true] at D9); (try simp only [List.cons_append, List.nil_append] at N9); (try dsimp only); (try k_sweep); (try k_fold))
  k_with "own append" => (k_here; (try dsimp only [List.cons_append, List.nil_append]); (with_reducible show wpAny _ _ (call (Value.builtin _) [Value.ref _, Value.int _ _]) _ _ _); k_dflt (refine' app_ints ?k1q10 ?k2q10 ?k3q10 ?k4q10 ?k5q10 ?k6q10 ?_; (case k1q10 => k_asm); (case k2q10 => k_asm); (case k3q10 => k_updF); (case k4q10 => with_reducible assumption); (case k5q10 => with_reducible assumption); (case k6q10 => first | with_reducible assumption | omega); k_whole); intro us' h' hi' hl' F' N'; (try dsimp only at N'); (try k_sweep))
  k_with "own get" => (k_here; (try dsimp only [List.cons_append, List.nil_append]); (with_reducible show wpAny _ _ (call (Value.builtin "dict.get") [Value.ref _, Value.int _ _, Value.int _ _]) _ _ _); k_dflt (refine kdf_get2 (by k_tabat) ?_); intro _)
  k_with "own off" => ((try simp only [LCg.Off3, OffL, and_true]); k_extra "own offs")
  k_with "own offs" => (first | k_extra "own cj" | (with_reducible refine' And.intro ?oaq13 ?obq13; (case oaq13 => k_extra "own offs"); (case obq13 => k_extra "own offs")) | k_extra "own ne")
  k_with "own ne" => (first | k_extra "own ne0" | omega)
  k_with "own ne0" => (first | k_extra "own cj" | (with_reducible refine Ne.symm ?_; k_extra "own cj") | (with_reducible refine Nat.ne_of_lt ?_; k_extra "own cj") | (with_reducible refine Nat.ne_of_gt ?_; k_extra "own cj"))
  k_with "own cj" => (with_reducible first | assumption | exact cjl0 (by assumption) | exact cjr0 (by assumption) | exact cjl1 (by assumption) | exact cjr1 (by assumption) | exact cjl2 (by assumption) | exact cjr2 (by assumption) | exact cjl3 (by assumption) | exact cjr3 (by assumption) | exact cjl4 (by assumption) | exact cjr4 (by assumption) | exact cjl5 (by assumption) | exact cjr5 (by assumption) | exact cjl6 (by assumption) | exact cjr6 (by assumption) | exact cjl7 (by assumption) | exact cjr7 (by assumption) | exact cjl8 (by assumption) | exact cjr8 (by assumption) | exact cjl9 (by assumption) | exact cjr9 (by assumption) | exact cjl10 (by assumption) | exact cjr10 (by assumption) | exact cjl11 (by assumption) | exact cjr11 (by assumption))
  k_with "own kne" => (refine neN ?_; (try dsimp only); k_extra "own ne0")
  k_with "own turn" => (unfold CTurn; intro I' oI' C' oC' D' m' ys' h' tk' E' hC' hx' F' N' off' ne'; (try (simp only [LCg.Off3, and_true] at off')); (try dsimp only); k_fold)
  k_with "own listcomp" => (k_here; k_dflt (refine ListComp_M (F₀ := by k_asm) (by with_unfolding_all rfl) (by decide) (by rfl) (by decide) (by rfl) ?_))
  k_with "own alistcomp" => (k_here; k_dflt (refine Assign_ListComp_M (F₀ := by k_asm) (by rfl) (by with_unfolding_all rfl) (by with_unfolding_all rfl) (by decide) (by rfl) (by decide) (by rfl) (by rfl) (by rfl) ?_))
  k_with "good" => (with_reducible (repeat' first | assumption | refine Good.app ?_ ?_ | refine Good.push ?_ ?_ | refine Good.ext ?_ | refine Good.rev ?_ | refine Good.one ?_ | exact Good.at (by assumption) (by assumption)))
  refine wpS_bind (wpS_lift (wpAny_rule ⟨rfl, ?_⟩))
  refine wpS_bind (wpS_elem h2 fun p hp => ?_)
  dsimp only
  refine wpS_iteb (fun _ => wpS_pure (h _ _ hI (by k_extra "good"))) (fun hq => ?_)
  refine wpS_iteb (fun _ => wpS_pure (h _ _ hI (by k_extra "good"))) (fun hq' => ?_)
  have h1' := Nat.lt_of_le_of_ne h1 hq'
  have h2' := Nat.lt_of_le_of_ne h2 hq
  refine wpS_bind (wpS_get ?_)
  refine wpS_bind (wpS_mono (wpS_forRange
    (I := fun z c st' => SI ks N P st' ∧ ∃ out ia ib g, c = (none, out, ia, ib, g) ∧ Good ks out ∧ ia + 1 < a.size ∧ ib < b.size ∧ z < ia + ib)
    (Q := fun c st' => SI ks N P st' ∧ ∃ o t, c = (some o, t) ∧ Good ks o) ?_ ?_ ⟨hI, _, _, _, _, rfl, by k_extra "good", h1', h2', Nat.zero_lt_one⟩) ?_)
  · intro z c st' _ hz hh
    apply q4 (c := c) hh; intro hI' out ia ib g hr
    have hg := hr.1; have hia := hr.2.1; have hib := hr.2.2.1; have hzi := hr.2.2.2; clear hr hh hI h1 h2 hq hq' h1' h2' h hp
    dsimp only
    refine wpS_bind (wpS_mono (wpS_forRange
      (I := fun x c st' => SI ks N P st' ∧ ∃ out ia ib ac bc, c = (none, out, ia, ib, ac, bc) ∧ Good ks out ∧ ia + 1 < a.size ∧ ib < b.size ∧ z < ia + ib)
      (Q := fun c st' => SI ks N P st' ∧ ((∃ o t, c = (some o, t) ∧ Good ks o) ∨ ∃ out ia ib ac bc, c = (none, out, ia, ib, ac, bc) ∧ Good ks out ∧ ia + 1 < a.size ∧ ib < b.size ∧ z < ia + ib)) ?_ (fun c st h => ⟨h.1, .inr h.2⟩) ⟨hI', _, _, _, _, _, rfl, hg, hia, hib, hzi⟩) ?_)
    · clear hg hia hib hzi hI'
      intro x c st' _ hx hh
      apply q5 (c := c) hh; intro hI' out ia ib ac bc hr
      have hg := hr.1; have hia := hr.2.1; have hib := hr.2.2.1; have hzi := hr.2.2.2; clear hr hh
      dsimp only
      refine wpS_bind (wpS_elem2 hib fun p hp => wpS_bind (wpS_elem2 (Nat.lt_of_succ_lt hia) fun q hq => wpS_bind (wpS_lt2 hI' (hb _ hp) (ha _ hq) fun v => ?_)))
      dsimp only
      refine wpS_ite (fun _ => wpS_bind (wpS_elem2 hib fun p hp => ?_)) (fun _ => wpS_bind (wpS_elem2 (Nat.lt_of_succ_lt hia) fun q hq => ?_))
      · refine wpS_iteb (fun _ => wpS_pure ⟨hI', .inl ⟨_, _, rfl, by k_extra "good"⟩⟩) (fun h3 => ?_)
        have h3 := Nat.lt_of_le_of_ne hib h3
        exact wpS_ite (fun _ => wpS_pure ⟨hI', .inr ⟨_, _, _, _, _, rfl, by k_extra "good", hia, h3, Nat.lt_succ_of_lt hzi⟩⟩) (fun _ => wpS_pure ⟨hI', _, _, _, _, _, rfl, by k_extra "good", hia, h3, Nat.lt_succ_of_lt hzi⟩)
      · refine wpS_iteb (fun _ => wpS_pure ⟨hI', .inl ⟨_, _, rfl, by k_extra "good"⟩⟩) (fun h3 => ?_)
        have h3 := Nat.lt_of_le_of_ne hia h3
        exact wpS_ite (fun _ => wpS_pure ⟨hI', .inr ⟨_, _, _, _, _, rfl, by k_extra "good", h3, hib, lz1 hzi⟩⟩) (fun _ => wpS_pure ⟨hI', _, _, _, _, _, rfl, by k_extra "good", h3, hib, lz1 hzi⟩)
    · clear hg hia hib hzi hI'
      intro c st' hh
      refine qo hh (fun hh => ?_) (fun hh => ?_)
      · apply q2 (c := c) hh; intro hI' o t hg
        exact wpS_pure ⟨hI', _, _, rfl, hg⟩
      apply q5 (c := c) hh; intro hI' out ia ib ac bc hr
      have hg := hr.1; have hia := hr.2.1; have hib := hr.2.2.1; have hzi := hr.2.2.2; clear hr hh
      dsimp only
      refine wpS_bind (wpS_lift (wpAny_rule ⟨rfl, ?_⟩))
      refine wpS_bind (wpS_mono (wpS_forRange
        (I := fun x c st' => SI ks N P st' ∧ ∃ out ia ib g ac bc, c = (none, out, ia, ib, g, ac, bc) ∧ Good ks out ∧ ia + 1 < a.size ∧ ib < b.size ∧ z + min x 1 < ia + ib)
        (Q := fun c st' => SI ks N P st' ∧ ((∃ o t, c = (some o, t) ∧ Good ks o) ∨ ∃ out ia ib g ac bc, c = (none, out, ia, ib, g, ac, bc) ∧ Good ks out ∧ ia + 1 < a.size ∧ ib < b.size ∧ z + 1 < ia + ib)) ?_ ?_ ⟨hI', _, _, _, _, _, _, rfl, hg, hia, hib, hzi⟩) ?_)
      · clear hg hia hib hzi hI'
        intro x c st' _ hx hh
        apply q6 (c := c) hh; intro hI' out ia ib g ac bc hr
        have hg := hr.1; have hia := hr.2.1; have hib := hr.2.2.1; have hzi := hr.2.2.2; clear hr hh
        try dsimp only
        revert g; refine jg (fun _ => rfl) ?_; intro g
        refine wpS_bind (wpS_gal hI' fun st' hI' => wpS_bind (wpS_elem2 hib fun p hp => wpS_bind (wpS_gallop hI' (hb _ hp) ha (gb (Nat.lt_of_succ_lt hia)) (gh (Nat.lt_of_succ_lt hia)) fun k hk => ?_)))
        try dsimp only
        have hr : (Good ks out ∧ ia + 1 < a.size ∧ z + min x 1 < ia + ib) ∧ k ≤ a.size - ia := ⟨⟨hg, hia, hzi⟩, hk⟩
        clear hg hia hzi hk hp; revert hr; revert ia; revert out
        refine jk (R := fun o i => Good ks o ∧ i + 1 < a.size ∧ z + min x 1 < i + ib) ?ht ?_ (fun _ _ => And.left)
        case ht =>
          intro out ia hr hF
          have hg := hr.1.1; have hia := hr.1.2.1; have hzi := hr.1.2.2; have hk := hr.2; clear hr
          refine wpS_iteb (fun _ => wpS_pure ⟨hI', .inl ⟨_, _, rfl, by k_extra "good"⟩⟩) (fun h3 => wpS_iteb (fun _ => wpS_pure ⟨hI', .inl ⟨_, _, rfl, by k_extra "good"⟩⟩) (fun h4 => ?_))
          exact hF _ _ ⟨by k_extra "good", Nat.lt_of_le_of_ne (Nat.lt_of_le_of_ne (gk (Nat.lt_of_succ_lt hia) hk) h4) h3, lz1 hzi⟩
        intro out ia hr
        have hg := hr.1; have hia := hr.2.1; have hzi := hr.2.2; clear hr
        try dsimp only
        refine wpS_bind (wpS_elem2 hib fun p hp => wpS_iteb (fun _ => wpS_pure ⟨hI', .inl ⟨_, _, rfl, by k_extra "good"⟩⟩) (fun h3 => ?_))
        have hib : ib + 1 < b.size := Nat.lt_of_le_of_ne hib h3
        have hzi := Nat.succ_lt_succ hzi
        have hg : Good ks (out.push p) := by k_extra "good"
        refine wpS_bind (wpS_elem2 (Nat.lt_of_succ_lt hia) fun q hq => wpS_bind (wpS_gallop hI' (ha _ hq) hb (gb hib) (gh hib) fun k hk => ?_))
        try dsimp only
        clear h3 hp hq
        generalize out.push p = out at hg ⊢
        replace hzi : z + min x 1 + 1 < ia + (ib + 1) := hzi
        generalize ib + 1 = ib at hib hzi hk ⊢
        have hr : (Good ks out ∧ ib < b.size ∧ z + min x 1 + 1 < ia + ib) ∧ k ≤ b.size - ib := ⟨⟨hg, hib, hzi⟩, hk⟩
        clear hg hib hzi hk; revert hr; revert ib; revert out
        refine jk (R := fun o j => Good ks o ∧ j < b.size ∧ z + min x 1 + 1 < ia + j) ?ht ?_ (fun _ _ => And.left)
        case ht =>
          intro out ib hr hF
          have hg := hr.1.1; have hib := hr.1.2.1; have hzi := hr.1.2.2; have hk := hr.2; clear hr
          refine wpS_iteb (fun _ => wpS_pure ⟨hI', .inl ⟨_, _, rfl, by k_extra "good"⟩⟩) (fun h3 => ?_)
          exact hF _ _ ⟨by k_extra "good", Nat.lt_of_le_of_ne (gk hib hk) h3, lz2 hzi⟩
        intro out ib hr
        have hg := hr.1; have hib := hr.2.1; have hzi := hr.2.2; clear hr
        try dsimp only
        refine wpS_bind (wpS_elem2 (Nat.lt_of_succ_lt hia) fun q hq => wpS_iteb (fun _ => wpS_pure ⟨hI', .inl ⟨_, _, rfl, by k_extra "good"⟩⟩) (fun h3 => ?_))
        have hia := Nat.lt_of_le_of_ne hia h3
        exact wpS_ite (fun _ => wpS_pure ⟨hI', .inr ⟨_, _, _, _, _, _, rfl, by k_extra "good", hia, hib, lz3 hzi⟩⟩) (fun _ => wpS_pure ⟨hI', _, _, _, _, _, _, rfl, by k_extra "good", hia, hib, lz4 hzi⟩)
      · intro c st' hh
        apply q6 (c := c) hh; intro hI' out ia ib g ac bc hr
        have hg := hr.1; have hia := hr.2.1; have hib := hr.2.2.1; have hzi := hr.2.2.2; clear hr hh
        exact ⟨hI', .inr ⟨_, _, _, _, _, _, rfl, hg, hia, hib, by omega⟩⟩
      · intro c st' hh
        refine qo hh (fun hh => ?_) (fun hh => ?_)
        · apply q2 (c := c) hh; intro hI' o t hg
          exact wpS_pure ⟨hI', _, _, rfl, hg⟩
        apply q6 (c := c) hh; intro hI' out ia ib g ac bc hr
        have hg := hr.1; have hia := hr.2.1; have hib := hr.2.2.1; have hzi := hr.2.2.2; clear hr hh
        try dsimp only
        refine wpS_bind (wpS_gal hI' fun st' hI' => ?_)
        exact wpS_pure ⟨hI', _, _, _, _, rfl, hg, hia, hib, hzi⟩
  · intro c st' hh
    apply q4 (c := c) hh; intro hI' out ia ib g hr
    have hg := hr.1; have hia := hr.2.1; have hib := hr.2.2.1; have hzi := hr.2.2.2; clear hr hh
    omega
  · intro c st' hh
    apply q2 (c := c) hh; intro hI' o t hg
    exact wpS_pure (h _ _ hI' hg)
/-- where the two rests stand, from above -/
noncomputable def HiAt (n m z ia ib : Nat) : Prop := 1 ≤ ia ∧ ia ≤ n ∧ 2 ≤ ib ∧ ib ≤ m ∧ ia + ib + z < n + m
theorem HiAt.a {n m z ia ib : Nat} (h : HiAt n m z ia ib) (hq : ia - 1 ≠ 0) : HiAt n m z (ia - 1) ib := by obtain ⟨h1, h2, h3, h4, h5⟩ := h; unfold HiAt; omega
theorem HiAt.b {n m z ia ib : Nat} (h : HiAt n m z ia ib) (hq : ib - 1 ≠ 1) : HiAt n m (z + 1) ia (ib - 1) := by obtain ⟨h1, h2, h3, h4, h5⟩ := h; unfold HiAt; omega
theorem HiAt.b0 {n m z ia ib : Nat} (h : HiAt n m z ia ib) (hq : ib - 1 ≠ 1) : HiAt n m z ia (ib - 1) := by obtain ⟨h1, h2, h3, h4, h5⟩ := h; unfold HiAt; omega
theorem HiAt.ka {n m z ia ib k : Nat} (h : HiAt n m z ia ib) (hk : k ≤ ia) (hq : k ≠ 0) : HiAt n m z k ib := by obtain ⟨h1, h2, h3, h4, h5⟩ := h; unfold HiAt; omega
theorem HiAt.kb {n m z ia ib k : Nat} (h : HiAt n m z ia ib) (hk : k ≤ ib) (hq : k ≠ 1) (hq' : k ≠ 0) : HiAt n m z ia k := by obtain ⟨h1, h2, h3, h4, h5⟩ := h; unfold HiAt; omega
theorem HiAt.low {n m z z' ia ib : Nat} (h : HiAt n m z ia ib) (hz : z' ≤ z) : HiAt n m z' ia ib := by obtain ⟨h1, h2, h3, h4, h5⟩ := h; unfold HiAt; omega
theorem HiAt.la {n m z ia ib : Nat} (h : HiAt n m z ia ib) : ia - 1 < n := by obtain ⟨h1, h2, h3, h4, h5⟩ := h; omega
theorem HiAt.lb {n m z ia ib : Nat} (h : HiAt n m z ia ib) : ib - 1 < m := by obtain ⟨h1, h2, h3, h4, h5⟩ := h; omega
theorem HiAt.ga {n m z ia ib : Nat} (h : HiAt n m z ia ib) : 0 + ia ≤ n := by obtain ⟨h1, h2, h3, h4, h5⟩ := h; omega
theorem HiAt.gb {n m z ia ib : Nat} (h : HiAt n m z ia ib) : 0 + ib ≤ m := by obtain ⟨h1, h2, h3, h4, h5⟩ := h; omega
theorem HiAt.pa {n m z ia ib : Nat} (h : HiAt n m z ia ib) : ia - 1 < ia := Nat.sub_one_lt_of_lt h.1
theorem HiAt.pb {n m z ia ib : Nat} (h : HiAt n m z ia ib) : ib - 1 < ib := by obtain ⟨h1, h2, h3, h4, h5⟩ := h; omega
theorem HiAt.start {n m : Nat} (h1 : 1 ≤ n) (h2 : 1 ≤ m) (h3 : n - 1 ≠ 0) (h4 : m ≠ 1) : HiAt n m 0 (n - 1) m := by unfold HiAt; omega
theorem HiAt.stop {n m ia ib : Nat} (h : HiAt n m (n + m) ia ib) : False := by obtain ⟨h1, h2, h3, h4, h5⟩ := h; omega
theorem HiAt.full {n m z ia ib : Nat} (h : HiAt n m (z + min (n + m) 1) ia ib) : HiAt n m (z + 1) ia ib := by obtain ⟨h1, h2, h3, h4, h5⟩ := h; unfold HiAt; omega
theorem wpS_mergeHi {a b : Array Keyed} {st : SortSt} {Q : Array Keyed → SortSt → Prop} (hI : SI ks N P st) (ha : Good ks a) (hb : Good ks b) (h1 : 1 ≤ a.size) (h2 : 1 ≤ b.size)
    (h : ∀ out st', SI ks N P st' → Good ks out → Q out st') : wpS (model prog w) A E s (mergeHi' a b) Q st := by
  k_with_none
  k_with "own pick" => (first | exact Pick.head | (refine' Pick.tail ?ptq0; (case ptq0 => k_extra "own pick")))
  k_with "own picks" => (first | exact Picks.nil | (refine' Picks.cons ?ppq1 ?pqq1; (case ppq1 => k_extra "own pick"); (case pqq1 => k_extra "own picks")))
  k_with "own allin" => (with_unfolding_all ((try simp only [List.nil_append, List.cons_append]); k_allIn))
  k_with "own allin0" => (first | exact List.forall_mem_nil _ | k_extra "own allin")
  k_with "own same" => (intro z h1 h2; first | rfl | (simp [h1, h2]; done) | (simp_all; done))
  k_with "own same1" => (intro z h1; first | rfl | (simp [h1]; done) | (simp_all; done))
  k_with "own same3" => (intro z h1 h2 h3; first | rfl | (simp [h1, h2, h3]; done) | (simp_all; done))
  k_with "own for" => (k_here; (with_reducible rename Fr _ _ _ _ => lF'); (with_unfolding_all refine' For_invVF lF' ?k1q7 ?k2q7 ?_; (case k1q7 => exact rfl); (case k2q7 => exact rfl); k_whole))
  k_with "own apart" => (first | exact List.forall_mem_nil _ | (refine' apart_cons ?paq8 ?pbq8; (case paq8 => k_all); (case pbq8 => k_extra "own apart")))
  k_with "own after" => (intro N9 D9; (replace D9 := ApartL.of D9); (try simp only [ApartL, OffL, and_true] at D9); (try simp only [List.cons_append, List.nil_append] at N9); (try dsimp only); (try k_sweep); (try k_fold))
  k_with "own append" => (k_here; (try dsimp only [List.cons_append, List.nil_append]); (with_reducible show wpAny _ _ (call (Value.builtin _) [Value.ref _, Value.int _ _]) _ _ _); k_dflt (refine' app_ints ?k1q10 ?k2q10 ?k3q10 ?k4q10 ?k5q10 ?k6q10 ?_; (case k1q10 => k_asm); (case k2q10 => k_asm); (case k3q10 => k_updF); (case k4q10 => with_reducible assumption); (case k5q10 => with_reducible assumption); (case k6q10 => first | with_reducible assumption | omega); k_whole); intro us' h' hi' hl' F' N'; (try dsimp only at N'); (try k_sweep))
  k_with "own get" => (k_here; (try dsimp only [List.cons_append, List.nil_append]); (with_reducible show wpAny _ _ (call (Value.builtin "dict.get") [Value.ref _, Value.int _ _, Value.int _ _]) _ _ _); k_dflt (refine kdf_get2 (by k_tabat) ?_); intro _)
  k_with "own off" => ((try simp only [LCg.Off3, OffL, and_true]); k_extra "own offs")
  k_with "own offs" => (first | k_extra "own cj" | (with_reducible refine' And.intro ?oaq13 ?obq13; (case oaq13 => k_extra "own offs"); (case obq13 => k_extra "own offs")) | k_extra "own ne")
  k_with "own ne" => (first | k_extra "own ne0" | omega)
  k_with "own ne0" => (first | k_extra "own cj" | (with_reducible refine Ne.symm ?_; k_extra "own cj") | (with_reducible refine Nat.ne_of_lt ?_; k_extra "own cj") | (with_reducible refine Nat.ne_of_gt ?_; k_extra "own cj"))
  k_with "own cj" => (with_reducible first | assumption | exact cjl0 (by assumption) | exact cjr0 (by assumption) | exact cjl1 (by assumption) | exact cjr1 (by assumption) | exact cjl2 (by assumption) | exact cjr2 (by assumption) | exact cjl3 (by assumption) | exact cjr3 (by assumption) | exact cjl4 (by assumption) | exact cjr4 (by assumption) | exact cjl5 (by assumption) | exact cjr5 (by assumption) | exact cjl6 (by assumption) | exact cjr6 (by assumption) | exact cjl7 (by assumption) | exact cjr7 (by assumption) | exact cjl8 (by assumption) | exact cjr8 (by assumption) | exact cjl9 (by assumption) | exact cjr9 (by assumption) | exact cjl10 (by assumption) | exact cjr10 (by assumption) | exact cjl11 (by assumption) | exact cjr11 (by assumption))
  k_with "own kne" => (refine neN ?_; (try dsimp only); k_extra "own ne0")
  k_with "own turn" => (unfold CTurn; intro I' oI' C' oC' D' m' ys' h' tk' E' hC' hx' F' N' off' ne'; (try (simp only [LCg.Off3, and_true] at off')); (try dsimp only); k_fold)
  k_with "own listcomp" => (k_here; k_dflt (refine ListComp_M (F₀ := by k_asm) (by with_unfolding_all rfl) (by decide) (by rfl) (by decide) (by rfl) ?_))
  k_with "own alistcomp" => (k_here; k_dflt (refine Assign_ListComp_M (F₀ := by k_asm) (by rfl) (by with_unfolding_all rfl) (by with_unfolding_all rfl) (by decide) (by rfl) (by decide) (by rfl) (by rfl) (by rfl) ?_))
  k_with "good" => (with_reducible (repeat' first | assumption | refine Good.app ?_ ?_ | refine Good.push ?_ ?_ | refine Good.ext ?_ | refine Good.rev ?_ | refine Good.one ?_ | exact Good.at (by assumption) (by assumption)))
  refine wpS_bind (wpS_lift (wpAny_rule ⟨rfl, ?_⟩))
  refine wpS_bind (wpS_elem (Nat.sub_one_lt_of_lt h1) fun p hp => ?_)
  dsimp only
  refine wpS_iteb (fun _ => wpS_pure (h _ _ hI (by k_extra "good"))) (fun hq => ?_)
  refine wpS_iteb (fun _ => wpS_pure (h _ _ hI (by k_extra "good"))) (fun hq' => ?_)
  have hH := HiAt.start h1 h2 hq hq'
  refine wpS_bind (wpS_get ?_)
  refine wpS_bind (wpS_mono (wpS_forRange
    (I := fun z c st' => SI ks N P st' ∧ ∃ ia ib out g, c = (none, ia, ib, out, g) ∧ Good ks out ∧ HiAt a.size b.size z ia ib)
    (Q := fun c st' => SI ks N P st' ∧ ∃ o t, c = (some o, t) ∧ Good ks o) ?_ ?_ ⟨hI, _, _, _, _, rfl, by k_extra "good", hH⟩) ?_)
  · intro z c st' _ hz hh
    apply q4 (c := c) hh; intro hI' ia ib out g hr
    have hg := hr.1; have hH := hr.2; clear hr hh hI h1 h2 hq hq' h hp
    dsimp only
    refine wpS_bind (wpS_mono (wpS_forRange
      (I := fun x c st' => SI ks N P st' ∧ ∃ ia ib out ac bc, c = (none, ia, ib, out, ac, bc) ∧ Good ks out ∧ HiAt a.size b.size z ia ib)
      (Q := fun c st' => SI ks N P st' ∧ ((∃ o t, c = (some o, t) ∧ Good ks o) ∨ ∃ ia ib out ac bc, c = (none, ia, ib, out, ac, bc) ∧ Good ks out ∧ HiAt a.size b.size z ia ib)) ?_ (fun c st h => ⟨h.1, .inr h.2⟩) ⟨hI', _, _, _, _, _, rfl, hg, hH⟩) ?_)
    · clear hg hH hI'
      intro x c st' _ hx hh
      apply q5 (c := c) hh; intro hI' ia ib out ac bc hr
      have hg := hr.1; have hH := hr.2; clear hr hh
      dsimp only
      refine wpS_bind (wpS_elem2 hH.lb fun p hp => wpS_bind (wpS_elem2 hH.la fun q hq => wpS_bind (wpS_lt2 hI' (hb _ hp) (ha _ hq) fun v => ?_)))
      dsimp only
      refine wpS_ite (fun _ => wpS_bind (wpS_elem2 hH.la fun p hp => ?_)) (fun _ => wpS_bind (wpS_elem2 hH.lb fun q hq => ?_))
      · refine wpS_iteb (fun _ => wpS_pure ⟨hI', .inl ⟨_, _, rfl, by k_extra "good"⟩⟩) (fun h3 => ?_)
        exact wpS_ite (fun _ => wpS_pure ⟨hI', .inr ⟨_, _, _, _, _, rfl, by k_extra "good", hH.a h3⟩⟩) (fun _ => wpS_pure ⟨hI', _, _, _, _, _, rfl, by k_extra "good", hH.a h3⟩)
      · refine wpS_iteb (fun _ => wpS_pure ⟨hI', .inl ⟨_, _, rfl, by k_extra "good"⟩⟩) (fun h3 => ?_)
        exact wpS_ite (fun _ => wpS_pure ⟨hI', .inr ⟨_, _, _, _, _, rfl, by k_extra "good", hH.b0 h3⟩⟩) (fun _ => wpS_pure ⟨hI', _, _, _, _, _, rfl, by k_extra "good", hH.b0 h3⟩)
    · clear hg hH hI'
      intro c st' hh
      refine qo hh (fun hh => ?_) (fun hh => ?_)
      · apply q2 (c := c) hh; intro hI' o t hg
        exact wpS_pure ⟨hI', _, _, rfl, hg⟩
      apply q5 (c := c) hh; intro hI' ia ib out ac bc hr
      have hg := hr.1; have hH := hr.2; clear hr hh
      dsimp only
      refine wpS_bind (wpS_lift (wpAny_rule ⟨rfl, ?_⟩))
      refine wpS_bind (wpS_mono (wpS_forRange
        (I := fun x c st' => SI ks N P st' ∧ ∃ ia ib out g ac bc, c = (none, ia, ib, out, g, ac, bc) ∧ Good ks out ∧ HiAt a.size b.size (z + min x 1) ia ib)
        (Q := fun c st' => SI ks N P st' ∧ ((∃ o t, c = (some o, t) ∧ Good ks o) ∨ ∃ ia ib out g ac bc, c = (none, ia, ib, out, g, ac, bc) ∧ Good ks out ∧ HiAt a.size b.size (z + 1) ia ib)) ?_ ?_ ⟨hI', _, _, _, _, _, _, rfl, hg, hH⟩) ?_)
      · clear hg hH hI'
        intro x c st' _ hx hh
        apply q6 (c := c) hh; intro hI' ia ib out g ac bc hr
        have hg := hr.1; have hH := hr.2; clear hr hh
        try dsimp only
        revert g; refine jg (fun _ => rfl) ?_; intro g
        refine wpS_bind (wpS_gal hI' fun st' hI' => wpS_bind (wpS_elem2 hH.lb fun p hp => wpS_bind (wpS_gallop hI' (hb _ hp) ha hH.ga hH.pa fun k hk => ?_)))
        try dsimp only
        generalize ia - k = kk
        have hr : (Good ks out ∧ HiAt a.size b.size (z + min x 1) ia ib) ∧ k ≤ ia := ⟨⟨hg, hH⟩, hk⟩
        clear hg hH hk hp; revert hr; revert ia; revert out
        refine jk (R := fun o i => Good ks o ∧ HiAt a.size b.size (z + min x 1) i ib) ?ht ?_ (fun _ _ => And.left)
        case ht =>
          intro out ia hr hF
          have hg := hr.1.1; have hH := hr.1.2; have hk := hr.2; clear hr
          refine wpS_iteb (fun _ => wpS_pure ⟨hI', .inl ⟨_, _, rfl, by k_extra "good"⟩⟩) (fun h3 => ?_)
          exact hF _ _ ⟨by k_extra "good", hH.ka hk h3⟩
        intro out ia hr
        have hg := hr.1; have hH := hr.2; clear hr
        try dsimp only
        refine wpS_bind (wpS_elem2 hH.lb fun p hp => wpS_iteb (fun _ => wpS_pure ⟨hI', .inl ⟨_, _, rfl, by k_extra "good"⟩⟩) (fun h3 => ?_))
        have hH := hH.b h3
        have hg : Good ks (out.push p) := by k_extra "good"
        refine wpS_bind (wpS_elem2 hH.la fun q hq => wpS_bind (wpS_gallop hI' (ha _ hq) hb hH.gb hH.pb fun k hk => ?_))
        try dsimp only
        clear h3 hp hq
        generalize out.push p = out at hg ⊢
        generalize ib - 1 = ib at hH hk ⊢
        generalize ib - k = kk
        have hr : (Good ks out ∧ HiAt a.size b.size (z + min x 1 + 1) ia ib) ∧ k ≤ ib := ⟨⟨hg, hH⟩, hk⟩
        clear hg hH hk; revert hr; revert ib; revert out
        refine jk (R := fun o j => Good ks o ∧ HiAt a.size b.size (z + min x 1 + 1) ia j) ?ht ?_ (fun _ _ => And.left)
        case ht =>
          intro out ib hr hF
          have hg := hr.1.1; have hH := hr.1.2; have hk := hr.2; clear hr
          refine wpS_iteb (fun _ => wpS_pure ⟨hI', .inl ⟨_, _, rfl, by k_extra "good"⟩⟩) (fun h3 => wpS_iteb (fun _ => wpS_pure ⟨hI', .inl ⟨_, _, rfl, by k_extra "good"⟩⟩) (fun h4 => ?_))
          exact hF _ _ ⟨by k_extra "good", hH.kb hk h3 h4⟩
        intro out ib hr
        have hg := hr.1; have hH := hr.2; clear hr
        try dsimp only
        refine wpS_bind (wpS_elem2 hH.la fun q hq => wpS_iteb (fun _ => wpS_pure ⟨hI', .inl ⟨_, _, rfl, by k_extra "good"⟩⟩) (fun h3 => ?_))
        have hH := hH.a h3
        exact wpS_ite (fun _ => wpS_pure ⟨hI', .inr ⟨_, _, _, _, _, _, rfl, by k_extra "good", hH.low hi_z⟩⟩) (fun _ => wpS_pure ⟨hI', _, _, _, _, _, _, rfl, by k_extra "good", hH.low hi_y⟩)
      · intro c st' hh
        apply q6 (c := c) hh; intro hI' ia ib out g ac bc hr
        have hg := hr.1; have hH := hr.2; clear hr hh
        exact ⟨hI', .inr ⟨_, _, _, _, _, _, rfl, hg, hH.full⟩⟩
      · intro c st' hh
        refine qo hh (fun hh => ?_) (fun hh => ?_)
        · apply q2 (c := c) hh; intro hI' o t hg
          exact wpS_pure ⟨hI', _, _, rfl, hg⟩
        apply q6 (c := c) hh; intro hI' ia ib out g ac bc hr
        have hg := hr.1; have hH := hr.2; clear hr hh
        try dsimp only
        refine wpS_bind (wpS_gal hI' fun st' hI' => ?_)
        exact wpS_pure ⟨hI', _, _, _, _, rfl, hg, hH⟩
  · intro c st' hh
    apply q4 (c := c) hh; intro hI' ia ib out g hr
    exact hr.2.stop.elim
  · intro c st' hh
    apply q2 (c := c) hh; intro hI' o t hg
    exact wpS_pure (h _ _ hI' hg)
end
section
variable {prog : Program} {w : World} {A : Around} {E : Value → Shared → Prop} {s : Shared} {ks : List Int} {N : Nat} {P : Array (Nat × Nat × Nat)}
noncomputable abbrev ltAt2 : Nat → Nat → StateT SortSt Sem (Option Bool) := sortPriv% PySem.Builtin.ltAt
noncomputable abbrev rev2 : Nat → Nat → StateT SortSt Sem Unit := sortPriv% PySem.Builtin.reverseSlice
noncomputable abbrev move2 : Nat → Nat → StateT SortSt Sem Unit := sortPriv% PySem.Builtin.moveDown
noncomputable abbrev countRun2 : Nat → Nat → StateT SortSt Sem (Option Nat) := sortPriv% PySem.Builtin.countRun
noncomputable abbrev binarySort2 : Nat → Nat → Nat → StateT SortSt Sem Bool := sortPriv% PySem.Builtin.binarySort
theorem SI.set {st : SortSt} (hI : SI ks N P st) {xs : Array Keyed} (hp : xs.Perm (arrOf st)) : SI ks N P (setArr st xs) :=
  ⟨hI.kind, hI.failed, hI.pend, hp.size_eq.trans hI.size, fun p h => hI.good p (by
    have := (Array.perm_iff_toList_perm.mp hp).mem_iff (a := p)
    exact Array.mem_toList_iff.mp (this.mp (Array.mem_toList_iff.mpr h)))⟩
theorem wpS_ltAt2 {i j : Nat} {st : SortSt} {Q : Option Bool → SortSt → Prop} (hI : SI ks N P st) (hi : i < N) (hj : j < N) (h : ∀ b, Q (some b) st) : wpS (model prog w) A E s (ltAt2 i j) Q st := wpS_ltAtI hI hi hj h
theorem wpS_rev2 {i j : Nat} {st : SortSt} {Q : Unit → SortSt → Prop} (hI : SI ks N P st) (h : ∀ st', SI ks N P st' → Q () st') : wpS (model prog w) A E s (rev2 i j) Q st :=
  wpS_modify (h _ (hI.set (mirror_perm _ _ _ _)))
theorem wpS_move2 {i j : Nat} {st : SortSt} {Q : Unit → SortSt → Prop} (hI : SI ks N P st) (h : ∀ st', SI ks N P st' → Q () st') : wpS (model prog w) A E s (move2 i j) Q st :=
  wpS_modify (h _ (hI.set (bubble_perm _ _ _)))
theorem wpS_countRunI {lo nrem : Nat} {st : SortSt} {Q : Option Nat → SortSt → Prop} (hI : SI ks N P st) (hb : lo + nrem ≤ N) (h1 : 1 ≤ nrem)
    (h : ∀ n st', SI ks N P st' → 1 ≤ n → n ≤ nrem → Q (some n) st') : wpS (model prog w) A E s (countRun2 lo nrem) Q st := by
  k_with_none
  k_with "own pick" => (first | exact Pick.head | (refine' Pick.tail ?ptq0; (case ptq0 => k_extra "own pick")))
  k_with "own picks" => (first | exact Picks.nil | (refine' Picks.cons ?ppq1 ?pqq1; (case ppq1 => k_extra "own pick"); (case pqq1 => k_extra "own picks")))
  k_with "own allin" => (with_unfolding_all ((try simp only [List.nil_append, List.cons_append]); k_allIn))
  k_with "own allin0" => (first | exact List.forall_mem_nil _ | k_extra "own allin")
  k_with "own same" => (intro z h1 h2; first | rfl | (simp [h1, h2]; done) | (simp_all; done))
  k_with "own same1" => (intro z h1; first | rfl | (simp [h1]; done) | (simp_all; done))
  k_with "own same3" => (intro z h1 h2 h3; first | rfl | (simp [h1, h2, h3]; done) | (simp_all; done))
  k_with "own for" => (k_here; (with_reducible rename Fr _ _ _ _ => lF'); (with_unfolding_all refine' For_invVF lF' ?k1q7 ?k2q7 ?_; (case k1q7 => exact rfl); (case k2q7 => exact rfl); k_whole))
  k_with "own apart" => (first | exact List.forall_mem_nil _ | (refine' apart_cons ?paq8 ?pbq8; (case paq8 => k_all); (case pbq8 => k_extra "own apart")))
  k_with "own after" => (intro N9 D9; (replace D9 := ApartL.of D9); (try simp only [ApartL, OffL, and_true] at D9); (try simp only [List.cons_append, List.nil_append] at N9); (try dsimp only); (try k_sweep); (try k_fold))
  k_with "own append" => (k_here; (try dsimp only [List.cons_append, List.nil_append]); (with_reducible show wpAny _ _ (call (Value.builtin _) [Value.ref _, Value.int _ _]) _ _ _); k_dflt (refine' app_ints ?k1q10 ?k2q10 ?k3q10 ?k4q10 ?k5q10 ?k6q10 ?_; (case k1q10 => k_asm); (case k2q10 => k_asm); (case k3q10 => k_updF); (case k4q10 => with_reducible assumption); (case k5q10 => with_reducible assumption); (case k6q10 => first | with_reducible assumption | omega); k_whole); intro us' h' hi' hl' F' N'; (try dsimp only at N'); (try k_sweep))
  k_with "own get" => (k_here; (try dsimp only [List.cons_append, List.nil_append]); (with_reducible show wpAny _ _ (call (Value.builtin "dict.get") [Value.ref _, Value.int _ _, Value.int _ _]) _ _ _); k_dflt (refine kdf_get2 (by k_tabat) ?_); intro _)
  k_with "own off" => ((try simp only [LCg.Off3, OffL, and_true]); k_extra "own offs")
  k_with "own offs" => (first | k_extra "own cj" | (with_reducible refine' And.intro ?oaq13 ?obq13; (case oaq13 => k_extra "own offs"); (case obq13 => k_extra "own offs")) | k_extra "own ne")
  k_with "own ne" => (first | k_extra "own ne0" | omega)
  k_with "own ne0" => (first | k_extra "own cj" | (with_reducible refine Ne.symm ?_; k_extra "own cj") | (with_reducible refine Nat.ne_of_lt ?_; k_extra "own cj") | (with_reducible refine Nat.ne_of_gt ?_; k_extra "own cj"))
  k_with "own cj" => (with_reducible first | assumption | exact cjl0 (by assumption) | exact cjr0 (by assumption) | exact cjl1 (by assumption) | exact cjr1 (by assumption) | exact cjl2 (by assumption) | exact cjr2 (by assumption) | exact cjl3 (by assumption) | exact cjr3 (by assumption) | exact cjl4 (by assumption) | exact cjr4 (by assumption) | exact cjl5 (by assumption) | exact cjr5 (by assumption) | exact cjl6 (by assumption) | exact cjr6 (by assumption) | exact cjl7 (by assumption) | exact cjr7 (by assumption) | exact cjl8 (by assumption) | exact cjr8 (by assumption) | exact cjl9 (by assumption) | exact cjr9 (by assumption) | exact cjl10 (by assumption) | exact cjr10 (by assumption) | exact cjl11 (by assumption) | exact cjr11 (by assumption))
  k_with "own kne" => (refine neN ?_; (try dsimp only); k_extra "own ne0")
  k_with "own turn" => (unfold CTurn; intro I' oI' C' oC' D' m' ys' h' tk' E' hC' hx' F' N' off' ne'; (try (simp only [LCg.Off3, and_true] at off')); (try dsimp only); k_fold)
  k_with "own listcomp" => (k_here; k_dflt (refine ListComp_M (F₀ := by k_asm) (by with_unfolding_all rfl) (by decide) (by rfl) (by decide) (by rfl) ?_))
  k_with "own alistcomp" => (k_here; k_dflt (refine Assign_ListComp_M (F₀ := by k_asm) (by rfl) (by with_unfolding_all rfl) (by with_unfolding_all rfl) (by decide) (by rfl) (by decide) (by rfl) (by rfl) (by rfl) ?_))
  k_with "sy" => repeat' (first | (with_reducible refine wpS_pure ?_) | (with_reducible refine wpS_iteb (fun _ => ?_) (fun _ => ?_)) | (with_reducible refine wpS_ite (fun _ => ?_) (fun _ => ?_)) | ((with_reducible refine wpS_bind (wpS_ltAt2 (by assumption) ?_ ?_ fun _ => ?_)); (focus omega); (focus omega)) | (with_reducible refine wpS_bind (wpS_rev2 (by assumption) fun _ _ => ?_)) | (with_reducible refine wpS_bind (wpS_move2 (by assumption) fun _ _ => ?_)) | (with_reducible refine wpS_bind (wpS_lift (wpAny_rule ⟨rfl, ?_⟩))))
  refine wpS_bind (wpS_mono (wpS_forRange (I := fun x c st' => SI ks N P st' ∧ c = (none, x)) (Q := fun c st' => SI ks N P st' ∧ ∃ n, c = (none, n) ∧ 1 ≤ n ∧ n ≤ nrem) ?_ ?_ ⟨hI, rfl⟩) ?_)
  · rintro x c st' hx1 hx ⟨hI', rfl⟩
    dsimp only
    k_extra "sy"
    all_goals first
      | exact ⟨by assumption, _, rfl, by omega, by omega⟩
      | exact ⟨by assumption, rfl⟩
  · rintro c st' ⟨hI', rfl⟩
    exact ⟨hI', _, rfl, by omega, by omega⟩
  rintro c st' ⟨hI', n, rfl, hn1, hn2⟩
  dsimp only
  k_extra "sy"
  all_goals first
    | exact h _ _ (by assumption) (by omega) (by omega)
    | skip
  all_goals (refine wpS_bind (wpS_mono (wpS_forRange (I := fun x c st' => SI ks N P st' ∧ ∃ q, c = (none, x, q)) (Q := fun c st' => SI ks N P st' ∧ ∃ n q, c = (none, n, q) ∧ 1 ≤ n ∧ n ≤ nrem) ?_ ?_ ⟨by assumption, _, rfl⟩) ?_))
  all_goals first
    | (rintro x c st' hx1 hx ⟨hI', q, rfl⟩
       dsimp only
       k_extra "sy"
       all_goals first
         | exact ⟨by assumption, _, _, rfl, by omega, by omega⟩
         | exact ⟨by assumption, _, rfl⟩)
    | (rintro c st' ⟨hI', q, rfl⟩
       exact ⟨hI', _, _, rfl, by omega, by omega⟩)
    | skip
  all_goals (rintro c st' ⟨hI', n', q, rfl, hn1', hn2'⟩; dsimp only; k_extra "sy")
  all_goals (refine wpS_bind (wpS_mono (wpS_forRange (I := fun x c st' => SI ks N P st' ∧ c = (none, x)) (Q := fun c st' => SI ks N P st' ∧ ∃ n, c = (none, n) ∧ 1 ≤ n ∧ n ≤ nrem) ?_ ?_ ⟨by assumption, rfl⟩) ?_))
  all_goals first
    | (rintro x c st' hx1 hx ⟨hI', rfl⟩
       dsimp only
       k_extra "sy"
       all_goals first
         | exact ⟨by assumption, _, rfl, by omega, by omega⟩
         | exact ⟨by assumption, rfl⟩)
    | (rintro c st' ⟨hI', rfl⟩
       exact ⟨hI', _, rfl, by omega, by omega⟩)
    | (rintro c st' ⟨hI', n', rfl, hn1', hn2'⟩
       exact wpS_pure (h _ _ hI' hn1' hn2'))
theorem wpS_binarySortI {lo n ok : Nat} {st : SortSt} {Q : Bool → SortSt → Prop} (hI : SI ks N P st) (hb : lo + n ≤ N)
    (h : ∀ st', SI ks N P st' → Q true st') : wpS (model prog w) A E s (binarySort2 lo n ok) Q st := by
  k_with_none
  k_with "own pick" => (first | exact Pick.head | (refine' Pick.tail ?ptq0; (case ptq0 => k_extra "own pick")))
  k_with "own picks" => (first | exact Picks.nil | (refine' Picks.cons ?ppq1 ?pqq1; (case ppq1 => k_extra "own pick"); (case pqq1 => k_extra "own picks")))
  k_with "own allin" => (with_unfolding_all ((try simp only [List.nil_append, List.cons_append]); k_allIn))
  k_with "own allin0" => (first | exact List.forall_mem_nil _ | k_extra "own allin")
  k_with "own same" => (intro z h1 h2; first | rfl | (simp [h1, h2]; done) | (simp_all; done))
  k_with "own same1" => (intro z h1; first | rfl | (simp [h1]; done) | (simp_all; done))
  k_with "own same3" => (intro z h1 h2 h3; first | rfl | (simp [h1, h2, h3]; done) | (simp_all; done))
  k_with "own for" => (k_here; (with_reducible rename Fr _ _ _ _ => lF'); (with_unfolding_all refine' For_invVF lF' ?k1q7 ?k2q7 ?_; (case k1q7 => exact rfl); (case k2q7 => exact rfl); k_whole))
  k_with "own apart" => (first | exact List.forall_mem_nil _ | (refine' apart_cons ?paq8 ?pbq8; (case paq8 => k_all); (case pbq8 => k_extra "own apart")))
  k_with "own after" => (intro N9 D9; (replace D9 := ApartL.of D9); (try simp only [ApartL, OffL, and_true] at D9); (try simp only [List.cons_append, List.nil_append] at N9); (try dsimp only); (try k_sweep); (try k_fold))
  k_with "own append" => (k_here; (try dsimp only [List.cons_append, List.nil_append]); (with_reducible show wpAny _ _ (call (Value.builtin _) [Value.ref _, Value.int _ _]) _ _ _); k_dflt (refine' app_ints ?k1q10 ?k2q10 ?k3q10 ?k4q10 ?k5q10 ?k6q10 ?_; (case k1q10 => k_asm); (case k2q10 => k_asm); (case k3q10 => k_updF); (case k4q10 => with_reducible assumption); (case k5q10 => with_reducible assumption); (case k6q10 => first | with_reducible assumption | omega); k_whole); intro us' h' hi' hl' F' N'; (try dsimp only at N'); (try k_sweep))
  k_with "own get" => (k_here; (try dsimp only [List.cons_append, List.nil_append]); (with_reducible show wpAny _ _ (call (Value.builtin "dict.get") [Value.ref _, Value.int _ _, Value.int _ _]) _ _ _); k_dflt (refine kdf_get2 (by k_tabat) ?_); intro _)
  k_with "own off" => ((try simp only [LCg.Off3, OffL, and_true]); k_extra "own offs")
  k_with "own offs" => (first | k_extra "own cj" | (with_reducible refine' And.intro ?oaq13 ?obq13; (case oaq13 => k_extra "own offs"); (case obq13 => k_extra "own offs")) | k_extra "own ne")
  k_with "own ne" => (first | k_extra "own ne0" | omega)
  k_with "own ne0" => (first | k_extra "own cj" | (with_reducible refine Ne.symm ?_; k_extra "own cj") | (with_reducible refine Nat.ne_of_lt ?_; k_extra "own cj") | (with_reducible refine Nat.ne_of_gt ?_; k_extra "own cj"))
  k_with "own cj" => (with_reducible first | assumption | exact cjl0 (by assumption) | exact cjr0 (by assumption) | exact cjl1 (by assumption) | exact cjr1 (by assumption) | exact cjl2 (by assumption) | exact cjr2 (by assumption) | exact cjl3 (by assumption) | exact cjr3 (by assumption) | exact cjl4 (by assumption) | exact cjr4 (by assumption) | exact cjl5 (by assumption) | exact cjr5 (by assumption) | exact cjl6 (by assumption) | exact cjr6 (by assumption) | exact cjl7 (by assumption) | exact cjr7 (by assumption) | exact cjl8 (by assumption) | exact cjr8 (by assumption) | exact cjl9 (by assumption) | exact cjr9 (by assumption) | exact cjl10 (by assumption) | exact cjr10 (by assumption) | exact cjl11 (by assumption) | exact cjr11 (by assumption))
  k_with "own kne" => (refine neN ?_; (try dsimp only); k_extra "own ne0")
  k_with "own turn" => (unfold CTurn; intro I' oI' C' oC' D' m' ys' h' tk' E' hC' hx' F' N' off' ne'; (try (simp only [LCg.Off3, and_true] at off')); (try dsimp only); k_fold)
  k_with "own listcomp" => (k_here; k_dflt (refine ListComp_M (F₀ := by k_asm) (by with_unfolding_all rfl) (by decide) (by rfl) (by decide) (by rfl) ?_))
  k_with "own alistcomp" => (k_here; k_dflt (refine Assign_ListComp_M (F₀ := by k_asm) (by rfl) (by with_unfolding_all rfl) (by with_unfolding_all rfl) (by decide) (by rfl) (by decide) (by rfl) (by rfl) (by rfl) ?_))
  k_with "sy" => repeat' (first | (with_reducible refine wpS_pure ?_) | (with_reducible refine wpS_iteb (fun _ => ?_) (fun _ => ?_)) | (with_reducible refine wpS_ite (fun _ => ?_) (fun _ => ?_)) | ((with_reducible refine wpS_bind (wpS_ltAt2 (by assumption) ?_ ?_ fun _ => ?_)); (focus omega); (focus omega)) | (with_reducible refine wpS_bind (wpS_rev2 (by assumption) fun _ _ => ?_)) | (with_reducible refine wpS_bind (wpS_move2 (by assumption) fun _ _ => ?_)) | (with_reducible refine wpS_bind (wpS_lift (wpAny_rule ⟨rfl, ?_⟩))))
  refine wpS_bind (wpS_mono (wpS_forRange (I := fun x c st' => SI ks N P st' ∧ c = (none, ())) (Q := fun c st' => SI ks N P st' ∧ c = (none, ())) ?_ (fun _ _ h => h) ⟨hI, rfl⟩) ?_)
  · rintro x c st' hx1 hx ⟨hI', rfl⟩
    dsimp only
    refine wpS_bind (wpS_mono (wpS_forRange (I := fun _ c st' => SI ks N P st' ∧ ∃ l r, c = (none, l, r) ∧ r ≤ x) (Q := fun c st' => SI ks N P st' ∧ ∃ l r, c = (none, l, r) ∧ r ≤ x) ?_ (fun _ _ h => h) ⟨hI', _, _, rfl, by omega⟩) ?_)
    · rintro y c st' _ hy ⟨hI', l, r, rfl, hr⟩
      dsimp only
      k_extra "sy"
      all_goals exact ⟨by assumption, _, _, rfl, by omega⟩
    · rintro c st' ⟨hI', l, r, rfl, hr⟩
      dsimp only
      k_extra "sy"
      all_goals exact ⟨by assumption, rfl⟩
  · rintro c st' ⟨hI', rfl⟩
    exact wpS_pure (h _ hI')
end
noncomputable def Chain : Nat → List (Nat × Nat × Nat) → Nat → Prop
  | a, [], b => a = b
  | a, p :: t, b => p.1 = a ∧ 1 ≤ p.2.1 ∧ Chain (a + p.2.1) t b
theorem chain_le : ∀ {l : List (Nat × Nat × Nat)} {a b : Nat}, Chain a l b → a ≤ b
  | [], _, _, h => Nat.le_of_eq h
  | _ :: _, _, _, h => Nat.le_trans (Nat.le_add_right _ _) (chain_le h.2.2)
theorem chain_merge : ∀ {l : List (Nat × Nat × Nat)} {i a b : Nat}, Chain a l b → i + 1 < l.length → ∃ x y, l[i]? = some x ∧ l[i + 1]? = some y ∧ x.1 + x.2.1 = y.1 ∧ 1 ≤ x.2.1 ∧ 1 ≤ y.2.1 ∧ y.1 + y.2.1 ≤ b ∧
    Chain a ((l.set i (x.1, x.2.1 + y.2.1, x.2.2)).eraseIdx (i + 1)) b
  | x :: y :: t, 0, a, b, ⟨h1, h2, h3, h4, h5⟩, _ => ⟨x, y, rfl, rfl, by omega, h2, h4, by have := chain_le h5; omega, h1, by (show 1 ≤ x.2.1 + y.2.1; omega), by (show Chain (a + (x.2.1 + y.2.1)) t b; rwa [← Nat.add_assoc])⟩
  | x :: t, i + 1, a, b, ⟨h1, h2, h3⟩, hi => by
    obtain ⟨u, v, e1, e2, e3, e4, e5, e6, e7⟩ := chain_merge (i := i) h3 (by simpa using hi)
    exact ⟨u, v, e1, e2, e3, e4, e5, e6, h1, h2, e7⟩
  | [_], 0, _, _, _, hi => by simp at hi
  | [], _, _, _, _, hi => by simp at hi
theorem chain_push : ∀ {l : List (Nat × Nat × Nat)} {a b n p : Nat}, Chain a l b → 1 ≤ n → Chain a (l ++ [(b, n, p)]) (b + n)
  | [], _, _, _, _, h, hn => ⟨Eq.symm h, hn, by rw [h]; rfl⟩
  | _ :: _, _, _, _, _, h, hn => ⟨h.1, h.2.1, chain_push h.2.2 hn⟩
theorem chain_modify : ∀ {l : List (Nat × Nat × Nat)} {a b i p : Nat}, Chain a l b → Chain a (l.modify i fun x => (x.1, x.2.1, p)) b
  | [], _, _, _, _, h => by simpa using h
  | x :: t, a, b, 0, p, h => h
  | x :: t, a, b, i + 1, p, h => ⟨h.1, h.2.1, chain_modify (i := i) h.2.2⟩
section
variable {prog : Program} {w : World} {A : Around} {E : Value → Shared → Prop} {s : Shared} {ks : List Int} {N : Nat} {P : Array (Nat × Nat × Nat)}
structure SC (ks : List Int) (N e : Nat) (st : SortSt) : Prop where
  base : SI ks N (pendingOf st) st
  chain : Chain 0 (pendingOf st).toList e
noncomputable abbrev mergeAt2 : Nat → StateT SortSt Sem Bool := sortPriv% PySem.Builtin.mergeAt
theorem wpS_set {σ : Type} {M : Model} {st st' : σ} {Q : PUnit → σ → Prop} (h : Q ⟨⟩ st') : wpS M A E s (set st' : StateT σ Sem PUnit) Q st := by
  unfold wpS; rw [StateT.run_set]; exact wpAny_pure ⟨rfl, h⟩
theorem fold_set_size {l : List (Keyed × Nat)} {f : Nat → Nat} : ∀ {xs : Array Keyed}, (l.foldl (fun a p => a.setIfInBounds (f p.2) p.1) xs).size = xs.size := by
  induction l with
  | nil => intro xs; rfl
  | cons p t ih => intro xs; rw [List.foldl_cons, ih, Array.size_setIfInBounds]
theorem fold_set_good {l : List (Keyed × Nat)} {f : Nat → Nat} : ∀ {xs : Array Keyed}, Good ks xs → (∀ p ∈ l, KIn ks p.1) → Good ks (l.foldl (fun a p => a.setIfInBounds (f p.2) p.1) xs) := by
  induction l with
  | nil => intro xs h _; exact h
  | cons p t ih =>
    intro xs h hl
    refine ih ?_ fun q hq => hl q (List.mem_cons_of_mem _ hq)
    intro q hq
    rcases Array.mem_or_eq_of_mem_setIfInBounds hq with h1 | h1
    · exact h q h1
    · rw [h1]; exact hl p List.mem_cons_self
theorem wpS_mergeAt {i e : Nat} {st : SortSt} {Q : Bool → SortSt → Prop} (hC : SC ks N e st) (he : e ≤ N) (hi : i + 1 < (pendingOf st).size)
    (h : ∀ st', SC ks N e st' → Q true st') : wpS (model prog w) A E s (mergeAt2 i) Q st := by
  obtain ⟨⟨sa, na, pa⟩, ⟨sb, nb, pb⟩, e1, e2, e3, e4, e5, e6, e7⟩ := chain_merge hC.chain (i := i) (by simpa using hi)
  rw [Array.getElem?_toList] at e1 e2
  dsimp only at e3 e4 e5 e6 e7
  have hI := hC.base
  refine wpS_bind (wpS_get ?_)
  show wpS _ _ _ _ (match ((pendingOf st)[i]?, (pendingOf st)[i + 1]?) with | (some (sa, na, power), some (sb, nb, _)) => _ | _ => _) _ _
  rw [e1, e2]
  dsimp only
  refine wpS_bind (wpS_set ?_)
  have hC' : SC ks N e (SortSt.mk' (kindOf st) (arrOf st) (((pendingOf st).setIfInBounds i (sa, na + nb, pa)).eraseIdxIfInBounds (i + 1)) (gallopOf st) (failedOf st)) := by
    refine ⟨⟨hI.kind, hI.failed, rfl, hI.size, hI.good⟩, ?_⟩
    show Chain 0 (((pendingOf st).setIfInBounds i (sa, na + nb, pa)).eraseIdxIfInBounds (i + 1)).toList e
    have e8 : (((pendingOf st).setIfInBounds i (sa, na + nb, pa)).eraseIdxIfInBounds (i + 1)).toList = ((pendingOf st).toList.set i (sa, na + nb, pa)).eraseIdx (i + 1) := by simp
    rw [e8]; exact e7
  have hB := hC'.base
  have hz : ((sortPriv% PySem.Builtin.SortState.a) st).size = N := hI.size
  have hg : Good ks (arrOf st) := hI.good
  refine wpS_bind (wpS_elem (by omega) fun p hp => ?_)
  refine wpS_bind (wpS_gallop hB (hg.at hp) hg (by omega) (by omega) fun k hk => ?_)
  dsimp only
  refine wpS_iteb (fun _ => wpS_pure (h _ hC')) (fun hn => ?_)
  refine wpS_bind (wpS_elem (by omega) fun q hq => ?_)
  refine wpS_bind (wpS_gallop hB (hg.at hq) hg (by omega) (by omega) fun n2 hn2 => ?_)
  dsimp only
  refine wpS_iteb (fun _ => wpS_pure (h _ hC')) (fun hn' => ?_)
  refine wpS_ite (fun _ => ?_) (fun _ => ?_)
  · refine wpS_bind (wpS_mergeLo hB hg.ext hg.ext (by rw [Array.size_extract]; omega) (by rw [Array.size_extract]; omega) fun out st' hI' ho => ?_)
    refine wpS_bind (wpS_modify (wpS_bind (wpS_get ?_)))
    have hf : (failedOf st').isNone = true := by rw [hI'.failed]; rfl
    show wpS _ _ _ _ (pure (failedOf st').isNone) _ _
    rw [hf]
    refine wpS_pure (h _ ⟨⟨hI'.kind, hI'.failed, rfl, ?_, ?_⟩, ?_⟩)
    · exact (fold_set_size (f := fun j => sa + k + j)).trans hI'.size
    · exact fold_set_good (f := fun j => sa + k + j) hI'.good fun p hp => ho _ (by
        have := List.fst_mem_of_mem_zipIdx hp
        simpa using this)
    · show Chain 0 (pendingOf st').toList e
      rw [hI'.pend]; exact hC'.chain
  · refine wpS_bind (wpS_mergeHi hB hg.ext hg.ext (by rw [Array.size_extract]; omega) (by rw [Array.size_extract]; omega) fun out st' hI' ho => ?_)
    refine wpS_bind (wpS_modify (wpS_bind (wpS_get ?_)))
    have hf : (failedOf st').isNone = true := by rw [hI'.failed]; rfl
    show wpS _ _ _ _ (pure (failedOf st').isNone) _ _
    rw [hf]
    refine wpS_pure (h _ ⟨⟨hI'.kind, hI'.failed, rfl, ?_, ?_⟩, ?_⟩)
    · exact (fold_set_size (f := fun j => sa + k + j)).trans hI'.size
    · exact fold_set_good (f := fun j => sa + k + j) hI'.good fun p hp => ho _ (by
        have := List.fst_mem_of_mem_zipIdx hp
        simpa using this)
    · show Chain 0 (pendingOf st').toList e
      rw [hI'.pend]; exact hC'.chain
theorem SC.of {e : Nat} {st : SortSt} (h : SI ks N P st) (hc : Chain 0 P.toList e) : SC ks N e st := by
  have hp := h.pend
  subst hp
  exact ⟨h, hc⟩
theorem SC.push {e n p : Nat} {st : SortSt} (h : SC ks N e st) (hn : 1 ≤ n) : SC ks N (e + n) (setPending st ((pendingOf st).push (e, n, p))) :=
  ⟨⟨h.base.kind, h.base.failed, rfl, h.base.size, h.base.good⟩, by (show Chain 0 ((pendingOf st).push (e, n, p)).toList (e + n); rw [Array.toList_push]; exact chain_push h.chain hn)⟩
theorem SC.power {e i p : Nat} {st : SortSt} (h : SC ks N e st) : SC ks N e (setPending st ((pendingOf st).modify i fun x => (x.1, x.2.1, p))) :=
  ⟨⟨h.base.kind, h.base.failed, rfl, h.base.size, h.base.good⟩, by (show Chain 0 ((pendingOf st).modify i fun x => (x.1, x.2.1, p)).toList e; rw [Array.toList_modify]; exact chain_modify h.chain)⟩
noncomputable abbrev sortRuns2 : StateT SortSt Sem Unit := sortPriv% PySem.Builtin.sortRuns
theorem wpS_sortRunsI {st : SortSt} {Q : Unit → SortSt → Prop} (hI : SI ks N #[] st)
    (h : ∀ st', failedOf st' = none → (arrOf st').size = N → Good ks (arrOf st') → Q () st') : wpS (model prog w) A E s sortRuns2 Q st := by
  refine wpS_bind (wpS_get ?_)
  dsimp only
  have hz : ((sortPriv% PySem.Builtin.SortState.a) st).size = N := hI.size
  refine wpS_bind (wpS_mono (wpS_forRange (I := fun _ c st' => ∃ lo, SC ks N lo st' ∧ lo ≤ N ∧ c = (none, lo)) (Q := fun c st' => ∃ lo, SC ks N lo st' ∧ lo ≤ N ∧ c = (none, lo)) ?_ (fun _ _ h => h) ⟨0, .of hI rfl, Nat.zero_le _, rfl⟩) ?_)
  · rintro x c st' _ hx ⟨lo, hC, hlo, rfl⟩
    dsimp only
    refine wpS_ite (fun _ => wpS_pure ⟨lo, hC, hlo, rfl⟩) (fun hlt => ?_)
    refine wpS_bind (wpS_countRunI hC.base (by omega) (by omega) fun n st2 hI2 hn1 hn2 => ?_)
    have hC2 := SC.of hI2 hC.chain
    clear hI2 hC
    dsimp only
    refine wpS_ite (fun hmr => wpS_bind (wpS_lift (wpAny_rule ⟨rfl, wpS_bind (wpS_binarySortI hC2.base (by omega) fun st3 hI3 => wpS_ite (fun hf => by cases hf) fun _ => wpS_bind (wpS_get ?_))⟩))) (fun hmr => wpS_bind (wpS_get ?_))
    · have hC3 := SC.of hI3 hC2.chain
      clear hI3 hC2
      generalize Array.back? _ = bk
      rcases bk with _ | ⟨s1, n1, p1⟩
      · dsimp only
        exact wpS_bind (wpS_modify (wpS_pure ⟨_, hC3.push (by omega), by omega, rfl⟩))
      dsimp only
      refine wpS_bind (wpS_mono (wpS_forRange (I := fun _ c st' => SC ks N lo st' ∧ c = (none, ())) (Q := fun c st' => SC ks N lo st' ∧ c = (none, ())) ?_ (fun _ _ h => h) ⟨hC3, rfl⟩) ?_)
      · rintro y c st4 _ hy ⟨hC4, rfl⟩
        refine wpS_bind (wpS_get ?_)
        by_cases hs : ((sortPriv% PySem.Builtin.SortState.pending) st4).size > 1
        · rw [if_pos hs, getElem?_pos _ _ (by omega)]
          dsimp only
          refine wpS_ite (fun _ => wpS_pure ⟨hC4, rfl⟩) (fun _ => wpS_bind (wpS_mergeAt hC4 hlo ?_ fun st5 hC5 => wpS_ite (fun hf => by cases hf) fun _ => wpS_pure ⟨hC5, rfl⟩))
          show _ + 1 < ((sortPriv% PySem.Builtin.SortState.pending) st4).size
          omega
        · rw [if_neg hs]
          exact wpS_pure ⟨hC4, rfl⟩
      · rintro c st4 ⟨hC4, rfl⟩
        exact wpS_bind (wpS_modify (wpS_bind (wpS_modify (wpS_pure ⟨_, hC4.power.push (by omega), by omega, rfl⟩))))
    · have hC3 := hC2
      clear hC2
      generalize Array.back? _ = bk
      rcases bk with _ | ⟨s1, n1, p1⟩
      · dsimp only
        exact wpS_bind (wpS_modify (wpS_pure ⟨_, hC3.push (by omega), by omega, rfl⟩))
      dsimp only
      refine wpS_bind (wpS_mono (wpS_forRange (I := fun _ c st' => SC ks N lo st' ∧ c = (none, ())) (Q := fun c st' => SC ks N lo st' ∧ c = (none, ())) ?_ (fun _ _ h => h) ⟨hC3, rfl⟩) ?_)
      · rintro y c st4 _ hy ⟨hC4, rfl⟩
        refine wpS_bind (wpS_get ?_)
        by_cases hs : ((sortPriv% PySem.Builtin.SortState.pending) st4).size > 1
        · rw [if_pos hs, getElem?_pos _ _ (by omega)]
          dsimp only
          refine wpS_ite (fun _ => wpS_pure ⟨hC4, rfl⟩) (fun _ => wpS_bind (wpS_mergeAt hC4 hlo ?_ fun st5 hC5 => wpS_ite (fun hf => by cases hf) fun _ => wpS_pure ⟨hC5, rfl⟩))
          show _ + 1 < ((sortPriv% PySem.Builtin.SortState.pending) st4).size
          omega
        · rw [if_neg hs]
          exact wpS_pure ⟨hC4, rfl⟩
      · rintro c st4 ⟨hC4, rfl⟩
        exact wpS_bind (wpS_modify (wpS_bind (wpS_modify (wpS_pure ⟨_, hC4.power.push (by omega), by omega, rfl⟩))))
  · rintro c st' ⟨lo, hC, hlo, rfl⟩
    dsimp only
    refine wpS_bind (wpS_mono (wpS_forRange (I := fun _ c st' => SC ks N lo st' ∧ c = (none, ())) (Q := fun c st' => SC ks N lo st' ∧ c = (none, ())) ?_ (fun _ _ h => h) ⟨hC, rfl⟩) ?_)
    · rintro x c st' _ hx ⟨hC, rfl⟩
      refine wpS_bind (wpS_get ?_)
      refine wpS_ite (fun _ => wpS_pure ⟨hC, rfl⟩) (fun hsz => ?_)
      refine wpS_bind (wpS_mergeAt hC hlo ?_ fun st2 hC2 => ?_)
      · show _ + 1 < ((sortPriv% PySem.Builtin.SortState.pending) st').size
        have hle : ∀ {c : Prop} [Decidable c] {a : Nat}, (if c then a - 1 else a) ≤ a := by intros; split <;> omega
        exact Nat.lt_of_le_of_lt (Nat.add_le_add_right hle 1) (by omega)
      · exact wpS_pure ⟨hC2, rfl⟩
    · rintro c st' ⟨hC, rfl⟩
      exact wpS_pure (h _ hC.base.failed hC.base.size hC.base.good)
end
theorem pairs_good {vs : List Value} {ns : List Int} (hI : IntsAre vs ns) : ∀ p ∈ pairsOf vs, KIn ns p := by
  have h2 : ∀ {vs : List Value} {ns : List Int}, IntsAre vs ns → ∀ v ∈ vs, ∃ n t, v = .int n t ∧ n ∈ ns := by
    intro vs ns h
    induction h with
    | nil => intro v hv; simp at hv
    | cons n t h ih =>
      intro v hv
      rcases List.mem_cons.mp hv with rfl | hv
      · exact ⟨n, t, rfl, List.mem_cons_self⟩
      · obtain ⟨n', t', e, hm⟩ := ih v hv
        exact ⟨n', t', e, List.mem_cons_of_mem _ hm⟩
  intro p hp
  have h3 : p ∈ vs.zip vs := by rw [← pairsOf_toList]; exact Array.mem_toList_iff.mpr hp
  obtain ⟨h4, h5⟩ := mem_zip_self h3
  obtain ⟨n, t, e, hm⟩ := h2 hI _ h5
  exact ⟨n, t, Prod.ext e (h4 ▸ e), hm⟩
theorem good_out {ks : List Int} : ∀ {l : List Keyed}, (∀ p ∈ l, KIn ks p) → ∃ ns, IntsAre (l.map (·.2)) ns ∧ ns.length = l.length ∧ ∀ x ∈ ns, x ∈ ks
  | [], _ => ⟨[], .nil, rfl, fun _ h => by simp at h⟩
  | p :: l, h => by
    obtain ⟨ns, h1, h2, h3⟩ := good_out (l := l) fun q hq => h q (List.mem_cons_of_mem _ hq)
    obtain ⟨n, t, rfl, hm⟩ := h p List.mem_cons_self
    refine ⟨n :: ns, .cons n t h1, by simp [h2], fun x hx => ?_⟩
    rcases List.mem_cons.mp hx with rfl | hx
    · exact hm
    · exact h3 x hx
section
variable {prog : Program} {w : World} {A : Around} {E : Value → Shared → Prop} {s : Shared} {h₀ : Heap} {L d : Addr} {m : Str → Option Value} {news : List (Addr × Obj)} {Q : Value → Shared → Prop} {c : List (Int × Int)}
theorem list_sort_any {a : Addr} {vs : List Value} {ns : List Int} {n : Nat} {R : Fin → Shared → Prop} (ho : s.heap.get? a = some (seqObj "list" vs.toArray n))
    (hI : IntsAre vs ns) (h2 : 2 ≤ vs.length) (hc : vs.length ≤ 1000)
    (h : ∀ (out : Array Value) (ns' : List Int), IntsAre out.toList ns' → ns'.length = vs.length → (∀ x ∈ ns', x ∈ ns) → R (.done (.ret .none)) { s with heap := sortedHeap s.heap a vs out }) :
    wpAny (model prog w) A (Builtin.«list.sort» ⟨[.ref a], []⟩) R E s := by
  have ha : a < s.heap.objs.size := Heap.lt_size ho
  have hl : vs.length ≤ sizeLine := by rw [sizeLine_eq]; omega
  have hkk : keyKind' vs.toArray = pure oneType' := by
    match vs, h2 with
    | [], h2 => simp at h2
    | [_], h2 => simp at h2
    | v₁ :: v₂ :: r, _ => exact keyKind_ints hI
  have hns : ¬ vs.toArray.size < 2 := by rw [List.size_toArray]; omega
  rw [list_sort_plain]
  refine wpAny_bind (listItems_at ho rfl (wpAny_bind (listUpdate_at ho rfl ?_ (hsz := by rw [List.size_toArray]; exact hl) (hsz2 := Nat.zero_le _))))
  obtain ⟨e1, ho1⟩ : ∃ e1, (s.heap.update a (Obj.mapSeq fun _ => #[])).get? a = some (seqObj "list" #[] e1) := ⟨_, get?_update_seq ho (fun _ => #[])⟩
  refine wpAny_bind (seqEpoch_at ho1 rfl (wpAny_bind (wpAny_newTuple (wpAny_bind (wpAny_newList (wpAny_holding ?_))))))
  have ho6 : (((s.heap.update a (Obj.mapSeq fun _ => #[])).push (seqObj "tuple" vs.toArray 0)).push (seqObj "list" #[] 0)).get? a = some (seqObj "list" #[] e1) := by
    rw [Heap.get?_push_ne _ _ _ (by rw [size_push', Heap.size_update]; exact Nat.ne_of_lt (Nat.lt_succ_of_lt ha)), Heap.get?_push_ne _ _ _ (by rw [Heap.size_update]; exact Nat.ne_of_lt ha)]
    exact ho1
  show wpAny (model prog w) A _ R E { s with heap := ((s.heap.update a (Obj.mapSeq fun _ => #[])).push (seqObj "tuple" vs.toArray 0)).push (seqObj "list" #[] 0) }
  dsimp only
  rw [if_neg hns, if_neg hns, hkk]
  refine wpAny_bind (wpAny_pure ?_)
  refine wpAny_bind (wpAny_mono (wpS_sortRunsI (ks := ns) (N := vs.length) (st := SortSt.mk' oneType' (pairsOf vs) #[] 7 none)
    (Q := fun _ st' => failedOf st' = none ∧ (arrOf st').size = vs.length ∧ Good ns (arrOf st'))
    ⟨rfl, rfl, rfl, pairsOf_size vs, pairs_good hI⟩ fun st' a1 a2 a3 => ⟨a1, a2, a3⟩) ?_ fun _ _ e => e)
  rintro ⟨⟨⟩, st'⟩ s' ⟨rfl, hf, hs, hg⟩
  dsimp only
  refine wpAny_bind (seqEpoch_at ho6 rfl (wpAny_bind (listUpdate_at ho6 rfl ?_ (hsz := Nat.zero_le _) (hsz2 := ?_))))
  · rw [hf]
    simp only [bne_self_eq_false, Bool.false_eq_true, if_false]
    obtain ⟨ns', i1, i2, i3⟩ := good_out (l := (arrOf st').toList) fun p hp => hg p (Array.mem_toList_iff.mp hp)
    have hq := h (Array.map (fun (p : Keyed) => p.2) (arrOf st')) ns' (by rw [Array.toList_map]; exact i1) (by rw [i2, Array.length_toList]; exact hs) i3
    exact wpAny_pure hq
  · have : (Array.map (·.2) (arrOf st')).size ≤ sizeLine + 1 := by rw [Array.size_map, hs]; omega
    exact this
theorem sorted_tab (hh : A.handled = none) (F : Fr h₀ L s.heap m) (N : News h₀ L s.heap news) (T : IntTab prog w s.heap d (kdfD c)) (h2 : 2 ≤ c.length) (hc : c.length ≤ 1000)
    (h : ∀ B vs' ns' n h' tk, Fr h₀ L h' m → News h₀ L h' ((B, listOf vs'.toArray n) :: news) → (∀ q ∈ news, q.1 < B) → IntsAre vs' ns' → ns'.length = c.length → (∀ x ∈ ns', x ∈ c.map Prod.fst) → Q (.ref B) { s with heap := h', toks := tk }) :
    wpAny (model prog w) A (call (.builtin "sorted") [.ref d]) Q E s := by
  obtain ⟨lo, kvs, hD, hf⟩ := T
  obtain ⟨ep, hat⟩ := hD.dictAt
  have hlen : kvs.length = c.length := by have := hf.length; rw [kdfD_length] at this; exact this.symm
  refine kdu_sorted (kdl_dict (knd := PySem.intKind prog w) (kvs := kvs) (ep := ep) lo) hh F N hat (by rw [sizeLine_eq, hlen]; omega) fun B h' tk vs F' N' l1 hl hv => ?_
  have hI : ∃ ns, IntsAre vs ns ∧ ∀ x ∈ ns, x ∈ c.map Prod.fst := by
    have hfl : ∀ v ∈ vs, ∃ n t, v = .int n t ∧ n ∈ c.map Prod.fst := by
      intro v hv'
      obtain ⟨j, hj⟩ := List.getElem?_of_mem hv'
      obtain ⟨k, x, hx, hk⟩ := hv j v hj
      obtain ⟨dv, hd1, _⟩ := hf.at hx
      obtain ⟨tk, rfl⟩ := PyProof.V.Flat.int_inv (kdl_flat_int hk)
      refine ⟨k, tk, rfl, ?_⟩
      have hm := List.mem_of_getElem? hd1
      unfold kdfD at hm
      obtain ⟨q, hq, e⟩ := List.mem_map.mp hm
      injection e with e1 e2
      injection e1 with e3
      exact List.mem_map.mpr ⟨q, hq, e3⟩
    refine ⟨vs.map numOf, intsAre_map vs fun v hv' => ?_, fun x hx => ?_⟩
    · obtain ⟨n, t, e, _⟩ := hfl v hv'
      exact ⟨n, t, e⟩
    · obtain ⟨v, hv', rfl⟩ := List.mem_map.mp hx
      obtain ⟨n, t, rfl, hm⟩ := hfl v hv'
      exact hm
  obtain ⟨ns, hI, hin⟩ := hI
  have hoB := (N' _ (.head _)).1
  refine wpAny_call_entry slot_list_sort ⟨_, hoB, rfl⟩ entry_list_sort (list_sort_any (s := { s with heap := h', toks := tk }) hoB hI (by omega) (by omega) fun out ns' a1 a2 a3 => ⟨_, rfl, ?_⟩) (args_list_sort _)
  obtain ⟨e, he⟩ := sortedHeap_at (vs := vs) (out := out) hoB
  have hlt : ∀ {b : Addr} {o : Obj}, b ≠ B → h'.get? b = some o → (sortedHeap h' B vs out).get? b = some o := fun hb ho => by
    rw [sortedHeap_old hb (Heap.lt_size ho)]; exact ho
  obtain ⟨hB1, hB2, hB3⟩ := N' _ (.head _)
  refine h B out.toList ns' e _ _ ?_ ?_ l1 a1 (by omega) (fun x hx => hin x (a3 x hx))
  · obtain ⟨oL, b1, b2, hL, b3⟩ := F'.ns
    exact ⟨⟨oL, b1, b2, hlt (Ne.symm hB2) hL, b3⟩, fun b o hb => hlt (by rintro rfl; rw [hB3] at hb; cases hb) (F'.keep b o hb), F'.above⟩
  · intro p hp
    rcases List.mem_cons.mp hp with rfl | hp
    · exact ⟨he, hB2, hB3⟩
    · have := N' _ (List.mem_cons_of_mem _ hp)
      exact ⟨hlt (Nat.ne_of_lt (l1 _ hp)) this.1, this.2⟩
end

--deps: P16_sort Dev
/-- what a take gives, no more said than is wanted -/
theorem take_gives {w : World} {loose : List Str} {mean : ExcName → Option Value} {mg mb : Str → Option Value} {l : Addr} {n : Nat} {k : Int} {t : Tok} {vs : List Value} {ns : List Int} (hv : IntsAre vs ns) (hp : PoolOk ns) (hk1 : 1 ≤ k) (hkb : k ≤ 1048576) :
    Spec 8 w loose mean mg mb 52 [(l, listOf vs.toArray n)] [.ref l, .int k t] (fun r own' => (∃ v t, r = .int v t ∧ 0 ≤ v ∧ v < k) ∧ ∃ vs' ns' n', IntsAre vs' ns' ∧ PoolOk ns' ∧ own' = [(l, listOf vs'.toArray n')]) :=
  Spec.mono (take_ok hv hp hk1 hkb) fun r own' h => by
    obtain ⟨⟨t', e⟩, vs', n', hv', e'⟩ := h
    exact ⟨⟨_, t', e, takeVal_lo hk1, takeVal_hi hk1⟩, vs', _, n', hv', takeRest_ok hk1 hp, e'⟩
noncomputable def SignOk (c : Int) : Prop := 0 ≤ c ∧ c < 1114112 ∧ ¬ (55296 ≤ c ∧ c < 57344)
theorem signOk_low {c : Int} (h0 : 0 ≤ c) (h1 : c < 55296) : SignOk c := ⟨h0, by omega, by omega⟩
theorem signOk_high {c : Int} (h0 : 65536 ≤ c) (h1 : c < 1114112) : SignOk c := ⟨by omega, h1, by omega⟩
theorem tabC_signs : ∀ p ∈ tabC, 0 ≤ p.2 ∧ p.2 < 1114112 ∧ ¬ (55296 ≤ p.2 ∧ p.2 < 57344) := by decide +kernel
theorem tabC_len : tabC.length = 232 := by decide +kernel
theorem tab_has {x : Int} (h : x ∈ tabC.map Prod.fst) : kdfHas tabC x = true := by
  obtain ⟨p, hp, rfl⟩ := List.mem_map.mp h
  exact List.any_eq_true.mpr ⟨p, hp, decide_eq_true rfl⟩
theorem tab_sign {x : Int} (h : x ∈ tabC.map Prod.fst) : SignOk (kdfLook tabC x 0) := by
  have h1 := tab_has h
  unfold kdfLook
  cases hf : tabC.find? fun p => decide (p.1 = x) with
  | none =>
    obtain ⟨p, hp, e⟩ := List.any_eq_true.mp h1
    exact absurd e (List.find?_eq_none.mp hf p hp)
  | some p => exact tabC_signs p (List.mem_of_find?_eq_some hf)
noncomputable def menuC : List Int := [8225, 8241, 55295, 57344, 65533, 65279, 65535, 160]
theorem menu_sign : ∀ k : Nat, k < 8 → 0 ≤ menuC.getD k 0 ∧ menuC.getD k 0 < 1114112 ∧ ¬ (55296 ≤ menuC.getD k 0 ∧ menuC.getD k 0 < 57344) := by decide +kernel
theorem seat_in {ns : List Int} {k : Int} (h : ∀ x ∈ ns, x ∈ tabC.map Prod.fst) (h0 : 0 ≤ k) (h1 : k < (ns.length : Int)) : ns.getD k.toNat 0 ∈ tabC.map Prod.fst := getD_in h (by omega)
theorem News.sub {h₀ h : Heap} {L : Addr} {led led' : List (Addr × Obj)} (N : News h₀ L h led) (hs : ∀ p ∈ led', p ∈ led) : News h₀ L h led' := fun p hp => N p (hs p hp)
theorem seat_at {ns : List Int} {v : Int} (h : ∀ x ∈ ns, x ∈ tabC.map Prod.fst) (hl : ns.length = 232) : ns.getD (v.fmod 232).toNat 0 ∈ tabC.map Prod.fst := by
  have h0 : 0 ≤ v.fmod 232 := by rw [Int.fmod_eq_emod_of_nonneg _ (by decide)]; exact Int.emod_nonneg _ (by decide)
  have h1 : v.fmod 232 < 232 := by rw [Int.fmod_eq_emod_of_nonneg _ (by decide)]; exact Int.emod_lt_of_pos _ (by decide)
  exact seat_in h h0 (by omega)
theorem sign_end {l d : Addr} {o : Obj} {vs : List Value} {ns : List Int} {n : Nat} {c : Int} {t : Tok} (hc : SignOk c) (hi : IntsAre vs ns) (hp : PoolOk ns) :
    (∃ c' t', Value.int c t = .int c' t' ∧ SignOk c') ∧ ∃ vs' ns' n', IntsAre vs' ns' ∧ PoolOk ns' ∧ [(l, listOf vs.toArray n), (d, o)] = [(l, listOf vs'.toArray n'), (d, o)] := ⟨⟨_, _, rfl, hc⟩, _, _, _, hi, hp, rfl⟩
section
variable {prog : Program} {w : World} {A : Around} {E : Value → Shared → Prop} {s : Shared} {h₀ : Heap} {L l : Addr} {news : List (Addr × Obj)} {c : Nat} {vs : List Value} {xs : List Int} {Q : Value → Shared → Prop}
theorem len_seats (N : News h₀ L s.heap news) (hm : (l, listOf vs.toArray c) ∈ news) (hi : IntsAre vs xs) (hl : xs.length = 232) (h : ∀ t k, Q (.int 232 t) { s with toks := k }) : wpAny (model prog w) A (call (.builtin "len") [.ref l]) Q E s :=
  len_ints N hm hi (by omega) fun t k => by rw [hl]; exact h t k
theorem item_seats {value slice : PySem.Expr} {v : Int} {u : Tok} (N : News h₀ L s.heap news) (hm : (l, listOf vs.toArray c) ∈ news) (hi : IntsAre vs xs) (hl : xs.length = 232) (h : ∀ t, Q (.int (xs.getD (v.fmod 232).toNat 0) t) s)
    (hs : subscripted slice false (.ref l) (.int (v.fmod 232) u) = operate [.ref l, .int (v.fmod 232) u] (getItem (.ref l) (.int (v.fmod 232) u)) := by with_unfolding_all rfl) : wpAny (model prog w) A (subscriptTail value slice (.ref l) (.int (v.fmod 232) u)) Q E s := by
  have h0 : 0 ≤ v.fmod 232 := by rw [Int.fmod_eq_emod_of_nonneg _ (by decide)]; exact Int.emod_nonneg _ (by decide)
  have h1 : v.fmod 232 < 232 := by rw [Int.fmod_eq_emod_of_nonneg _ (by decide)]; exact Int.emod_lt_of_pos _ (by decide)
  exact item_ints N hm hi h0 (by omega) (by omega) h hs
end
section
theorem sign_ok {w : World} {loose : List Str} {mean : ExcName → Option Value} {mg mb : Str → Option Value} {l d : Addr} {n : Nat} {vs : List Value} {ns : List Int} {o : Obj} {kvs : List (Int × Value)} (hv : IntsAre vs ns) (hpo : PoolOk ns) (hne : @Ne Nat l d) (hlo : (d == sysModules) = false)
    (hd' : o.IsDictOf (PySem.intKind PySem.Challenge.rw_nn0192_01.row.prog w) kvs) (hf' : PyProof.V.FlatPairs PyData.int kvs (kdfD tabC)) :
    Spec 16 w loose mean mg mb 66 [(l, listOf vs.toArray n), (d, o)] [.ref l, .ref d] (fun r own' => (∃ c t, r = .int c t ∧ SignOk c) ∧ ∃ vs' ns' n', IntsAre vs' ns' ∧ PoolOk ns' ∧ own' = [(l, listOf vs'.toArray n'), (d, o)]) := by
  k_with_none
  k_with "own pick" => (first | exact Pick.head | (refine' Pick.tail ?ptq0; (case ptq0 => k_extra "own pick")))
  k_with "own picks" => (first | exact Picks.nil | (refine' Picks.cons ?ppq1 ?pqq1; (case ppq1 => k_extra "own pick"); (case pqq1 => k_extra "own picks")))
  k_with "own allin" => (with_unfolding_all ((try simp only [List.nil_append, List.cons_append]); k_allIn))
  k_with "own allin0" => (first | exact List.forall_mem_nil _ | k_extra "own allin")
  k_with "own same" => (intro z h1 h2; first | rfl | (simp [h1, h2]; done) | (simp_all; done))
  k_with "own same1" => (intro z h1; first | rfl | (simp [h1]; done) | (simp_all; done))
  k_with "own same3" => (intro z h1 h2 h3; first | rfl | (simp [h1, h2, h3]; done) | (simp_all; done))
  k_with "own for" => (k_here; (with_reducible rename Fr _ _ _ _ => lF'); (with_unfolding_all refine' For_invVF lF' ?k1q7 ?k2q7 ?_; (case k1q7 => exact rfl); (case k2q7 => exact rfl); k_whole))
  k_with "own apart" => (first | exact List.forall_mem_nil _ | (refine' apart_cons ?paq8 ?pbq8; (case paq8 => k_all); (case pbq8 => k_extra "own apart")))
  k_with "own after" => (intro N9 D9; (replace D9 := ApartL.of D9); (try simp only [ApartL, OffL, and_true] at D9); (try simp only [List.cons_append, List.nil_append] at N9); (try dsimp only); (try k_sweep); (try k_fold))
  k_with "own append" => (k_here; (try dsimp only [List.cons_append, List.nil_append]); (with_reducible show wpAny _ _ (call (Value.builtin _) [Value.ref _, Value.int _ _]) _ _ _); k_dflt (refine' app_ints ?k1q10 ?k2q10 ?k3q10 ?k4q10 ?k5q10 ?k6q10 ?_; (case k1q10 => k_asm); (case k2q10 => k_asm); (case k3q10 => k_updF); (case k4q10 => with_reducible assumption); (case k5q10 => with_reducible assumption); (case k6q10 => first | with_reducible assumption | omega); k_whole); intro us' h' hi' hl' F' N'; (try dsimp only at N'); (try k_sweep))
  k_with "own get" => (k_here; (try dsimp only [List.cons_append, List.nil_append]); (with_reducible show wpAny _ _ (call (Value.builtin "dict.get") [Value.ref _, Value.int _ _, Value.int _ _]) _ _ _); k_dflt (refine kdf_get2 (by k_tabat) ?_); intro _)
  k_with "own off" => ((try simp only [LCg.Off3, OffL, and_true]); k_extra "own offs")
  k_with "own offs" => (first | k_extra "own cj" | (with_reducible refine' And.intro ?oaq13 ?obq13; (case oaq13 => k_extra "own offs"); (case obq13 => k_extra "own offs")) | k_extra "own ne")
  k_with "own ne" => (first | k_extra "own ne0" | omega)
  k_with "own ne0" => (first | k_extra "own cj" | (with_reducible refine Ne.symm ?_; k_extra "own cj") | (with_reducible refine Nat.ne_of_lt ?_; k_extra "own cj") | (with_reducible refine Nat.ne_of_gt ?_; k_extra "own cj"))
  k_with "own cj" => (with_reducible first | assumption | exact cjl0 (by assumption) | exact cjr0 (by assumption) | exact cjl1 (by assumption) | exact cjr1 (by assumption) | exact cjl2 (by assumption) | exact cjr2 (by assumption) | exact cjl3 (by assumption) | exact cjr3 (by assumption) | exact cjl4 (by assumption) | exact cjr4 (by assumption) | exact cjl5 (by assumption) | exact cjr5 (by assumption) | exact cjl6 (by assumption) | exact cjr6 (by assumption) | exact cjl7 (by assumption) | exact cjr7 (by assumption) | exact cjl8 (by assumption) | exact cjr8 (by assumption) | exact cjl9 (by assumption) | exact cjr9 (by assumption) | exact cjl10 (by assumption) | exact cjr10 (by assumption) | exact cjl11 (by assumption) | exact cjr11 (by assumption))
  k_with "own kne" => (refine neN ?_; (try dsimp only); k_extra "own ne0")
  k_with "own turn" => (unfold CTurn; intro I' oI' C' oC' D' m' ys' h' tk' E' hC' hx' F' N' off' ne'; (try (simp only [LCg.Off3, and_true] at off')); (try dsimp only); k_fold)
  k_with "own listcomp" => (k_here; k_dflt (refine ListComp_M (F₀ := by k_asm) (by with_unfolding_all rfl) (by decide) (by rfl) (by decide) (by rfl) ?_))
  k_with "own alistcomp" => (k_here; k_dflt (refine Assign_ListComp_M (F₀ := by k_asm) (by rfl) (by with_unfolding_all rfl) (by with_unfolding_all rfl) (by decide) (by rfl) (by decide) (by rfl) (by rfl) (by rfl) ?_))
  k_with "call ref" => first | (k_here; (with_reducible show wpAny _ _ (call (Value.ref 52) _) _ _ _); k_dflt (refine' Spec.use ?Bq21 ?Fq21 ?Xq21 ?Nq21 ?Tq21 (take_gives ?saq21 ?sbq21 ?scq21 ?sdq21) ?Pq21 ?Dq21 ?hkq21 ?hdq21 ?huq21 ?_; (case Bq21 | Fq21 | Xq21 | Nq21 | Tq21 => k_asm); (case sbq21 => with_reducible assumption); (case saq21 => with_reducible assumption); (case scq21 => decide); (case sdq21 => decide); (case Pq21 => k_extra "own picks"); (case Dq21 => k_extra "own apart"); (case hkq21 => first | exact rfl | assumption); (case hdq21 => ktr_room); (case huq21 => ktr_units)); intro r9 own9 h9 tk9 F9 N9 D9 hp9; (obtain ⟨⟨v9, t9, er9, hlo9, hhi9⟩, vs9, ns9, n9, hi9, hp9, eo9⟩ := hp9; subst er9; subst eo9); revert N9 D9; k_extra "own after")
  k_with "call builtin:sorted" => (k_here; (with_reducible show wpAny _ _ (call (Value.builtin "sorted") [Value.ref _]) _ _ _); k_dflt (refine' sorted_tab (c := tabC) rfl ?k1q22 ?k2q22 ?k3q22 ?k4q22 ?k5q22 ?_; (case k1q22 => k_asm); (case k2q22 => k_asm); (case k3q22 => k_tabat); (case k4q22 => rw [tabC_len]; decide); (case k5q22 => rw [tabC_len]; decide)); intro B9 vs9 ns9 n9 h9 tk9 F9 N9 l9 hi9 hlen9 hin9; (try k_lt l9); rw [tabC_len] at hlen9; (try k_sweep))
  k_with "call builtin:len" => (k_here; (with_reducible show wpAny _ _ (call (Value.builtin "len") [Value.ref _]) _ _ _); k_dflt (refine' len_seats ?k1q23 ?k2q23 ?k3q23 ?k4q23 ?_; (case k1q23 => k_asm); (case k4q23 => with_reducible assumption); (case k2q23 => k_mem); (case k3q23 => with_reducible assumption); k_whole); intro _ _)
  k_with "subscriptTail" => (k_here; (with_reducible show wpAny _ _ (subscriptTail _ _ (Value.ref _) (Value.int _ _)) _ _ _); (rename (∀ x ∈ _, x ∈ List.map Prod.fst tabC) => hin8); first | ((with_reducible show wpAny _ _ (subscriptTail _ _ (Value.ref _) (Value.int (List.getD _ _ _) _)) _ _ _); k_dflt (refine' kdf_item ?k1q24 ?k2q24 ?_; (case k1q24 => k_tabat); (case k2q24 => exact tab_has (seat_at hin8 (by with_reducible assumption)))); intro _) | (k_dflt (refine' item_seats ?k1q24 ?k2q24 ?k3q24 ?k4q24 ?_ ?k7q24; (case k1q24 => k_asm); (case k4q24 => with_reducible assumption); (case k2q24 => k_mem); (case k3q24 => with_reducible assumption); (case k7q24 => with_unfolding_all rfl); k_whole); intro _))
  w_on
  w_strict (refine' spec_of (binds := [(Str.ofString "pool", .ref l), (Str.ofString "table", .ref d)]) (by k_is) (by k_is) (fun s => BindsTo.of_eq rfl) (locs rfl) rfl rfl rfl (by decide) (by decide) ?_; intro dp un gd cn cs L a ccd cl outer base g L' h₁ gens drawn os tk Q E B hk F N X T hd hu hret A9; (try k_fold); k_steps; all_goals ((try dsimp only); refine' hret _ _ _ _ _ ?ha (News.sub ?hb ?hs) (sign_end ?hc ?hi ?hp); (case ha => k_asm); (case hp => with_reducible assumption); (case hi => with_reducible assumption); (case hb => k_asm); (case hs => (with_unfolding_all k_allIn)); (case hc => first | exact signOk_low (by omega) (by omega) | exact signOk_high (by omega) (by omega) | exact menu_sign _ (toNat_lt (by assumption) (by assumption)) | exact tab_sign (seat_at (by with_reducible assumption) (by with_reducible assumption)))))
end

--deps: P12_bytes
/-! ### list(octets) -/
theorem bytes_len_slot : typeLookup (.type "bytes") "__len__" = pure (some (.builtin "bytes.__len__")) := by rw [typeLookup_type, builtinLookup_eq_fast]; kernel_rfl
section
open PySem.Sem (wp)
variable {prog : Program} {w : World} {A : Around} {E : Value → Shared → Prop} {s : Shared} {b : Array UInt8} {t : Tok}
noncomputable def OctAt (b : Array UInt8) (i : Nat) (v : Value) : Prop := ∃ c u, b[i]? = some c ∧ v = .int (c.toNat : Int) u
theorem extend_octets {R : Result → Shared → Prop} (hh : A.handled = none) (S : Addr) (res : Value) (c₀ : Nat) (hS : s.heap.get? S = some { cls := .type "list", data := .seq #[] c₀ })
    (hR : ∀ h' tk acc' c', (∀ a o, a ≠ S → s.heap.get? a = some o → h'.get? a = some o) → h'.get? S = some { cls := .type "list", dict := none, data := .seq acc' c', slots := #[] } →
      ItemsOf (OctAt b) acc' b.size → R (.ok (.ret res)) { s with heap := h', toks := tk }) (hn : b.size ≤ sizeLine) :
    wpAny (model prog w) A.in1 (Builtin.List.listExtendWith (.ref S) (.bytes b t) res)
      (fun fin s' => match fin with | .done f => R (.ok f) s' | .again c' => c'.quiet = true ∧ codeAny (model prog w) A c' R s') (fun e s' => R (.error e) s') s := by
  have hSI : S ≠ s.heap.objs.size := Nat.ne_of_lt (Heap.lt_size hS)
  have hSf : S ∉ [s.heap.objs.size] := fun hm => hSI (List.mem_singleton.mp hm)
  have hT : ∀ s : Shared, s.TypeIs (.bytes b t) "bytes" := fun s => typeIs_bytes s b t
  unfold Builtin.List.listExtendWith
  refine wpAny_bind (wpAny_typeOf (T := "bytes") (hT _) ?_)
  have h1 : Builtin.List.listSameRef (.ref S) (.bytes b t) = false := rfl
  have h2 : (Value.type "bytes" == Value.type "list") = false := by decide
  have h3 : (Value.type "bytes" == Value.type "tuple") = false := by decide
  simp only [h1, h2, h3, Bool.or_false, Bool.false_eq_true, if_false]
  refine wpAny_bind (KBw.pyIter_bytes (wpAny_bind (wpAny_holding ?_)))
  unfold Builtin.List.listLengthHint
  refine wpAny_bind (wpAny_specialOf (T := "bytes") (hT _) bytes_len_slot ?_)
  wp_delta
  refine wpAny_bind (wpAny_isInstance (T := "bytes") (b := true) (hT _) (by rw [isSubtype_type]; kernel_rfl) ?_)
  show wpAny _ _ (typeOf (Value.bytes b t) >>= _) _ _ _
  refine wpAny_bind (wpAny_typeOf (T := "bytes") (hT _) ?_)
  refine wpAny_pure ?_
  rw [if_neg (by decide)]
  refine wpAny_pure ⟨plainId_quiet PySem.F.plain_extend_loop _, codeAny_extend_loopS (KBw.walks (A := A.in1) hh s.heap.objs.size b t).toS hn _ hSf _ b.size 0 _ _ _ rfl (Nat.zero_le _) ⟨_, Heap.get?_push_size _ rfl, rfl, rfl⟩ (Heap.get?_push_of_some _ hS) (ItemsOf.nil _) fun s' acc' c' hm hS' hacc => ?_⟩
  rw [Moved.eq_with hm]
  refine hR s'.heap s'.toks acc' c' (fun a ob ha e => hm.heap a ob (fun hmem => ?_) (Heap.get?_push_of_some _ e)) hS' hacc
  rcases List.mem_cons.mp hmem with e' | hmem
  · exact ha e'
  · exact absurd (Heap.lt_size e) (by rw [List.mem_singleton.mp hmem]; exact Nat.lt_irrefl _)
theorem init_octets {R : Result → Shared → Prop} (hh : A.handled = none) (S : Addr) (hS : s.heap.get? S = some { cls := .type "list", data := .seq #[] })
    (hR : ∀ h' tk acc' c', (∀ a o, a ≠ S → s.heap.get? a = some o → h'.get? a = some o) → h'.get? S = some { cls := .type "list", dict := none, data := .seq acc' c', slots := #[] } →
      ItemsOf (OctAt b) acc' b.size → R (.ok (.ret .none)) { s with heap := h', toks := tk }) (hn : b.size ≤ sizeLine) :
    wpAny (model prog w) A.in1 (Builtin.«list.__init__» ⟨[.ref S, .bytes b t], []⟩)
      (fun fin s' => match fin with | .done f => R (.ok f) s' | .again c' => c'.quiet = true ∧ codeAny (model prog w) A c' R s') (fun e s' => R (.error e) s') s := by
  refine wpAny_bind (m := Builtin.List.listItems (.ref S)) (listItems_at hS rfl ?_)
  refine wpAny_bind (m := Builtin.List.listUpdate (.ref S) (fun _ => #[])) (listUpdate_at hS rfl ?_)
  have hS₂ := Heap.get?_update_self (Obj.mapSeq (fun _ => (#[] : Array Value))) hS rfl
  have oth : ∀ a o, a ≠ S → s.heap.get? a = some o → (s.heap.update S (Obj.mapSeq (fun _ => (#[] : Array Value)))).get? a = some o :=
    fun a o ha e => (Heap.get?_update_other _ _ (Ne.symm ha)).trans e
  refine wpAny_bind (wpAny_letGo ?_)
  refine extend_octets (hn := hn) hh S .none _ hS₂ fun h' tk acc' c' hk hS' hacc => ?_
  exact hR h' tk acc' c' (fun a o ha e => hk a o ha (oth a o ha e)) hS' hacc
theorem octs_ints : ∀ {vs : List Value} {l : List UInt8}, vs.length = l.length → (∀ (j : Nat) (v : Value), vs[j]? = some v → ∃ c u, l[j]? = some c ∧ v = .int ((c.toNat : Nat) : Int) u) → IntsAre vs (l.map fun c => ((c.toNat : Nat) : Int))
  | [], [], _, _ => .nil
  | v :: vs, c :: l, hl, h => by
    obtain ⟨c', u, e, rfl⟩ := h 0 v rfl
    simp only [List.getElem?_cons_zero, Option.some.injEq] at e
    subst e
    exact .cons _ u (octs_ints (by simpa using hl) fun j v hj => by simpa using h (j + 1) v (by simpa using hj))
  | [], _ :: _, hl, _ => by simp at hl
  | _ :: _, [], hl, _ => by simp at hl
theorem list_octets {h₀ : Heap} {L : Addr} {m : Str → Option Value} {news : List (Addr × Obj)} {ks : List Int} {Q : Value → Shared → Prop} (hh : A.handled = none) (F : Fr h₀ L s.heap m) (N : News h₀ L s.heap news) (hk : KBw.bInts b = ks) (hb : ks.length ≤ 1000)
    (h : ∀ D us c h' tk, Fr h₀ L h' m → News h₀ L h' ((D, listOf (List.toArray us) c) :: news) → (∀ p ∈ news, p.1 < D) → IntsAre us ks → Q (.ref D) { s with heap := h', toks := tk }) :
    wpAny (model prog w) A (call (.type "list") [.bytes b t]) Q E s := by
  subst hk
  have hn : b.size ≤ sizeLine := by rw [sizeLine_eq, ← KBw.ints_length]; omega
  refine callType_codes (Q₁ := fun obj s₁ => obj = .ref s.heap.objs.size ∧ s₁ = { s with heap := s.heap.push { cls := .type "list", data := .seq #[] } }) PySem.F.called_list (PySem.F.typeCall_list_1 _) PySem.F.entry_list_init
    (code_list_new _ ⟨rfl, rfl⟩) fun obj s₁ h₁ => ?_
  obtain ⟨rfl, rfl⟩ := h₁
  have hS : (s.heap.push { cls := .type "list", data := .seq #[] }).get? s.heap.objs.size = some { cls := .type "list", data := .seq #[] } := Heap.get?_push_size _ rfl
  refine ⟨⟨_, hS, rfl⟩, PySem.F.args_list_init_2 _ _, init_octets (A := A.in1) (hn := hn) hh _ hS fun h' tk acc' c' hk hS' hacc => ⟨rfl, ?_⟩⟩
  have hk' : ∀ a o, s.heap.get? a = some o → h'.get? a = some o := fun a o e => hk a o (Nat.ne_of_lt (Heap.lt_size e)) (Heap.get?_push_of_some _ e)
  have hD' : h'.get? s.heap.objs.size = some (listOf (List.toArray acc'.toList) c') := by
    rw [Array.toArray_toList]
    exact hS'
  refine h _ acc'.toList c' h' tk (F.keeps hk') (news_pushed F N hk' hD' rfl) (fun p hp => Heap.lt_size (N p hp).1) ?_
  refine octs_ints (by rw [Array.length_toList, Array.length_toList]; exact hacc.1) fun j v hj => ?_
  obtain ⟨c, u, hc, e⟩ := hacc.2 j v (by rw [← hj, Array.getElem?_toList])
  exact ⟨c, u, by rw [Array.getElem?_toList]; exact hc, e⟩
end
/-! ### bits -/
theorem nat_and_zero {a b k : Nat} (h : b < 2 ^ k) : (a * 2 ^ k) &&& b = 0 := by
  refine Nat.eq_of_testBit_eq fun i => ?_
  rw [Nat.testBit_and, Nat.zero_testBit]
  by_cases hi : i < k
  · rw [Nat.mul_comm, Nat.testBit_two_pow_mul]
    simp [Nat.not_le.mpr hi]
  · rw [Nat.testBit_lt_two_pow (Nat.lt_of_lt_of_le h (Nat.pow_le_pow_right (by decide) (Nat.le_of_not_lt hi))), Bool.and_false]
theorem or_low {a b : Int} {k : Nat} (ha : 0 ≤ a) (hb : 0 ≤ b) (h : b < 2 ^ k) : Builtin.bitOr (a * 2 ^ k) b = a * 2 ^ k + b := by
  have hp : (0 : Int) ≤ a * 2 ^ k := Int.mul_nonneg ha (Int.pow_nonneg (by decide))
  rw [bitOr_and]
  have e : Builtin.bitAnd (a * 2 ^ k) b = 0 := by
    unfold Builtin.bitAnd
    rw [decide_eq_true hp, decide_eq_true hb]
    dsimp only
    have e1 : (a * 2 ^ k).toNat = a.toNat * 2 ^ k := by
      have : a * 2 ^ k = ((a.toNat * 2 ^ k : Nat) : Int) := by rw [Int.natCast_mul, Int.toNat_of_nonneg ha]; simp
      rw [this]; rfl
    have e2 : b.toNat < 2 ^ k := by
      have : ((2 ^ k : Nat) : Int) = 2 ^ k := by simp
      omega
    rw [e1, nat_and_zero e2]
    rfl
  rw [e]
  omega
section
variable {prog : Program} {w : World} {A : Around} {E : Value → Shared → Prop} {s : Shared} {a b : Int} {t u : Tok} {Q : Value → Shared → Prop}
theorem shl_8 (h0 : 0 ≤ a) (h1 : a < 1048576) (h : ∀ t k, Q (.int (a * 256) t) { s with toks := k }) : wpAny (model prog w) A (binaryOp .LShift (.int a t) (.int 8 u)) Q E s :=
  lshift_int_small (by decide) (by decide) (by omega) (h _ _)
theorem shl_10 (h0 : 0 ≤ a) (h1 : a < 1048576) (h : ∀ t k, Q (.int (a * 1024) t) { s with toks := k }) : wpAny (model prog w) A (binaryOp .LShift (.int a t) (.int 10 u)) Q E s :=
  lshift_int_small (by decide) (by decide) (by omega) (h _ _)
theorem shr_8 (h : ∀ t k, Q (.int (a / 256) t) { s with toks := k }) : wpAny (model prog w) A (binaryOp .RShift (.int a t) (.int 8 u)) Q E s := by
  refine rshift_int (by decide) ?_
  have e : a.fdiv (2 ^ (8 : Int).toNat) = a / 256 := Int.fdiv_eq_ediv_of_nonneg _ (by decide)
  rw [e]; exact h _ _
theorem shr_10 (h : ∀ t k, Q (.int (a / 1024) t) { s with toks := k }) : wpAny (model prog w) A (binaryOp .RShift (.int a t) (.int 10 u)) Q E s := by
  refine rshift_int (by decide) ?_
  have e : a.fdiv (2 ^ (10 : Int).toNat) = a / 1024 := Int.fdiv_eq_ediv_of_nonneg _ (by decide)
  rw [e]; exact h _ _
theorem and_1023 (h : ∀ t k, Q (.int (a % 1024) t) { s with toks := k }) : wpAny (model prog w) A (binaryOp .BitAnd (.int a t) (.int 1023 u)) Q E s := by
  refine and_int ?_
  have e : Builtin.bitAnd a 1023 = a % 1024 := kbt_mask a 10
  rw [e]; exact h _ _
theorem and_255 (h : ∀ t k, Q (.int (a % 256) t) { s with toks := k }) : wpAny (model prog w) A (binaryOp .BitAnd (.int a t) (.int 255 u)) Q E s := by
  refine and_int ?_
  have e : Builtin.bitAnd a 255 = a % 256 := kbt_mask a 8
  rw [e]; exact h _ _
theorem or_8 (ha : 0 ≤ a) (hb : 0 ≤ b) (h1 : b < 256) (h : ∀ t k, Q (.int (a * 256 + b) t) { s with toks := k }) : wpAny (model prog w) A (binaryOp .BitOr (.int (a * 256) t) (.int b u)) Q E s := by
  refine or_int ?_
  have e : Builtin.bitOr (a * 256) b = a * 256 + b := or_low (k := 8) ha hb h1
  rw [e]; exact h _ _
theorem or_hi (hb : 0 ≤ b) (h1 : b < 1024) (h : ∀ t k, Q (.int (55296 + b) t) { s with toks := k }) : wpAny (model prog w) A (binaryOp .BitOr (.int 55296 t) (.int b u)) Q E s := by
  refine or_int ?_
  have e : Builtin.bitOr 55296 b = 55296 + b := or_low (a := 54) (k := 10) (by decide) hb h1
  rw [e]; exact h _ _
theorem or_lo (hb : 0 ≤ b) (h1 : b < 1024) (h : ∀ t k, Q (.int (56320 + b) t) { s with toks := k }) : wpAny (model prog w) A (binaryOp .BitOr (.int 56320 t) (.int b u)) Q E s := by
  refine or_int ?_
  have e : Builtin.bitOr 56320 b = 56320 + b := or_low (a := 55) (k := 10) (by decide) hb h1
  rw [e]; exact h _ _
end
section
variable {prog : Program} {w : World} {A : Around} {E : Value → Shared → Prop} {s : Shared} {h₀ : Heap} {L l : Addr} {news : List (Addr × Obj)} {c : Nat} {vs : List Value} {xs : List Int} {Q : Value → Shared → Prop}
theorem item_octet {value slice : PySem.Expr} {k : Int} {u : Tok} (N : News h₀ L s.heap news) (hm : (l, listOf vs.toArray c) ∈ news) (hi : IntsAre vs xs) (hx : ∀ x ∈ xs, 0 ≤ x ∧ x < 256) (h0 : 0 ≤ k) (h1 : k < (xs.length : Int)) (hfit : xs.length ≤ 1000)
    (h : ∀ t v, v = xs.getD k.toNat 0 → 0 ≤ v → v < 256 → Q (.int v t) s)
    (hs : subscripted slice false (.ref l) (.int k u) = operate [.ref l, .int k u] (getItem (.ref l) (.int k u)) := by with_unfolding_all rfl) : wpAny (model prog w) A (subscriptTail value slice (.ref l) (.int k u)) Q E s := by
  have hg : 0 ≤ xs.getD k.toNat 0 ∧ xs.getD k.toNat 0 < 256 := by
    have hk : k.toNat < xs.length := by omega
    rw [List.getD_eq_getElem?_getD, List.getElem?_eq_getElem hk]
    exact hx _ (List.getElem_mem _)
  exact item_ints N hm hi h0 h1 (by omega) (fun t => h t _ rfl hg.1 hg.2) hs
end

--deps: P12_bytes P16_sort P18_listb
/-! ### the law's reading -/
noncomputable def LrSt (ks done rest : List Int) (held : Int) : Prop :=
  (held = -1 ∨ (55296 ≤ held ∧ held < 56320)) ∧ done ++ readU ((if held < 0 then [] else [held]) ++ pairsU rest) = readU (pairsU ks) ∧ (∀ x ∈ rest, 0 ≤ x ∧ x < 256) ∧ rest.length % 2 = ks.length % 2 ∧ done.length + rest.length ≤ ks.length
theorem lr_two {rest : List Int} (h : 1 < rest.length) : rest = rest.getD 0 0 :: rest.getD 1 0 :: rest.drop 2 := by
  match rest, h with
  | a :: b :: r, _ => rfl
  | [_], h => simp at h
  | [], h => simp at h
theorem readU_cons {u : Int} {R : List Int} (h : ¬ (55296 ≤ u ∧ u < 56320)) : readU (u :: R) = (if 55296 ≤ u ∧ u < 57344 then 65533 else u) :: readU R := by
  cases R with
  | nil => simp only [readU]; split <;> rfl
  | cons v r => rw [readU, if_neg fun q => h ⟨q.1, q.2.1⟩]
theorem readU_lone {u v : Int} {R : List Int} (h : 55296 ≤ u ∧ u < 56320) (hv : ¬ (56320 ≤ v ∧ v < 57344)) : readU (u :: v :: R) = 65533 :: readU (v :: R) := by
  rw [readU, if_neg fun q => hv ⟨q.2.2.1, q.2.2.2⟩, if_pos ⟨h.1, by omega⟩]
section
variable {ks done rest : List Int} {held : Int}
theorem lr_get (S : LrSt ks done rest held) (h : 1 < rest.length) {k : Nat} (hk : k < 2) : 0 ≤ rest.getD k 0 ∧ rest.getD k 0 < 256 := getD_in S.2.2.1 (by omega)
theorem lr_step (S : LrSt ks done rest held) (h : 1 < rest.length) {done' : List Int} {held' : Int} (hh : held' = -1 ∨ (55296 ≤ held' ∧ held' < 56320)) (hl : done'.length ≤ done.length + 2)
    (e : done' ++ readU ((if held' < 0 then [] else [held']) ++ pairsU (rest.drop 2)) = done ++ readU ((if held < 0 then [] else [held]) ++ (rest.getD 0 0 * 256 + rest.getD 1 0) :: pairsU (rest.drop 2))) : LrSt ks done' (rest.drop 2) held' := by
  obtain ⟨h1, h2, h3, h4, h5⟩ := S
  refine ⟨hh, ?_, fun x hx => h3 x (List.mem_of_mem_drop hx), by rw [List.length_drop]; omega, by rw [List.length_drop]; omega⟩
  rw [e, ← h2]
  congr 2
  conv => rhs; rw [lr_two h, pairsU]
end
section
variable {ks done xs : List Int} {held v₀ v₁ : Int}
theorem lr_pair (S : LrSt ks done xs held) (h : 1 < (xs.length : Int)) (e₀ : v₀ = xs.getD (Int.toNat 0) 0) (e₁ : v₁ = xs.getD (Int.toNat 1) 0) (h0 : 0 ≤ held) (a : 56320 ≤ v₀ * 256 + v₁) (b : v₀ * 256 + v₁ ≤ 57343) :
    LrSt ks (done ++ [65536 + held % 1024 * 1024 + (v₀ * 256 + v₁) % 1024]) (xs.drop 2) (-1) := by
  subst e₀ e₁
  have h1 := S.1
  refine lr_step S (by omega) (.inl rfl) (by simp) ?_
  rw [if_pos (by decide), if_neg (by omega)]
  simp only [List.nil_append, List.cons_append]
  show _ = done ++ readU (held :: (xs.getD (Int.toNat 0) 0 * 256 + xs.getD (Int.toNat 1) 0) :: pairsU (xs.drop 2))
  rw [readU, if_pos ⟨by omega, by omega, a, by omega⟩, List.append_assoc]
  congr 1
  show _ :: _ = _ :: _
  congr 1
  omega
theorem lr_hold (S : LrSt ks done xs held) (h : 1 < (xs.length : Int)) (e₀ : v₀ = xs.getD (Int.toNat 0) 0) (e₁ : v₁ = xs.getD (Int.toNat 1) 0) (h0 : ¬ 0 ≤ held) (a : 55296 ≤ v₀ * 256 + v₁) (b : v₀ * 256 + v₁ ≤ 56319) :
    LrSt ks done (xs.drop 2) (v₀ * 256 + v₁) := by
  subst e₀ e₁
  refine lr_step S (by omega) (.inr ⟨a, by omega⟩) (by simp) ?_
  rw [if_neg (by omega), if_pos (by omega)]
  rfl
theorem lr_low (S : LrSt ks done xs held) (h : 1 < (xs.length : Int)) (e₀ : v₀ = xs.getD (Int.toNat 0) 0) (e₁ : v₁ = xs.getD (Int.toNat 1) 0) (h0 : ¬ 0 ≤ held) (a : 56320 ≤ v₀ * 256 + v₁) (b : v₀ * 256 + v₁ ≤ 57343) :
    LrSt ks (done ++ [65533]) (xs.drop 2) held := by
  have hm : held = -1 := by have := S.1; omega
  subst e₀ e₁
  refine lr_step S (by omega) (.inl hm) (by simp) ?_
  rw [if_pos (by omega)]
  simp only [List.nil_append]
  show _ = done ++ readU ((xs.getD (Int.toNat 0) 0 * 256 + xs.getD (Int.toNat 1) 0) :: pairsU (xs.drop 2))
  rw [readU_cons (by omega), if_pos ⟨by omega, by omega⟩, List.append_assoc]
  rfl
theorem lr_one (S : LrSt ks done xs held) (h : 1 < (xs.length : Int)) (e₀ : v₀ = xs.getD (Int.toNat 0) 0) (e₁ : v₁ = xs.getD (Int.toNat 1) 0) (h0 : ¬ 0 ≤ held) (a : ¬ (55296 ≤ v₀ * 256 + v₁ ∧ v₀ * 256 + v₁ ≤ 57343)) :
    LrSt ks (done ++ [v₀ * 256 + v₁]) (xs.drop 2) held := by
  have hm : held = -1 := by have := S.1; omega
  subst e₀ e₁
  refine lr_step S (by omega) (.inl hm) (by simp) ?_
  rw [if_pos (by omega)]
  simp only [List.nil_append]
  show _ = done ++ readU ((xs.getD (Int.toNat 0) 0 * 256 + xs.getD (Int.toNat 1) 0) :: pairsU (xs.drop 2))
  rw [readU_cons (by omega), if_neg (by omega), List.append_assoc]
  rfl
theorem lr_lone_hold (S : LrSt ks done xs held) (h : 1 < (xs.length : Int)) (e₀ : v₀ = xs.getD (Int.toNat 0) 0) (e₁ : v₁ = xs.getD (Int.toNat 1) 0) (h0 : 0 ≤ held) (a : 55296 ≤ v₀ * 256 + v₁) (b : v₀ * 256 + v₁ ≤ 56319) :
    LrSt ks (done ++ [65533]) (xs.drop 2) (v₀ * 256 + v₁) := by
  subst e₀ e₁
  have h1 := S.1
  refine lr_step S (by omega) (.inr ⟨a, by omega⟩) (by simp) ?_
  rw [if_neg (by omega), if_neg (by omega)]
  simp only [List.nil_append, List.cons_append]
  show _ = done ++ readU (held :: (xs.getD (Int.toNat 0) 0 * 256 + xs.getD (Int.toNat 1) 0) :: pairsU (xs.drop 2))
  rw [readU_lone (by omega) (by omega), List.append_assoc]
  rfl
theorem lr_lone_one (S : LrSt ks done xs held) (h : 1 < (xs.length : Int)) (e₀ : v₀ = xs.getD (Int.toNat 0) 0) (e₁ : v₁ = xs.getD (Int.toNat 1) 0) (h0 : 0 ≤ held) (a : ¬ (55296 ≤ v₀ * 256 + v₁ ∧ v₀ * 256 + v₁ ≤ 57343)) :
    LrSt ks (done ++ [65533] ++ [v₀ * 256 + v₁]) (xs.drop 2) (-1) := by
  subst e₀ e₁
  have h1 := S.1
  refine lr_step S (by omega) (.inl rfl) (by simp) ?_
  rw [if_pos (by decide), if_neg (by omega)]
  simp only [List.nil_append, List.cons_append]
  show _ = done ++ readU (held :: (xs.getD (Int.toNat 0) 0 * 256 + xs.getD (Int.toNat 1) 0) :: pairsU (xs.drop 2))
  rw [readU_lone (by omega) (by omega), readU_cons (by omega), if_neg (by omega), List.append_assoc, List.append_assoc]
  rfl
end
theorem lr_done {ks done xs : List Int} {held : Int} (hm : ks.take 2 = [254, 255]) (S : LrSt (ks.drop 2) done xs held) (h : ¬ 1 < (xs.length : Int)) : (if 0 ≤ held then done ++ [65533] else done) ++ List.replicate xs.length 65533 = textC ks := by
  obtain ⟨h1, h2, h3, h4, h5⟩ := S
  have h6 := mark_len hm
  unfold textC
  rw [if_pos hm, ← h2]
  rw [List.length_drop] at h4
  have hp : pairsU xs = [] := by
    match xs, h with
    | [], _ => rfl
    | [_], _ => rfl
    | _ :: _ :: _, h => simp only [List.length_cons] at h; omega
  rw [hp, List.append_nil]
  have e1 : readU (if held < 0 then [] else [held]) = if 0 ≤ held then [65533] else [] := by
    by_cases q : held < 0
    · rw [if_pos q, if_neg (by omega)]; rfl
    · rw [if_neg q, if_pos (by omega), readU, if_pos ⟨by omega, by omega⟩]
  rw [e1]
  have e2 : List.replicate xs.length (65533 : Int) = if ks.length % 2 = 1 then [65533] else [] := by
    match xs, h with
    | [], _ => rw [if_neg (by simp only [List.length_nil] at h4; omega)]; rfl
    | [_], _ => rw [if_pos (by simp only [List.length_singleton] at h4; omega)]; rfl
    | _ :: _ :: _, h => simp only [List.length_cons] at h; omega
  rw [e2]
  by_cases q : 0 ≤ held
  · rw [if_pos q, if_pos q]
  · rw [if_neg q, if_neg q, List.append_nil]
theorem lr_done_a {ks done xs : List Int} {held : Int} (hm : ks.take 2 = [254, 255]) (S : LrSt (ks.drop 2) done xs held) (h : ¬ 1 < (xs.length : Int)) (h0 : 0 ≤ held) : done ++ [65533] ++ List.replicate xs.length 65533 = textC ks := by
  rw [← lr_done hm S h, if_pos h0]
theorem lr_done_b {ks done xs : List Int} {held : Int} (hm : ks.take 2 = [254, 255]) (S : LrSt (ks.drop 2) done xs held) (h : ¬ 1 < (xs.length : Int)) (h0 : ¬ 0 ≤ held) : done ++ List.replicate xs.length 65533 = textC ks := by
  rw [← lr_done hm S h, if_neg h0]
noncomputable def LrR (ks : List Int) (D d : Addr) (o : Obj) (m₀ : Str → Option Value) (n : Nat) (m : Str → Option Value) (nx : List (Addr × Obj)) : Prop :=
  ∃ la vs xs k₁ us done k₂ held th, nx = [(D, listOf us.toArray k₂), (la, listOf vs.toArray k₁), (d, o)] ∧ n = xs.length ∧ LrSt ks done xs held ∧ IntsAre vs xs ∧ IntsAre us done ∧ m (Str.ofString "rest") = some (.ref la) ∧ m (Str.ofString "held") = some (.int held th) ∧
    (∀ z, z ≠ Str.ofString "rest" → z ≠ Str.ofString "held" → z ≠ Str.ofString "unit" → m z = m₀ z) ∧ (@Ne Nat D la)
theorem lr_while {prog : Program} {w : World} {A : Around} {E : Value → Shared → Prop} {Q : Flow → Shared → Prop} {s : Shared} {env : Env} {h₀ : Heap} {L : Addr} {test : PySem.Expr} {body : List Stmt} {pos : Pos} {m₀ : Str → Option Value} {news : List (Addr × Obj)} {ks : List Int} {la D d : Addr} {o : Obj} {vs : List Value} {k₁ k₂ : Nat} {th : Tok} {w' : World} {kvs : List (Int × Value)} (hd : o.IsDictOf (PySem.intKind PySem.Challenge.rw_nn0192_01.row.prog w') kvs)
    (F : Fr h₀ L s.heap m₀) (N : News h₀ L s.heap news) (hn : ∀ p ∈ [(D, listOf #[] k₂), (la, listOf vs.toArray k₁), (d, o)], p ∈ news) (hi : IntsAre vs ks) (hx : ∀ x ∈ ks, 0 ≤ x ∧ x < 256) (hb : ks.length ≤ 1000) (hr : m₀ (Str.ofString "rest") = some (.ref la)) (h0 : m₀ (Str.ofString "held") = some (.int (-1) th))
    (hne : @Ne Nat D la)
    (turn : ∀ la vs xs k₁ us done k₂ held th (q : Str → Option Value) h tk, LrSt ks done xs held → IntsAre vs xs → IntsAre us done → xs.length ≤ 1000 → done.length ≤ 1000 → (@Ne Nat D la) → (held = -1 ∨ (55296 ≤ held ∧ held < 56320)) → (∀ x ∈ xs, 0 ≤ x ∧ x < 256) →
      Fr h₀ L h (fun z => if z = Str.ofString "rest" then some (.ref la) else if z = Str.ofString "held" then some (.int held th) else if z = Str.ofString "unit" then q z else m₀ z) → News h₀ L h [(D, listOf us.toArray k₂), (la, listOf vs.toArray k₁), (d, o)] →
      wpAny (model prog w) A (isTrue test env (eval test env)) (fun b s₂ => if b = true then wpAny (model prog w) A (execs body env) (WlPost h₀ L s (LrR ks D d o m₀) Q xs.length) E s₂ else Q .next s₂) E { s with heap := h, toks := tk })
    (hE : PassesOwn (model prog w) A env E := by passes_own) :
    wpAny (model prog w) A (exec (.While test body [] pos) env) Q E s := by
  refine wl_while (LrR ks D d o m₀) F (news := [(D, listOf #[] k₂), (la, listOf vs.toArray k₁), (d, o)]) (fun p hp => N p (hn p hp)) (n₀ := ks.length) ⟨la, vs, ks, k₁, [], [], k₂, -1, th, rfl, rfl, ⟨.inl rfl, rfl, hx, rfl, by simp⟩, hi, .nil, hr, h0, fun _ _ _ _ => rfl, hne⟩ ?_ hE
  rintro n m₁ nx h tk ⟨la, vs, xs, k₁, us, done, k₂, held, th, rfl, rfl, S, hvs, hus, ha, hh, hm, hne⟩ F₁ N₁
  have e1 : m₁ = fun z => if z = Str.ofString "rest" then some (.ref la) else if z = Str.ofString "held" then some (.int held th) else if z = Str.ofString "unit" then m₁ z else m₀ z := by
    funext z
    by_cases h1 : z = Str.ofString "rest"
    · simp only [if_pos h1]; rw [h1]; exact ha
    · simp only [if_neg h1]
      by_cases h2 : z = Str.ofString "held"
      · simp only [if_pos h2]; rw [h2]; exact hh
      · simp only [if_neg h2]
        by_cases h3 : z = Str.ofString "unit"
        · simp only [if_pos h3]
        · simp only [if_neg h3]; exact hm z h1 h2 h3
  rw [e1] at F₁
  have h5 := S.2.2.2.2
  exact turn la vs xs k₁ us done k₂ held th m₁ h tk S hvs hus (by omega) (by omega) hne S.1 S.2.2.1 F₁ N₁
theorem clip_drop (ks : List Int) : ks.drop (clipAt ks.length 2) = ks.drop 2 := by
  unfold clipAt
  by_cases h : 2 ≤ ks.length
  · congr 1; omega
  · rw [List.drop_eq_nil_of_le (by omega), List.drop_eq_nil_of_le (by omega)]
theorem clip_take (ks : List Int) : ks.take (clipAt ks.length 2) = ks.take 2 := by
  unfold clipAt
  by_cases h : 2 ≤ ks.length
  · congr 1; omega
  · rw [List.take_of_length_le (by omega), List.take_of_length_le (by omega)]
theorem clip_tail (ks : List Int) : List.take (ks.length - clipAt ks.length 2) (List.drop (clipAt ks.length 2) ks) = ks.drop 2 := by
  rw [List.take_of_length_le (by rw [List.length_drop]; omega), clip_drop]
theorem octs_mark {c : Array UInt8} {ks : List Int} (h : KBw.bInts c = List.take (clipAt ks.length 2) ks) : c.toList = (#[254, 255] : Array UInt8).toList ↔ ks.take 2 = [254, 255] := by
  rw [clip_take] at h
  rw [← h]
  exact ⟨fun q => by rw [Array.toList_inj.mp q]; decide +kernel, fun q => by rw [bInts_inj (c := #[254, 255]) (q.trans (by decide +kernel))]⟩
theorem octs_mark_t {c : Array UInt8} {ks : List Int} (h : KBw.bInts c = List.take (clipAt ks.length 2) ks) (e : (c.toList != #[254, 255].toList) = true) : ¬ ks.take 2 = [254, 255] :=
  fun q => bne_iff_ne.mp e ((octs_mark h).mpr q)
theorem octs_mark_f {c : Array UInt8} {ks : List Int} (h : KBw.bInts c = List.take (clipAt ks.length 2) ks) (e : (c.toList != #[254, 255].toList) = false) : ks.take 2 = [254, 255] :=
  (octs_mark h).mp (by simpa using e)

theorem look_sig : ∀ k : Nat, k < 256 → kdfLook tabC (k : Int) 65533 = sigC.getD k 0 := by
  intro k hk
  unfold sigC
  rw [List.getD_eq_getElem?_getD, List.getElem?_map, List.getElem?_range hk]
  rfl
theorem look_text {ks : List Int} (hm : ¬ ks.take 2 = [254, 255]) (hx : ∀ x ∈ ks, 0 ≤ x ∧ x < 256) : ks.map (fun a => kdfLook tabC a 65533) = textC ks := by
  rw [← textC_a hm]
  refine List.map_congr_left fun x h => ?_
  have hb := hx x h
  have := look_sig x.toNat (by omega)
  rw [Int.toNat_of_nonneg hb.1] at this
  exact this
theorem flat_rep (n : Nat) (a : Int) : (List.replicate ((n : Int).toNat) [a]).flatten = List.replicate n a := by
  rw [Int.toNat_natCast]
  induction n with
  | zero => rfl
  | succ n ih => rw [List.replicate_succ, List.flatten_cons, ih]; rfl
theorem ints_as {us : List Value} {xs ys : List Int} (h : IntsAre us xs) (e : xs = ys) : IntsAre us ys := e ▸ h
theorem rd_post {D d : Addr} {us : List Value} {n : Nat} {o : Obj} {ks : List Int} (h : IntsAre us (textC ks)) : ∃ D' us' n', (Value.ref D) = .ref D' ∧ IntsAre us' (textC ks) ∧ [(D, listOf us.toArray n), (d, o)] = [(D', listOf us'.toArray n'), (d, o)] := ⟨_, _, _, rfl, h, rfl⟩

--deps: P19_rdlaw P17_sign Dev
section
theorem lawread_ok {w : World} {loose : List Str} {mean : ExcName → Option Value} {mg mb : Str → Option Value} {b : Array UInt8} {tb : Tok} {ks : List Int} {d : Addr} {o : Obj} {kvs : List (Int × Value)} (hk' : KBw.bInts b = ks) (hb : ks.length ≤ 1000) (hlo : (d == sysModules) = false)
    (hd' : o.IsDictOf (PySem.intKind PySem.Challenge.rw_nn0192_01.row.prog w) kvs) (hf' : PyProof.V.FlatPairs PyData.int kvs (kdfD tabC)) :
    Spec 16 w loose mean mg mb 76 [(d, o)] [.bytes b tb, .ref d] (fun r own' => ∃ D us n, r = .ref D ∧ IntsAre us (textC ks) ∧ own' = [(D, listOf us.toArray n), (d, o)]) := by
  k_with_none
  k_with "own pick" => (first | exact Pick.head | (refine' Pick.tail ?ptq0; (case ptq0 => k_extra "own pick")))
  k_with "own picks" => (first | exact Picks.nil | (refine' Picks.cons ?ppq1 ?pqq1; (case ppq1 => k_extra "own pick"); (case pqq1 => k_extra "own picks")))
  k_with "own allin" => (with_unfolding_all ((try simp only [List.nil_append, List.cons_append]); k_allIn))
  k_with "own allin0" => (first | exact List.forall_mem_nil _ | k_extra "own allin")
  k_with "own same" => (intro z h1 h2; first | rfl | (simp [h1, h2]; done) | (simp_all; done))
  k_with "own same1" => (intro z h1; first | rfl | (simp [h1]; done) | (simp_all; done))
  k_with "own same3" => (intro z h1 h2 h3; first | rfl | (simp [h1, h2, h3]; done) | (simp_all; done))
  k_with "own for" => (k_here; (with_reducible rename Fr _ _ _ _ => lF'); (with_unfolding_all refine' For_invVF lF' ?k1q7 ?k2q7 ?_; (case k1q7 => exact rfl); (case k2q7 => exact rfl); k_whole))
  k_with "own apart" => (first | exact List.forall_mem_nil _ | (refine' apart_cons ?paq8 ?pbq8; (case paq8 => k_all); (case pbq8 => k_extra "own apart")))
  k_with "own after" => (intro N9 D9; (replace D9 := ApartL.of D9); (try simp only [ApartL, OffL, and_true] at D9); (try simp only [List.cons_append, List.nil_append] at N9); (try dsimp only); (try k_sweep); (try k_fold))
  k_with "own append" => (k_here; (try dsimp only [List.cons_append, List.nil_append]); (with_reducible show wpAny _ _ (call (Value.builtin _) [Value.ref _, Value.int _ _]) _ _ _); k_dflt (refine' app_ints ?k1q10 ?k2q10 ?k3q10 ?k4q10 ?k5q10 ?k6q10 ?_; (case k1q10 => k_asm); (case k2q10 => k_asm); (case k3q10 => k_updF); (case k4q10 => with_reducible assumption); (case k5q10 => with_reducible assumption); (case k6q10 => first | with_reducible assumption | omega); k_whole); intro us' h' hi' hl' F' N'; (try dsimp only at N'); (try k_sweep))
  k_with "own get" => (k_here; (try dsimp only [List.cons_append, List.nil_append]); (with_reducible show wpAny _ _ (call (Value.builtin "dict.get") [Value.ref _, Value.int _ _, Value.int _ _]) _ _ _); k_dflt (refine kdf_get2 (by k_tabat) ?_); intro _)
  k_with "own off" => ((try simp only [LCg.Off3, OffL, and_true]); k_extra "own offs")
  k_with "own offs" => (first | k_extra "own cj" | (with_reducible refine' And.intro ?oaq13 ?obq13; (case oaq13 => k_extra "own offs"); (case obq13 => k_extra "own offs")) | k_extra "own ne")
  k_with "own ne" => (first | k_extra "own ne0" | omega)
  k_with "own ne0" => (first | k_extra "own cj" | (with_reducible refine Ne.symm ?_; k_extra "own cj") | (with_reducible refine Nat.ne_of_lt ?_; k_extra "own cj") | (with_reducible refine Nat.ne_of_gt ?_; k_extra "own cj"))
  k_with "own cj" => (with_reducible first | assumption | exact cjl0 (by assumption) | exact cjr0 (by assumption) | exact cjl1 (by assumption) | exact cjr1 (by assumption) | exact cjl2 (by assumption) | exact cjr2 (by assumption) | exact cjl3 (by assumption) | exact cjr3 (by assumption) | exact cjl4 (by assumption) | exact cjr4 (by assumption) | exact cjl5 (by assumption) | exact cjr5 (by assumption) | exact cjl6 (by assumption) | exact cjr6 (by assumption) | exact cjl7 (by assumption) | exact cjr7 (by assumption) | exact cjl8 (by assumption) | exact cjr8 (by assumption) | exact cjl9 (by assumption) | exact cjr9 (by assumption) | exact cjl10 (by assumption) | exact cjr10 (by assumption) | exact cjl11 (by assumption) | exact cjr11 (by assumption))
  k_with "own kne" => (refine neN ?_; (try dsimp only); k_extra "own ne0")
  k_with "own turn" => (unfold CTurn; intro I' oI' C' oC' D' m' ys' h' tk' E' hC' hx' F' N' off' ne'; (try (simp only [LCg.Off3, and_true] at off')); (try dsimp only); k_fold)
  k_with "own listcomp" => (k_here; k_dflt (refine ListComp_M (F₀ := by k_asm) (by with_unfolding_all rfl) (by decide) (by rfl) (by decide) (by rfl) ?_))
  k_with "own alistcomp" => (k_here; k_dflt (refine Assign_ListComp_M (F₀ := by k_asm) (by rfl) (by with_unfolding_all rfl) (by with_unfolding_all rfl) (by decide) (by rfl) (by decide) (by rfl) (by rfl) (by rfl) ?_))
  k_with "eval ListComp" => k_extra "own listcomp"
  k_with "CSrc" => (k_here; first | ((with_reducible show CSrc _ _ _ _ _ _ _ _ _ _ _ _ _ (Value.bytes _ _) _); k_dflt (refine' CSrc.bytes (fun c v => ∃ t, v = .int (kdfLook tabC c 65533) t) ?k1q22 rfl ?k2q22 ?k3q22 ?k4q22 ?_ ?_; (case k1q22 => with_reducible assumption); (case k2q22 => k_asm); (case k3q22 => k_asm); (case k4q22 => omega)); all_goals (first | (intro c9 u9 g9 hc9 hlo9 hhi9; k_extra "own turn") | (intro ys9 g9 hy9; have hy9 := Each.ints hy9))))
  k_with "CompEnd" => first | k_dflt (exact LCg.CompEnd.intro (by k_asm) (by k_asm) _ (by kcf_all) (by first | assumption | k_extra "own off") (by trivial) ⟨rfl, ⟨_, rfl⟩⟩)
  k_with "call builtin:dict.get" => k_extra "own get"
  k_with "call type:list" => (k_here; (with_reducible show wpAny _ _ (call (Value.type "list") [Value.bytes _ _]) _ _ _); k_dflt (refine' list_octets rfl ?k1q25 ?k2q25 ?k3q25 ?k4q25 ?_; (case k1q25 => k_asm); (case k2q25 => k_asm); (case k3q25 => with_reducible assumption); (case k4q25 => (rw [clip_tail, List.length_drop]; omega))); intro D9 vs9 c9 h9 tk9 F9 N9 l9 hi9; rw [clip_tail] at hi9; (try k_lt l9); (try k_sweep))
  k_with "exec While Compare cons nil" => (k_here; (with_unfolding_all refine' lr_while ?hdq26 ?Fq26 ?Nq26 ?nq26 ?iq26 ?xq26 ?bq26 ?rq26 ?zq26 ?neq26 ?_; (case Fq26 => k_asm); (case hdq26 => with_reducible assumption); (case iq26 => with_reducible assumption); (case Nq26 => k_asm); (case rq26 => rfl); (case zq26 => rfl); (case nq26 => k_allIn); (case xq26 => with_reducible assumption); (case bq26 => (rw [List.length_drop]; omega)); (case neq26 => omega)); intro la' vs' xs' k1' us' done' k2' held' th' q' h' tk' hS' hi' hu' hxl' hdl' hne' hhe' hox' F' N'; k_fold)
  k_with "WlPost" => dsimp only [WlPost]
  k_with "call builtin:len" => (k_here; (with_reducible show wpAny _ _ (call (Value.builtin "len") [Value.ref _]) _ _ _); k_dflt (refine' len_ints ?k1q28 ?k2q28 ?k3q28 ?k4q28 ?_; (case k1q28 => k_asm); (case k2q28 => k_mem); (case k3q28 => with_reducible assumption); (case k4q28 => omega); k_whole); intro _ _)
  k_with "subscriptTail Name Constant ref int" => (k_here; (with_reducible show wpAny _ _ (subscriptTail _ _ (Value.ref _) (Value.int _ _)) _ _ _); k_dflt (refine' item_octet ?k1q29 ?k2q29 ?k3q29 ?k8q29 ?k4q29 ?k5q29 ?k6q29 ?_ ?k7q29; (case k1q29 => k_asm); (case k2q29 => k_mem); (case k3q29 => with_reducible assumption); (case k8q29 => with_reducible assumption); (case k4q29 => omega); (case k5q29 => omega); (case k6q29 => omega); (case k7q29 => with_unfolding_all rfl); k_whole); intro _ v9 hv9 hvl9 hvh9)
  k_with "binaryOp LShift int int" => (k_here; with_reducible (first | refine shl_8 (by omega) (by omega) ?_ | refine shl_10 (by omega) (by omega) ?_); intro _ _)
  k_with "binaryOp BitOr int int" => (k_here; with_reducible (refine or_8 (by omega) (by omega) (by omega) ?_); intro _ _)
  k_with "binaryOp BitAnd int int" => (k_here; with_reducible (refine and_1023 ?_); intro _ _)
  k_with "call builtin:list.append" => k_extra "own append"
  k_with "WlEnd" => first | k_dflt (exact WlEnd.intro (by k_asm) ⟨_, _, _, _, _, _, _, _, _, rfl, rfl, lr_pair (by with_reducible assumption) (by with_reducible assumption) (by with_reducible assumption) (by with_reducible assumption) (by omega) (by omega) (by omega), by with_reducible assumption, by with_reducible assumption, by rfl, by rfl, (by k_extra "own same3"), by omega⟩ (by omega) (by k_asm) (by k_extra "own allin")) | k_dflt (exact WlEnd.intro (by k_asm) ⟨_, _, _, _, _, _, _, _, _, rfl, rfl, lr_hold (by with_reducible assumption) (by with_reducible assumption) (by with_reducible assumption) (by with_reducible assumption) (by omega) (by omega) (by omega), by with_reducible assumption, by with_reducible assumption, by rfl, by rfl, (by k_extra "own same3"), by omega⟩ (by omega) (by k_asm) (by k_extra "own allin")) | k_dflt (exact WlEnd.intro (by k_asm) ⟨_, _, _, _, _, _, _, _, _, rfl, rfl, lr_low (by with_reducible assumption) (by with_reducible assumption) (by with_reducible assumption) (by with_reducible assumption) (by omega) (by omega) (by omega), by with_reducible assumption, by with_reducible assumption, by rfl, by rfl, (by k_extra "own same3"), by omega⟩ (by omega) (by k_asm) (by k_extra "own allin")) | k_dflt (exact WlEnd.intro (by k_asm) ⟨_, _, _, _, _, _, _, _, _, rfl, rfl, lr_one (by with_reducible assumption) (by with_reducible assumption) (by with_reducible assumption) (by with_reducible assumption) (by omega) (by omega), by with_reducible assumption, by with_reducible assumption, by rfl, by rfl, (by k_extra "own same3"), by omega⟩ (by omega) (by k_asm) (by k_extra "own allin")) | k_dflt (exact WlEnd.intro (by k_asm) ⟨_, _, _, _, _, _, _, _, _, rfl, rfl, lr_lone_hold (by with_reducible assumption) (by with_reducible assumption) (by with_reducible assumption) (by with_reducible assumption) (by omega) (by omega) (by omega), by with_reducible assumption, by with_reducible assumption, by rfl, by rfl, (by k_extra "own same3"), by omega⟩ (by omega) (by k_asm) (by k_extra "own allin")) | k_dflt (exact WlEnd.intro (by k_asm) ⟨_, _, _, _, _, _, _, _, _, rfl, rfl, lr_lone_one (by with_reducible assumption) (by with_reducible assumption) (by with_reducible assumption) (by with_reducible assumption) (by omega) (by omega), by with_reducible assumption, by with_reducible assumption, by rfl, by rfl, (by k_extra "own same3"), by omega⟩ (by omega) (by k_asm) (by k_extra "own allin"))
  have hx1 : ∀ x ∈ ks, 0 ≤ x ∧ x < 256 := fun k hk => by subst hk'; exact KBw.ints_in hk
  have hx2 : ∀ x ∈ ks.drop 2, 0 ≤ x ∧ x < 256 := fun k hk => by subst hk'; exact KBw.ints_in (List.mem_of_mem_drop hk)
  w_on
  w_strict (refine' spec_ofC (binds := [(Str.ofString "octets", .bytes b tb), (Str.ofString "table", .ref d)]) (by k_is) (by k_is) (fun s => BindsTo.of_eq rfl) (by rfl) (by decide +kernel) rfl rfl rfl (by decide) ?_; intro dp un gd cn cs L a ccd cl outer base g L' h₁ cells gens drawn os tk Q E B hk F N Y l1 X T hd hu hret A9; k_cells Y; (try simp only [List.cons_append, List.nil_append] at N); (try dsimp only); (try k_fold); k_steps; all_goals ((try dsimp only); refine' hret _ _ _ _ _ ?ha (News.sub ?hb ?hs) (rd_post ?hc); (case ha => k_asm); (case hc => first | exact ints_as (by with_reducible assumption) (look_text (octs_mark_t (by with_reducible assumption) (by with_reducible assumption)) (by with_reducible assumption)) | exact ints_as (by with_reducible assumption) ((congrArg (fun z => _ ++ z) (flat_rep _ _)).trans (lr_done_a (octs_mark_f (by with_reducible assumption) (by with_reducible assumption)) (by with_reducible assumption) (by with_reducible assumption) (by with_reducible assumption))) | exact ints_as (by with_reducible assumption) ((congrArg (fun z => _ ++ z) (flat_rep _ _)).trans (lr_done_b (octs_mark_f (by with_reducible assumption) (by with_reducible assumption)) (by with_reducible assumption) (by with_reducible assumption) (by with_reducible assumption)))); (case hb => k_asm); (case hs => (with_unfolding_all k_allIn))))
end

--deps: P16_sort P11_comp
/-! ### a list comprehension over a dict, each item a fresh pair -/
noncomputable abbrev tup2 (a b : Value) : Obj := { cls := .type "tuple", data := .seq #[a, b] 0 }
inductive Tups : List (Int × Int) → List Value → List (Addr × Obj) → Prop
  | nil : Tups [] [] []
  | snoc {c : List (Int × Int)} {ys : List Value} {tl : List (Addr × Obj)} {a b : Int} {t u : Tok} {T : Addr} : Tups c ys tl → Tups (c ++ [(a, b)]) (ys ++ [.ref T]) ((T, tup2 (.int a t) (.int b u)) :: tl)
theorem Tups.len {c : List (Int × Int)} {ys : List Value} {tl : List (Addr × Obj)} (h : Tups c ys tl) : ys.length = c.length := by
  induction h with
  | nil => rfl
  | snoc _ ih => simp [ih]
theorem Tups.at {c : List (Int × Int)} {ys : List Value} {tl : List (Addr × Obj)} (h : Tups c ys tl) : ∀ (i : Nat) (y : Value), ys[i]? = some y → ∃ T a b t u, y = .ref T ∧ c[i]? = some (a, b) ∧ (T, tup2 (.int a t) (.int b u)) ∈ tl := by
  induction h with
  | nil => intro i y h; simp at h
  | @snoc c ys tl a b t u T h ih =>
    intro i y hy
    have hl := h.len
    rcases Nat.lt_trichotomy i ys.length with hi | hi | hi
    · rw [List.getElem?_append_left hi] at hy
      obtain ⟨T', a', b', t', u', e1, e2, e3⟩ := ih i y hy
      exact ⟨T', a', b', t', u', e1, by rw [List.getElem?_append_left (by omega)]; exact e2, List.mem_cons_of_mem _ e3⟩
    · subst hi
      simp at hy
      subst hy
      exact ⟨T, a, b, t, u, rfl, by rw [hl]; simp, List.mem_cons_self⟩
    · rw [List.getElem?_eq_none (by simp; omega)] at hy
      cases hy
section
variable {prog : Program} {w : World} {A : Around} {E : Value → Shared → Prop} {s : Shared} {h₀ : Heap} {L : Addr} {m : Str → Option Value} {env : Env} {elt : PySem.Expr} {x : Str} {scope : Scope} {cl : List (Str × Addr)} {S : List (Addr × Obj) → Prop} {P : Nat → Value → Prop} {rest : List (Addr × Obj)}
noncomputable def TEl (rest tl : List (Addr × Obj)) (a b : Int) (y : Value) (news' : List (Addr × Obj)) : Prop := ∃ T t u, y = .ref T ∧ news' = rest ++ (T, tup2 (.int a t) (.int b u)) :: tl
noncomputable def TTurn (prog : Program) (w : World) (A : Around) (h₀ : Heap) (L : Addr) (m : Str → Option Value) (env : Env) (elt : PySem.Expr) (x : Str) (scope : Scope) (cl : List (Str × Addr)) (s : Shared) (S : List (Addr × Obj) → Prop) (rest : List (Addr × Obj)) (v : Value) (a b : Int) : Prop :=
  ∀ I oI C oC D m₂ ys tl h tk (E' : Value → Shared → Prop), LCg.NsObj oC m₂ → m₂ x = some v → Fr h₀ L h m → News h₀ L h ((I, oI) :: (C, oC) :: (D, LCg.lst ys) :: (rest ++ tl)) → LCg.Off3 I C D (rest ++ tl) → LCg.Off3 I C D (rest ++ tl) → ((@Ne Nat I C) ∧ (@Ne Nat I D) ∧ (@Ne Nat C D)) → S (rest ++ tl) →
    wpAny (model prog w) A (eval elt (compEnvC scope cl C env)) (LCg.CompEnd h₀ L m { s with heap := h, toks := tk } I oI C oC D (LCg.lst ys) S (fun y news' => TEl rest tl a b y news')) E' { s with heap := h, toks := tk }
theorem cr_tups {as : List Int} {n : Nat} {f g : Int → Int} {Fin : List Value → List (Addr × Obj) → Prop} (hn : as.length = n) (hP : ∀ i v, i < n → P i v → ∃ a, as[i]? = some a ∧ TTurn prog w A h₀ L m env elt x scope cl s S rest v (f a) (g a)) (hS : S rest) (hS' : ∀ tl, S (rest ++ tl))
    (fin : ∀ ys tl, Tups (as.map fun a => (f a, g a)) ys tl → Fin ys (rest ++ tl)) : LCg.CompRest prog w A h₀ L m env elt x scope cl s S P Fin n 0 [] rest := by
  have key : ∀ (j i : Nat) (ys : List Value) (tl : List (Addr × Obj)), i + j = n → Tups ((as.take i).map fun a => (f a, g a)) ys tl → LCg.CompRest prog w A h₀ L m env elt x scope cl s S P Fin j i ys (rest ++ tl) := by
    intro j
    induction j with
    | zero =>
      intro i ys tl hi hy
      have e : i = as.length := by omega
      subst e
      rw [List.take_length] at hy
      exact LCg.CompRest.zero (fin ys tl hy)
    | succ j ih =>
      intro i ys tl hi hy
      refine LCg.CompRest.succ ?_
      intro v I oI C oC D m₂ h tk E' hv hC hx F N off ne
      obtain ⟨a, ha, T⟩ := hP i v (by omega) hv
      refine wpAny_mono (T I oI C oC D m₂ ys tl h tk E' hC hx F N off off ne (hS' tl)) (fun y s₂ hq => ?_) fun _ _ e => e
      obtain ⟨h', tk', nw, e, F', N', off', hS2, T', t, u, rfl, rfl⟩ := hq
      refine ⟨h', tk', _, e, F', N', off', hS2, ?_⟩
      refine ih (i + 1) _ _ (by omega) ?_
      rw [List.take_add_one, ha, Option.toList_some, List.map_append]
      exact .snoc hy
  have := key n 0 [] [] (by omega) (by simp only [List.take_zero]; exact .nil)
  rwa [List.append_nil] at this
theorem CSrc.dictTups {d : Addr} {o : Obj} {kvs : List (Int × Value)} {c : List (Int × Int)} {s₁ : Shared} {f g : Int → Int} {Fin : Shared → List Value → List (Addr × Obj) → Prop} (hh : A.handled = none) (F : Fr h₀ L s₁.heap m) (N : News h₀ L s₁.heap rest) (hm : (d, o) ∈ rest)
    (hlo : (d == sysModules) = false) (hd : o.IsDictOf (PySem.intKind prog w) kvs) (hf : PyProof.V.FlatPairs PyData.int kvs (kdfD c)) (hsz : c.length ≤ 1000)
    (turn : ∀ (k : Int) u g', k ∈ c.map Prod.fst → TTurn prog w A h₀ L m env elt x scope cl { s₁ with heap := g' } (fun nw => (d, o) ∈ nw) rest (.int k u) (f k) (g k))
    (fin : ∀ ys tl g', Tups ((c.map Prod.fst).map fun a => (f a, g a)) ys tl → Fin { s₁ with heap := g' } ys (rest ++ tl)) : CSrc prog w A h₀ L m env elt x scope cl Fin E (.ref d) s₁ := by
  unfold CSrc
  have hol : s₁.heap.get? d = some o := (N _ hm).1
  obtain ⟨ep, hat⟩ := (kda_dict N hm hd).dictAt
  have hlt : d < s₁.heap.objs.size := Heap.lt_size hol
  have hlen : kvs.length = c.length := by have := hf.length; rw [kdfD_length] at this; exact this.symm
  refine wpAny_pyIter_dict hlo hat ⟨s₁.heap.objs.size, _, kvs.length, _, _, (fun nw => (d, o) ∈ nw), rest, rfl, Walks.dictKeys hh _ d (Nat.ne_of_lt hlt) kvs ep, by rw [sizeLine_eq, hlen]; omega, ?_, ?_, ⟨⟨_, Heap.get?_push_size _ rfl, rfl, rfl⟩, hat.push _⟩, ?_, F.push _, (fun p hp => ⟨Heap.get?_push_of_some _ (N p hp).1, (N p hp).2⟩), Nat.ne_of_lt F.ns.lt, next_is_new F, (fun p hp => Nat.ne_of_lt (Heap.lt_size (N p hp).1)), hm, ?_⟩
  · rintro i h ⟨⟨o, ho, _⟩, _⟩; exact ⟨o, ho⟩
  · rintro i h h' o' nw ⟨⟨o'', ho', r⟩, hl⟩ e e' _ N' S'
    rw [e] at ho'; cases ho'
    refine ⟨⟨o', e', r⟩, hat.at' fun o3 e3 => ?_⟩
    rw [hol] at e3; cases e3
    exact (N' _ S').1
  · intro b hb
    show b < (s₁.heap.push _).objs.size
    rw [Heap.size_push]
    rcases List.mem_cons.mp hb with rfl | hb
    · exact Nat.lt_succ_self _
    · rw [List.mem_singleton.mp hb]; exact Nat.lt_succ_of_lt hlt
  · refine cr_tups (as := c.map Prod.fst) (f := f) (g := g) (by rw [List.length_map]; exact hlen.symm) ?_ hm (fun tl => List.mem_append_left _ hm) fun ys tl h => fin ys tl _ h
    rintro i v _ ⟨k, y, hx, hk⟩
    obtain ⟨tk, rfl⟩ := PyProof.V.Flat.int_inv (kdl_flat_int hk)
    obtain ⟨dv, hd1, _⟩ := hf.at hx
    have hc : (c.map Prod.fst)[i]? = some k := by
      unfold kdfD at hd1
      rw [List.getElem?_map] at hd1 ⊢
      cases hci : c[i]? with
      | none => rw [hci] at hd1; cases hd1
      | some q =>
        rw [hci] at hd1
        simp only [Option.map_some, Option.some.injEq, Prod.mk.injEq, PyData.int.injEq] at hd1
        simp only [Option.map_some, hd1.1]
    exact ⟨k, hc, turn k tk _ (List.mem_of_getElem? hc)⟩
end

--deps: P21_dictcomp Dev
/-! ### dict(list of pairs of ints) -/
theorem list_no_keys : typeLookup (.type "list") "keys" = pure none := am_miss_of_fast (by kernel_rfl)
theorem plain_update_loop : plainId "dict.update.loop" = true := by decide +kernel
theorem entry_update_loop : entryFor table "dict.update.loop" = some Builtin.«dict.update.loop» := entryFor_of_fast (by kernel_rfl)
section
variable {prog : Program} {w : World} {A : Around} {E : Value → Shared → Prop} {s : Shared}
theorem keys_list {a : Addr} {o : Obj} {xs : Array Value} {k : Nat} {Q : Option Value → Shared → Prop} (hx : s.heap.get? a = some o) (hc : o.cls = .type "list") (hdat : o.data = .seq xs k) (hd : o.dict = none) (hA : A.handled = none)
    (h : ∀ h' tk, (∀ b o, s.heap.get? b = some o → h'.get? b = some o) → Q none { s with heap := h', toks := tk }) : wpAny (model prog w) A (getAttr? (.ref a) "keys") Q E s := by
  obtain ⟨c, dct, dat, sl⟩ := o
  simp only at hc hdat hd
  subst hc hdat hd
  obtain ⟨hp, g, d, tk, os⟩ := s
  have hT : ∀ tk', (⟨hp, g, d, tk', os⟩ : Shared).TypeIs (.ref a) "list" := fun _ => ⟨_, hx, rfl⟩
  have f1 := sub_AttributeError
  have f3 := F.slot_list_getattribute.lookup
  have f4 := F.slot_list_getattribute.bind (.ref a)
  have f5 := am_list_getattr_none
  unfold getAttr? getAttrBy? getAttrBy
  repeat (any_goals (first | assumption | exact hT _ | ((with_reducible show wpAny _ _ (call (Value.builtin "list.__getattribute__") _ _) _ _ _); refine call_meets F.slot_list_getattribute (hT _) am_entry_list_getattribute (F.args_list_getattribute_2 _ _) (meets_getattribute_miss_list a xs k sl "keys" _ list_no_keys (by decide +kernel) (by decide +kernel)) ⟨hx, hA, fun h' tk' e hx' => ?_⟩) | wp_step))
  obtain ⟨t', u', he⟩ := hx'.there
  show wpAny _ _ (getattributeRaised _ _ _ _ _ _ _) _ _ _
  unfold getattributeRaised
  repeat (any_goals (first | assumption | wp_step))
  exact h _ _ hx'.keeps
theorem update_loop {R : Result → Shared → Prop} {S I l : Addr} {items : Array Value} {c : List (Int × Int)} {h₁ : Heap} (hh : A.handled = none) (hSl : S ≠ l) (hIl : l ≠ I) (hSI : S ≠ I)
    (hit : ∀ (i : Nat) v, items[i]? = some v → ∃ T a b t u, v = .ref T ∧ c[i]? = some (a, b) ∧ h₁.get? T = some (tup2 (.int a t) (.int b u)) ∧ T ≠ S ∧ T ≠ I)
    (hlen : items.size = c.length) (hsz : c.length ≤ 1000) :
    ∀ (k i : Nat) (s : Shared) (kvs : List (Int × Value)) (tk0 : Tok), c.length - i = k → i ≤ c.length → s.heap.IsListIter I l i → s.heap.IsList l items → (∀ b ob, b ≠ S → b ≠ I → h₁.get? b = some ob → s.heap.get? b = some ob) →
      s.heap.DictOf (intKind prog w) S kvs → PyProof.V.FlatPairs PyData.int kvs (kdfD ((c.take i).foldl (fun d p => kdfPut d p.1 p.2) [])) →
      (∀ h' tk kvs', (∀ b ob, b ≠ S → b ≠ I → h₁.get? b = some ob → h'.get? b = some ob) → h'.DictOf (intKind prog w) S kvs' → PyProof.V.FlatPairs PyData.int kvs' (kdfD (c.foldl (fun d p => kdfPut d p.1 p.2) [])) → R (.ok (.ret .none)) { s with heap := h', toks := tk }) →
      codeAny (model prog w) A (.builtin "dict.update.loop" ⟨[.ref S, .ref I, .int (i : Int) tk0, .none], []⟩) R s := by
  have W := Walks.list (prog := prog) (w := w) (A := A.in1) hh I l hIl items
  intro k
  induction k with
  | zero =>
    intro i s kvs tk0 hk hi hst hl hkeep hD hf hR
    have hin : i = c.length := by omega
    subst hin
    refine codeAny_builtin entry_update_loop ?_
    rw [Around.under_plainId plain_update_loop _]
    show wpAny _ A.in1 (pyNext (.ref I) >>= _) _ _ s
    refine wpAny_bind (W.done s _ _ ⟨hlen ▸ hst, hl⟩ fun h' tk hm => ?_)
    show wpAny _ A.in1 (Builtin.Dict.addKeywords S [] >>= fun _ => ret Value.none) _ _ _
    refine wpAny_bind (wpAny_pure (wpAny_pure (hR h' tk kvs (fun b ob h1 h2 e => hm b ob (fun q => h2 (List.mem_singleton.mp q)) (hkeep b ob h1 h2 e)) ?_ (by rw [List.take_length] at hf; exact hf))))
    obtain ⟨o, ho, hd⟩ := Heap.dictOf_iff.mp hD
    exact Heap.dictOf_iff.mpr ⟨o, hm _ _ (fun q => hSI (List.mem_singleton.mp q)) ho, hd⟩
  | succ k ih =>
    intro i s kvs tk0 hk hi hst hl hkeep hD hf hR
    have hlt : i < c.length := by omega
    refine codeAny_builtin entry_update_loop ?_
    rw [Around.under_plainId plain_update_loop _]
    show wpAny _ A.in1 (pyNext (.ref I) >>= _) _ _ s
    refine wpAny_bind (W.item i s _ _ (by omega) ⟨hst, hl⟩ fun v h' tk hP hst' hm => ?_)
    obtain ⟨T, a, b, t, u, rfl, hc, hT, hTS, hTI⟩ := hit i v hP
    have hk' : ∀ b ob, b ≠ S → b ≠ I → h₁.get? b = some ob → h'.get? b = some ob := fun b ob h1 h2 e => hm b ob (fun q => h2 (List.mem_singleton.mp q)) (hkeep b ob h1 h2 e)
    have hT' : h'.get? T = some (tup2 (.int a t) (.int b u)) := hk' T _ hTS hTI hT
    have hD' : h'.DictOf (intKind prog w) S kvs := by
      obtain ⟨o, ho, hd⟩ := Heap.dictOf_iff.mp hD
      exact Heap.dictOf_iff.mpr ⟨o, hm _ _ (fun q => hSI (List.mem_singleton.mp q)) ho, hd⟩
    have hlen' : kvs.length ≤ 1000 := by
      have h1 := hf.length
      rw [kdfD_length] at h1
      have h2 : ∀ (l : List (Int × Int)) (d : List (Int × Int)), (l.foldl (fun d p => kdfPut d p.1 p.2) d).length ≤ d.length + l.length := by
        intro l
        induction l with
        | nil => intro d; exact Nat.le_refl _
        | cons a r ih =>
          intro d
          have q1 := ih (kdfPut d a.1 a.2)
          have q2 := kdfPut_len d a.1 a.2
          simp only [List.foldl_cons, List.length_cons]
          omega
      have h3 := h2 (c.take i) []
      rw [List.length_take] at h3
      simp only [List.length_nil] at h3
      omega
    refine wpAny_bind (wpAny_holding ?_)
    refine wpAny_bind (wpAny_tryCatch ?_)
    unfold Builtin.Dict.pairItems
    refine wpAny_bind (wpAny_typeOf (T := "tuple") ⟨_, hT', rfl⟩ ?_)
    rw [if_pos (by decide)]
    refine wpAny_bind (wpAny_seqItems hT' rfl (wpAny_pure ?_))
    show wpAny _ _ (holding [Value.int a t, Value.int b u] (dictSet S (.int a t) (.int b u))) _ _ _
    refine wpAny_holding ?_
    refine wpAny_dictSet_pairs (hsz := by rw [sizeLine_eq]; omega) (knd := intKind prog w) (k := a) (intKind_is _ _ _ _) hD' fun h'' hD'' hs => ?_
    refine wpAny_pure ⟨plainId_quiet plain_update_loop _, ?_⟩
    have hf' := hf.stored PyProof.V.same_int a (PyProof.V.Flat.int b u)
    rw [kdfD_put] at hf'
    have e2 : (c.take (i + 1)).foldl (fun d p => kdfPut d p.1 p.2) [] = kdfPut ((c.take i).foldl (fun d p => kdfPut d p.1 p.2) []) a b := by
      rw [List.take_add_one, hc, Option.toList_some, List.foldl_append]
      rfl
    have hoS : ∀ b ob, b ≠ S → h'.get? b = some ob → h''.get? b = some ob := fun b ob hb e => hs.extBut b ob hb e
    refine ih (i + 1) _ _ _ (by omega) hlt (hst'.1.at fun o e => hoS _ _ (Ne.symm hSI) e) (hst'.2.at fun o e => hoS _ _ (Ne.symm hSl) e) (fun b ob h1 h2 e => hoS b ob h1 (hk' b ob h1 h2 e)) hD'' (by rw [e2]; exact hf') hR
end
section
variable {prog : Program} {w : World} {A : Around} {E : Value → Shared → Prop} {s : Shared}
theorem dict_tups {h₀ : Heap} {L l : Addr} {m : Str → Option Value} {news rest tl : List (Addr × Obj)} {ys : List Value} {kl : Nat} {c : List (Int × Int)} {Q : Value → Shared → Prop} (hh : A.handled = none) (F : Fr h₀ L s.heap m) (N : News h₀ L s.heap news) (hbig : h₀.NoLimit)
    (hl : (l, listOf ys.toArray kl) ∈ news) (ht : ∀ p ∈ tl, p ∈ news) (hr : ∀ p ∈ rest, p ∈ news) (T : Tups c ys tl) (hsz : c.length ≤ 1000)
    (h : ∀ D o kvs h' tk, Fr h₀ L h' m → News h₀ L h' ((D, o) :: rest) → (∀ p ∈ rest, p.1 < D) → (D == sysModules) = false → o.IsDictOf (intKind prog w) kvs → PyProof.V.FlatPairs PyData.int kvs (kdfD (c.foldl (fun d p => kdfPut d p.1 p.2) [])) → Q (.ref D) { s with heap := h', toks := tk }) :
    wpAny (model prog w) A (call (.type "dict") [.ref l]) Q E s := by
  refine callType_codes (Q₁ := fun obj s₁ => obj = .ref s.heap.objs.size ∧ s₁ = { s with heap := s.heap.push { cls := .type "dict", data := .dict #[] } }) PySem.F.kt_called_dict (PySem.F.kt_typeCall_dict_1 _) PySem.F.entry_dict_init (kt_code_dict_new _ ⟨rfl, rfl⟩) ?_
  rintro obj s₁ ⟨rfl, rfl⟩
  have hnew : (s.heap.push { cls := .type "dict", data := .dict #[] }).DictOf (intKind prog w) s.heap.objs.size [] := Heap.DictOf.new s.heap
  have hol : s.heap.get? l = some (listOf ys.toArray kl) := (N _ hl).1
  have hlS : l < s.heap.objs.size := Heap.lt_size hol
  refine ⟨hnew.typeIs, PySem.F.args_dict_init_2 _ _, ?_⟩
  unfold Builtin.«dict.__init__»
  refine wpAny_bind ?_
  unfold Builtin.Dict.selfAndRest
  refine wpAny_bind (wpAny_notOrdered_dict hnew.typeIs ?_)
  show wpAny _ _ (pure (s.heap.objs.size, [Value.ref l])) _ _ _
  refine wpAny_pure ?_
  show wpAny _ _ (Builtin.Dict.updateFrom "dict.__init__" s.heap.objs.size (.ref l) [] .none) _ _ _
  unfold Builtin.Dict.updateFrom
  refine wpAny_bind (wpAny_typeOf (T := "list") ⟨_, Heap.get?_push_of_some _ hol, rfl⟩ ?_)
  rw [if_pos (by decide)]
  refine wpAny_bind (keys_list (A := A.in1.in1) (Heap.get?_push_of_some _ hol) rfl rfl rfl hh fun h1 tk1 hk1 => ?_)
  have hk1' : ∀ b ob, s.heap.get? b = some ob → h1.get? b = some ob := fun b ob e => hk1 b ob (Heap.get?_push_of_some _ e)
  rw [if_pos (show Option.isNone (none : Option Value) = true from rfl)]
  refine wpAny_bind (wpAny_rule ?_)
  have hl1 : h1.IsList l ys.toArray := ⟨_, hk1' _ _ hol, rfl, kl, rfl⟩
  obtain ⟨oS, hoS, hdS⟩ := Heap.dictOf_iff.mp hnew
  have hSI : s.heap.objs.size < h1.objs.size := Heap.lt_size (hk1 _ _ hoS)
  have hlI : l ≠ h1.objs.size := Nat.ne_of_lt (Heap.lt_size (hk1' _ _ hol))
  refine wpAny_bind (wpAny_pyIter_list hl1 ?_)
  refine wpAny_pure ⟨plainId_quiet plain_update_loop _, ?_⟩
  refine update_loop (h₁ := h1) (A := A.in1) (c := c) (items := ys.toArray) hh (Nat.ne_of_gt hlS) hlI (Nat.ne_of_lt hSI) ?_ (by rw [List.size_toArray]; exact T.len) hsz c.length 0 _ [] 0 (by omega) (Nat.zero_le _) ⟨_, Heap.get?_push_size _ rfl, rfl, rfl⟩ (hl1.at fun o e => Heap.get?_push_of_some _ e) (fun b ob _ _ e => Heap.get?_push_of_some _ e) (Heap.dictOf_iff.mpr ⟨oS, Heap.get?_push_of_some _ (hk1 _ _ hoS), hdS⟩) .nil ?_
  · intro i v hv
    obtain ⟨T', a, b, t, u, e1, e2, e3⟩ := T.at i v (by rw [← hv, List.getElem?_toArray])
    have e4 := (N _ (ht _ e3)).1
    exact ⟨T', a, b, t, u, e1, e2, hk1' _ _ e4, Nat.ne_of_lt (Heap.lt_size e4), Nat.ne_of_lt (Heap.lt_size (hk1' _ _ e4))⟩
  · intro h' tk kvs' hkeep hD hf
    obtain ⟨o', ho', hd'⟩ := Heap.dictOf_iff.mp hD
    have hk : ∀ b ob, s.heap.get? b = some ob → h'.get? b = some ob := fun b ob e => hkeep b ob (Nat.ne_of_lt (Heap.lt_size e)) (Nat.ne_of_lt (Heap.lt_size (hk1' _ _ e))) (hk1' _ _ e)
    have N' := news_pushed F N hk ho' rfl
    exact ⟨rfl, h _ o' kvs' h' tk (F.keeps hk) (fun p hp => by
      rcases List.mem_cons.mp hp with e | hp
      · exact N' p (e ▸ List.Mem.head _)
      · exact N' p (List.mem_cons_of_mem _ (hr p hp))) (fun p hp => Heap.lt_size (N p (hr p hp)).1) (F.notModules (modules_low hbig)) hd' hf⟩
end
section
variable {prog : Program} {w : World} {A : Around} {E : Value → Shared → Prop} {s : Shared}
theorem dict_tups1 {h₀ : Heap} {L l : Addr} {m : Str → Option Value} {rest tl : List (Addr × Obj)} {ys : List Value} {c : List (Int × Int)} {Q : Value → Shared → Prop} (o1 : LCg.Off1 l (rest ++ tl)) (T : Tups c ys tl) (hh : A.handled = none) (F : Fr h₀ L s.heap m) (N : News h₀ L s.heap ((l, LCg.lst ys) :: (rest ++ tl))) (hbig : h₀.NoLimit) (hsz : c.length ≤ 1000)
    (h : ∀ D o kvs h' tk, Fr h₀ L h' m → News h₀ L h' ((D, o) :: rest) → (∀ p ∈ rest, p.1 < D) → (D == sysModules) = false → o.IsDictOf (intKind prog w) kvs → PyProof.V.FlatPairs PyData.int kvs (kdfD (c.foldl (fun d p => kdfPut d p.1 p.2) [])) → Q (.ref D) { s with heap := h', toks := tk }) :
    wpAny (model prog w) A (call (.type "dict") [.ref l]) Q E s :=
  dict_tups hh F N hbig (List.Mem.head _) (fun p hp => List.mem_cons_of_mem _ (List.mem_append_right _ hp)) (fun p hp => List.mem_cons_of_mem _ (List.mem_append_left _ hp)) T hsz h
end
noncomputable def wrC : List (Int × Int) := ((tabC.map Prod.fst).map fun a => (kdfLook tabC a 0, a)).foldl (fun d p => kdfPut d p.1 p.2) []
noncomputable def wrL : List (Int × Int) := [(32, 32), (33, 33), (34, 34), (35, 35), (36, 36), (37, 37), (38, 38), (39, 39), (40, 40), (41, 41), (42, 42), (43, 43), (44, 44), (45, 45), (46, 46), (47, 47), (48, 48), (49, 49), (50, 50), (51, 51), (52, 52), (53, 53), (54, 54), (55, 55), (56, 56), (57, 57), (58, 58), (59, 59), (60, 60), (61, 61), (62, 62), (63, 63), (64, 64), (65, 65), (66, 66), (67, 67), (68, 68), (69, 69), (70, 70), (71, 71), (72, 72), (73, 73), (74, 74), (75, 75), (76, 76), (77, 77), (78, 78), (79, 79), (80, 80), (81, 81), (82, 82), (83, 83), (84, 84), (85, 85), (86, 86), (87, 87), (88, 88), (89, 89), (90, 90), (91, 91), (92, 92), (93, 93), (94, 94), (95, 95), (96, 96), (97, 97), (98, 98), (99, 99), (100, 100), (101, 101), (102, 102), (103, 103), (104, 104), (105, 105), (106, 106), (107, 107), (108, 108), (109, 109), (110, 110), (111, 111), (112, 112), (113, 113), (114, 114), (115, 115), (116, 116), (117, 117), (118, 118), (119, 119), (120, 120), (121, 121), (122, 122), (123, 123), (124, 124), (125, 125), (126, 126), (161, 161), (162, 162), (163, 163), (164, 164), (165, 165), (166, 166), (167, 167), (168, 168), (169, 169), (170, 170), (171, 171), (172, 172), (174, 174), (175, 175), (176, 176), (177, 177), (178, 178), (179, 179), (180, 180), (181, 181), (182, 182), (183, 183), (184, 184), (185, 185), (186, 186), (187, 187), (188, 188), (189, 189), (190, 190), (191, 191), (192, 192), (193, 193), (194, 194), (195, 195), (196, 196), (197, 197), (198, 198), (199, 199), (200, 200), (201, 201), (202, 202), (203, 203), (204, 204), (205, 205), (206, 206), (207, 207), (208, 208), (209, 209), (210, 210), (211, 211), (212, 212), (213, 213), (214, 214), (215, 215), (216, 216), (217, 217), (218, 218), (219, 219), (220, 220), (221, 221), (222, 222), (223, 223), (224, 224), (225, 225), (226, 226), (227, 227), (228, 228), (229, 229), (230, 230), (231, 231), (232, 232), (233, 233), (234, 234), (235, 235), (236, 236), (237, 237), (238, 238), (239, 239), (240, 240), (241, 241), (242, 242), (243, 243), (244, 244), (245, 245), (246, 246), (247, 247), (248, 248), (249, 249), (250, 250), (251, 251), (252, 252), (253, 253), (254, 254), (255, 255), (9, 9), (10, 10), (13, 13), (8226, 128), (8224, 129), (8225, 130), (8230, 131), (8212, 132), (8211, 133), (402, 134), (8260, 135), (8249, 136), (8250, 137), (8722, 138), (8240, 139), (8222, 140), (8220, 141), (8221, 142), (8216, 143), (8217, 144), (8218, 145), (8482, 146), (64257, 147), (64258, 148), (321, 149), (338, 150), (352, 151), (376, 152), (381, 153), (305, 154), (322, 155), (339, 156), (353, 157), (382, 158), (728, 24), (711, 25), (710, 26), (729, 27), (733, 28), (731, 29), (730, 30), (732, 31), (8364, 160)]
theorem wrC_lit : wrC = wrL := by decide +kernel
theorem wr_len : ((tabC.map Prod.fst).map fun a => (kdfLook tabC a 0, a)).length ≤ 1000 := by decide +kernel

--deps: P19_rdlaw P17_sign P15_octets P22_dictof Dev
/-- a loop over a list of ints of the ledger whose turn puts a new, longer list in the place of the one that `fnd` names -/
theorem floop {prog : Program} {w : World} {A : Around} {E : Value → Shared → Prop} {s : Shared} {env : Env} {h₀ : Heap} {x : Str} {body : List Stmt} {Q : Flow → Shared → Prop} {l D₀ : Addr} {vs us₀ : List Value} {ns base : List Int} {nn k₀ : Nat} {m₀ : Str → Option Value} {led rest : List (Addr × Obj)} (B : Nat) (fnd t1 t2 : Str) (f : Int → List Int)
    (F : Fr h₀ env.locals s.heap m₀) (N : News h₀ env.locals s.heap led) (P : Pick (D₀, listOf us₀.toArray k₀) led rest) (hl : (l, listOf vs.toArray nn) ∈ rest) (hi : IntsAre vs ns) (hb : IntsAre us₀ base) (hfx : fnd ≠ x) (hfnd : m₀ fnd = some (.ref D₀)) (hap : OffL D₀ rest)
    (hlen : ∀ i, (base ++ (ns.take i).flatMap f).length ≤ B) (hh : A.handled = none)
    (turn : ∀ n t D us xs k (q : Str → Option Value) I oI h tk, n ∈ ns → IntsAre us xs → xs.length ≤ B → OffL D rest → OffL I ((D, listOf us.toArray k) :: rest) →
      Fr h₀ env.locals h (fun z => if z = x then some (.int n t) else if z = fnd then some (.ref D) else if z = t1 then q z else if z = t2 then q z else m₀ z) → News h₀ env.locals h ((I, oI) :: (D, listOf us.toArray k) :: rest) →
      wpAny (model prog w) A (execs body env) (LpPost h₀ env.locals I oI [(l, listOf vs.toArray nn)] (fun m' nx => (∃ D' us' k', nx = (D', listOf us'.toArray k') :: rest ∧ IntsAre us' (xs ++ f n) ∧ m' fnd = some (.ref D') ∧ OffL D' rest) ∧ ∀ z, z ≠ x → z ≠ fnd → z ≠ t1 → z ≠ t2 → m' z = m₀ z) { s with heap := h, toks := tk } Q) E { s with heap := h, toks := tk })
    (done : ∀ (q : Str → Option Value) D us k h tk, IntsAre us (base ++ ns.flatMap f) → (base ++ ns.flatMap f).length ≤ B → OffL D rest →
      Fr h₀ env.locals h (fun z => if z = fnd then some (.ref D) else if z = x then q z else if z = t1 then q z else if z = t2 then q z else m₀ z) → News h₀ env.locals h ((D, listOf us.toArray k) :: rest) → Q .next { s with heap := h, toks := tk }) :
    wpAny (model prog w) A (pyIter (.ref l)) (fun it s₂ => LoopAtV prog w A h₀ env x body Q E it s₂) E s := by
  have N1 : News h₀ env.locals s.heap ((D₀, listOf us₀.toArray k₀) :: rest) := fun p hp => by
    rcases List.mem_cons.mp hp with e | hp
    · exact e ▸ N _ P.mem.1
    · exact N _ (P.mem.2 _ hp)
  refine lp_list (fun i m' nx => (∃ D us k, nx = (D, listOf us.toArray k) :: rest ∧ IntsAre us (base ++ (ns.take i).flatMap f) ∧ m' fnd = some (.ref D) ∧ OffL D rest) ∧ ∀ z, z ≠ x → z ≠ fnd → z ≠ t1 → z ≠ t2 → m' z = m₀ z) (List.mem_cons_of_mem _ hl) hi hh F N1 ⟨⟨D₀, us₀, k₀, rfl, by simpa using hb, hfnd, hap⟩, fun _ _ _ _ _ => rfl⟩ ?_ ?_
  · rintro i n t I oI m₁ nx h tk hn ⟨⟨D, us, k, rfl, hus, hD, hO⟩, hm₁⟩ hoff _ F₁ N₁
    have e1 : (fun z => if z = x then some (Value.int n t) else m₁ z) = fun z => if z = x then some (Value.int n t) else if z = fnd then some (.ref D) else if z = t1 then m₁ z else if z = t2 then m₁ z else m₀ z := by
      funext z
      by_cases h1 : z = x
      · simp only [if_pos h1]
      · simp only [if_neg h1]
        by_cases h2 : z = fnd
        · simp only [if_pos h2]; rw [h2]; exact hD
        · simp only [if_neg h2]
          by_cases h3 : z = t1
          · simp only [if_pos h3]
          · simp only [if_neg h3]
            by_cases h4 : z = t2
            · simp only [if_pos h4]
            · simp only [if_neg h4]; exact hm₁ z h1 h2 h3 h4
    rw [e1] at F₁
    have e2 : base ++ (ns.take (i + 1)).flatMap f = (base ++ (ns.take i).flatMap f) ++ f n := by
      rw [List.take_add_one, hn, Option.toList_some, List.flatMap_append, List.append_assoc]; simp
    rw [e2]
    exact turn n t D us _ k m₁ I oI h tk (List.mem_of_getElem? hn) hus (hlen i) hO (OffL.of fun q hq e => hoff q hq e.symm) F₁ N₁
  · rintro m₁ nx h tk ⟨⟨D, us, k, rfl, hus, hD, hO⟩, hm₁⟩ F₁ N₁
    rw [List.take_length] at hus
    refine done m₁ D us k h tk hus (by have := hlen ns.length; rwa [List.take_length] at this) hO ?_ N₁
    have e1 : (fun z => if z = fnd then some (.ref D) else if z = x then m₁ z else if z = t1 then m₁ z else if z = t2 then m₁ z else m₀ z) = m₁ := by
      funext z
      by_cases h2 : z = fnd
      · simp only [if_pos h2]; rw [h2]; exact hD.symm
      · simp only [if_neg h2]
        by_cases h1 : z = x
        · simp only [if_pos h1]
        · simp only [if_neg h1]
          by_cases h3 : z = t1
          · simp only [if_pos h3]
          · simp only [if_neg h3]
            by_cases h4 : z = t2
            · simp only [if_pos h4]
            · simp only [if_neg h4]; exact (hm₁ z h1 h2 h3 h4).symm
    rw [e1]; exact F₁
theorem off3_put {I C D T : Addr} {o : Obj} {tl : List (Addr × Obj)} (h1 : @Ne Nat T I) (h2 : @Ne Nat T C) (h3 : @Ne Nat T D) : ∀ {rest : List (Addr × Obj)}, LCg.Off3 I C D (rest ++ tl) → LCg.Off3 I C D (rest ++ (T, o) :: tl)
  | [], h => ⟨⟨h1, h2, h3⟩, h⟩
  | _ :: _, h => ⟨h.1, off3_put h1 h2 h3 h.2⟩
/-! ### plain law of the writing -/
theorem wrL_on : ∀ p ∈ plL, kdfLook wrL p.1 (-1) = p.2 ∧ kdfLook plL p.1 0 = p.2 := by decide +kernel
theorem wrL_off : ∀ p ∈ wrL, kdfHas plL p.1 = true := by decide +kernel
theorem wr_on : ∀ p ∈ plC, kdfLook wrC p.1 (-1) = p.2 ∧ kdfLook plC p.1 0 = p.2 := by rw [plC_lit, wrC_lit]; exact wrL_on
theorem wr_off : ∀ p ∈ wrC, kdfHas plC p.1 = true := by rw [plC_lit, wrC_lit]; exact wrL_off
section
variable {P W : List (Int × Int)}
theorem pg_has (on : ∀ p ∈ P, kdfLook W p.1 (-1) = p.2 ∧ kdfLook P p.1 0 = p.2) {c : Int} (h : kdfHas P c = true) : kdfLook W c (-1) = kdfLook P c 0 := by
  obtain ⟨p, hp, e⟩ := List.any_eq_true.mp h
  have e' : p.1 = c := of_decide_eq_true e
  obtain ⟨h1, h2⟩ := on p hp
  rw [← e', h1, h2]
theorem pg_none (off : ∀ p ∈ W, kdfHas P p.1 = true) {c : Int} (h : ¬ kdfHas P c = true) : kdfLook W c (-1) = -1 := by
  unfold kdfLook
  rw [List.find?_eq_none.mpr]
  · rfl
  · intro p hp e
    exact h ((of_decide_eq_true e : p.1 = c) ▸ off p hp)
theorem pg_all (off : ∀ p ∈ W, kdfHas P p.1 = true) {cs : List Int} (h : ((cs.map fun a => kdfLook W a (-1)).any fun x => x == -1) = false) : ∀ c ∈ cs, kdfHas P c = true := by
  intro c hc
  cases hh : kdfHas P c with
  | true => rfl
  | false =>
    have h1 := pg_none off (c := c) (by rw [hh]; exact Bool.false_ne_true)
    have : ((cs.map fun a => kdfLook W a (-1)).any fun x => x == -1) = true := List.any_eq_true.mpr ⟨_, List.mem_map_of_mem hc, by rw [h1]; rfl⟩
    rw [h] at this; cases this
theorem pg_ok {cs : List Int} (h : ∀ c ∈ cs, kdfHas P c = true) : (cs.map (kdfHas P)).all id = true := by
  rw [List.all_map]
  exact List.all_eq_true.mpr fun c hc => h c hc
theorem pg_bad (on : ∀ p ∈ P, kdfLook W p.1 (-1) = p.2 ∧ kdfLook P p.1 0 = p.2) (nn : ∀ c, 0 ≤ kdfLook P c 0) {cs : List Int} (h : ((cs.map fun a => kdfLook W a (-1)).any fun x => x == -1) = true) : (cs.map (kdfHas P)).all id = false := by
  obtain ⟨x, hx, e⟩ := List.any_eq_true.mp h
  obtain ⟨c, hc, rfl⟩ := List.mem_map.mp hx
  have e' : kdfLook W c (-1) = -1 := by simpa using e
  refine List.all_eq_false.mpr ⟨_, List.mem_map_of_mem hc, ?_⟩
  intro q
  have h1 := pg_has on (c := c) q
  have h2 := nn c
  omega
end
theorem wr_map {cs : List Int} (h : ((cs.map fun a => kdfLook wrC a (-1)).any fun x => x == -1) = false) : (cs.map fun a => kdfLook wrC a (-1)) = cs.map fun c => kdfLook plC c 0 :=
  List.map_congr_left fun c hc => pg_has wr_on (pg_all wr_off h c hc)
theorem wr_ok {cs : List Int} (h : ((cs.map fun a => kdfLook wrC a (-1)).any fun x => x == -1) = false) : (cs.map (kdfHas plC)).all id = true := pg_ok (pg_all wr_off h)
theorem wr_a {cs : List Int} (h : ((cs.map fun a => kdfLook wrC a (-1)).any fun x => x == -1) = false) (h2 : ¬ (cs.map fun a => kdfLook wrC a (-1)).take 2 = [254, 255]) : (cs.map fun a => kdfLook wrC a (-1)) = octC cs := by
  rw [wr_map h] at h2 ⊢
  exact octC_a (wr_ok h) h2
theorem wr_flat (cs : List Int) : cs.flatMap (fun c => (unitsOf c).flatMap hiLo) = (cs.flatMap unitsOf).flatMap hiLo := by rw [List.flatMap_assoc]
theorem wr_b {cs : List Int} (h : ((cs.map fun a => kdfLook wrC a (-1)).any fun x => x == -1) = false) (h2 : (cs.map fun a => kdfLook wrC a (-1)).take 2 = [254, 255]) : [254, 255] ++ cs.flatMap (fun c => (unitsOf c).flatMap hiLo) = octC cs := by
  rw [wr_map h] at h2
  rw [wr_flat]
  exact octC_b h2
theorem wr_c {cs : List Int} (h : ((cs.map fun a => kdfLook wrC a (-1)).any fun x => x == -1) = true) : [254, 255] ++ cs.flatMap (fun c => (unitsOf c).flatMap hiLo) = octC cs := by
  rw [wr_flat]
  exact octC_c (pg_bad wr_on (fun c => (look_in c).1) h)
theorem wr_in {cs : List Int} (h : ((cs.map fun a => kdfLook wrC a (-1)).any fun x => x == -1) = false) : KBa.In (cs.map fun a => kdfLook wrC a (-1)) := by
  rw [wr_map h]; exact look_ins cs
theorem wr_in2 {cs : List Int} (hcs : ∀ c ∈ cs, SignOk c) : KBa.In ([254, 255] ++ cs.flatMap (fun c => (unitsOf c).flatMap hiLo)) := by
  rw [wr_flat]
  intro b hb
  rcases List.mem_append.mp hb with hb | hb
  · rcases List.mem_cons.mp hb with rfl | hb
    · exact ⟨by decide, by decide⟩
    · rw [List.mem_singleton.mp hb]; exact ⟨by decide, by decide⟩
  · exact hiLo_in (units_in fun c hc => ⟨(hcs c hc).1, (hcs c hc).2.1⟩) b hb
theorem wr_fit {cs : List Int} (h : cs.length ≤ 20) (i : Nat) : ([254, 255] ++ (cs.take i).flatMap (fun c => (unitsOf c).flatMap hiLo)).length ≤ 1000 := by
  rw [wr_flat, List.length_append, hiLo_len]
  have h1 := flat_len (cs.take i)
  rw [List.length_take] at h1
  show 2 + _ ≤ _
  omega
theorem wr_fit1 {xs : List Int} {a : Int} (h : xs.length ≤ 1000) (i : Nat) : (xs ++ ([a].take i).flatMap hiLo).length ≤ 1004 := by
  rw [List.length_append, hiLo_len, List.length_take]
  simp only [List.length_cons, List.length_nil]
  omega
theorem wr_fit2 {xs : List Int} {a b : Int} (h : xs.length ≤ 1000) (i : Nat) : (xs ++ ([a, b].take i).flatMap hiLo).length ≤ 1004 := by
  rw [List.length_append, hiLo_len, List.length_take]
  simp only [List.length_cons, List.length_nil]
  omega
theorem w_two {us : List Value} {xs : List Int} {u : Int} (h : IntsAre us (xs ++ [u / 256, u % 256])) : IntsAre us (xs ++ hiLo u) := by
  unfold hiLo
  rw [Int.fdiv_eq_ediv_of_nonneg _ (by decide), Int.fmod_eq_emod_of_nonneg _ (by decide)]
  exact h
theorem w_big {us : List Value} {xs : List Int} {n : Int} (h : 65535 < n) (hi : IntsAre us (xs ++ [55296 + (n - 65536) / 1024, 56320 + n % 1024].flatMap hiLo)) : IntsAre us (xs ++ (unitsOf n).flatMap hiLo) := by
  unfold unitsOf
  rw [if_pos (by omega), show (n - 65536) % 1024 = n % 1024 by omega]
  exact hi
theorem w_small {us : List Value} {xs : List Int} {n : Int} (h : ¬ 65535 < n) (hi : IntsAre us (xs ++ [n].flatMap hiLo)) : IntsAre us (xs ++ (unitsOf n).flatMap hiLo) := by
  unfold unitsOf
  rw [if_neg (by omega)]
  exact hi

--deps: P19_rdlaw P17_sign P15_octets
/-! ### there and back -/
theorem plL_back : ∀ p ∈ plL, sigL.getD p.2.toNat 0 = p.1 := by decide +kernel
theorem plC_back : ∀ p ∈ plC, sigC.getD p.2.toNat 0 = p.1 := by rw [plC_lit, sigC_lit]; exact plL_back
theorem look_back {c : Int} (h : kdfHas plC c = true) : sigC.getD (kdfLook plC c 0).toNat 0 = c := by
  unfold kdfLook
  cases hf : plC.find? fun p => decide (p.1 = c) with
  | none =>
    obtain ⟨p, hp, e⟩ := List.any_eq_true.mp h
    exact absurd e (List.find?_eq_none.mp hf p hp)
  | some p =>
    have h1 := plC_back p (List.mem_of_find?_eq_some hf)
    have h2 := List.find?_some hf
    simp only [Option.map_some, Option.getD_some]
    rw [h1]; exact of_decide_eq_true h2
theorem map_back {f g : Int → Int} : ∀ {cs : List Int}, (∀ c ∈ cs, f (g c) = c) → (cs.map g).map f = cs
  | [], _ => rfl
  | c :: r, h => by rw [List.map_cons, List.map_cons, h c (.head _), map_back fun c' hc' => h c' (.tail _ hc')]
theorem pairsU_hiLo : ∀ {us : List Int}, pairsU (us.flatMap hiLo) = us
  | [] => rfl
  | u :: r => by
    rw [List.flatMap_cons]
    show (u.fdiv 256 * 256 + u.fmod 256) :: pairsU (r.flatMap hiLo) = _
    rw [pairsU_hiLo, Int.fdiv_eq_ediv_of_nonneg _ (by decide), Int.fmod_eq_emod_of_nonneg _ (by decide)]
    congr 1
    omega
theorem readU_units : ∀ {cs : List Int}, (∀ c ∈ cs, SignOk c) → readU (cs.flatMap unitsOf) = cs
  | [], _ => rfl
  | c :: r, h => by
    have ih := readU_units (cs := r) fun c' hc' => h c' (.tail _ hc')
    obtain ⟨h0, h1, h2⟩ := h c (.head _)
    rw [List.flatMap_cons]
    unfold unitsOf
    split
    · show readU ((55296 + (c - 65536) / 1024) :: (56320 + (c - 65536) % 1024) :: r.flatMap unitsOf) = _
      rw [readU, if_pos ⟨by omega, by omega, by omega, by omega⟩, ih]
      congr 1
      omega
    · show readU (c :: r.flatMap unitsOf) = _
      rw [readU_cons (by omega), if_neg h2, ih]
theorem textC_octC {cs : List Int} (h : ∀ c ∈ cs, SignOk c) : textC (octC cs) = cs := by
  unfold octC
  split
  · rename_i q
    rw [← textC_a q.2]
    exact map_back fun c hc => look_back (has_of_all q.1 hc)
  · unfold textC
    rw [if_pos (show List.take 2 ([254, 255] ++ (cs.flatMap unitsOf).flatMap hiLo) = [254, 255] from rfl)]
    show readU (pairsU ((cs.flatMap unitsOf).flatMap hiLo)) ++ _ = _
    rw [pairsU_hiLo, readU_units h, if_neg, List.append_nil]
    rw [List.length_append, hiLo_len]
    show ¬ (2 + _) % 2 = 1
    omega
theorem octC_len {cs : List Int} (h : cs.length ≤ 100) : (octC cs).length ≤ 1000 := by
  unfold octC
  split
  · rw [List.length_map]; omega
  · have := flat_len cs
    rw [List.length_append, hiLo_len]
    show 2 + _ ≤ _
    omega
theorem readU_in : ∀ {us : List Int}, (∀ u ∈ us, 0 ≤ u ∧ u < 65536) → ∀ c ∈ readU us, 0 ≤ c ∧ c < 1114112
  | [], _, c, hc => nomatch hc
  | [u], h, c, hc => by
    have hu := h u (.head _)
    simp only [readU] at hc
    split at hc <;> (rw [List.mem_singleton.mp hc]; omega)
  | u :: v :: r, h, c, hc => by
    have hu := h u (.head _)
    have hv := h v (.tail _ (.head _))
    rw [readU] at hc
    split at hc
    · rcases List.mem_cons.mp hc with rfl | hc
      · omega
      · exact readU_in (fun k hk => h k (.tail _ (.tail _ hk))) c hc
    · rcases List.mem_cons.mp hc with rfl | hc
      · split <;> omega
      · exact readU_in (fun k hk => h k (.tail _ hk)) c hc
theorem textC_in {ks : List Int} (h : ∀ k ∈ ks, 0 ≤ k ∧ k < 256) : ∀ c ∈ textC ks, 0 ≤ c := by
  intro c hc
  unfold textC at hc
  split at hc
  · rcases List.mem_append.mp hc with hc | hc
    · exact (readU_in (pairsU_in fun k hk => h k (List.mem_of_mem_drop hk)) c hc).1
    · split at hc
      · rw [List.mem_singleton.mp hc]; decide
      · nomatch hc
  · obtain ⟨k, hk, rfl⟩ := List.mem_map.mp hc
    have := h k hk
    exact (sigC_in k.toNat (by omega)).1
theorem textC_len (ks : List Int) : (textC ks).length ≤ ks.length + 1 := by
  unfold textC
  split
  · have h1 := readU_len (pairsU (ks.drop 2))
    rw [pairsU_len, List.length_drop] at h1
    rw [List.length_append]
    split <;> simp <;> omega
  · rw [List.length_map]; omega

--deps: P23_written Dev
theorem sg0 {cs : List Int} {n : Int} (h : ∀ c ∈ cs, SignOk c) (hm : n ∈ cs) : 0 ≤ n := (h n hm).1
theorem sg1 {cs : List Int} {n : Int} (h : ∀ c ∈ cs, SignOk c) (hm : n ∈ cs) : n < 1114112 := (h n hm).2.1
section
theorem written_ok {w : World} {loose : List Str} {mean : ExcName → Option Value} {mg mb : Str → Option Value} {l d : Addr} {n : Nat} {vs : List Value} {cs : List Int} {o : Obj} {kvs : List (Int × Value)} (hv : IntsAre vs cs) (hb : cs.length ≤ 20) (hcs : ∀ c ∈ cs, SignOk c) (hne : @Ne Nat l d) (hlo : (d == sysModules) = false)
    (hd' : o.IsDictOf (PySem.intKind PySem.Challenge.rw_nn0192_01.row.prog w) kvs) (hf' : PyProof.V.FlatPairs PyData.int kvs (kdfD tabC)) :
    Spec 16 w loose mean mg mb 71 [(l, listOf vs.toArray n), (d, o)] [.ref l, .ref d] (fun r own' => (∃ b t, r = .bytes b t ∧ KBw.bInts b = octC cs) ∧ own' = [(l, listOf vs.toArray n), (d, o)]) := by
  k_with_none
  k_with "own pick" => (first | exact Pick.head | (refine' Pick.tail ?ptq0; (case ptq0 => k_extra "own pick")))
  k_with "own picks" => (first | exact Picks.nil | (refine' Picks.cons ?ppq1 ?pqq1; (case ppq1 => k_extra "own pick"); (case pqq1 => k_extra "own picks")))
  k_with "own allin" => (with_unfolding_all ((try simp only [List.nil_append, List.cons_append]); k_allIn))
  k_with "own allin0" => (first | exact List.forall_mem_nil _ | k_extra "own allin")
  k_with "own same" => (intro z h1 h2; first | rfl | (simp [h1, h2]; done) | (simp_all; done))
  k_with "own same1" => (intro z h1; first | rfl | (simp [h1]; done) | (simp_all; done))
  k_with "own same3" => (intro z h1 h2 h3; first | rfl | (simp [h1, h2, h3]; done) | (simp_all; done))
  k_with "own for" => (k_here; (with_reducible rename Fr _ _ _ _ => lF'); (with_unfolding_all refine' For_invVF lF' ?k1q7 ?k2q7 ?_; (case k1q7 => exact rfl); (case k2q7 => exact rfl); k_whole))
  k_with "own apart" => (first | exact List.forall_mem_nil _ | (refine' apart_cons ?paq8 ?pbq8; (case paq8 => k_all); (case pbq8 => k_extra "own apart")))
  k_with "own after" => (intro N9 D9; (replace D9 := ApartL.of D9); (try simp only [ApartL, OffL, and_true] at D9); (try simp only [List.cons_append, List.nil_append] at N9); (try dsimp only); (try k_sweep); (try k_fold))
  k_with "own append" => (k_here; (try dsimp only [List.cons_append, List.nil_append]); (with_reducible show wpAny _ _ (call (Value.builtin _) [Value.ref _, Value.int _ _]) _ _ _); k_dflt (refine' app_ints ?k1q10 ?k2q10 ?k3q10 ?k4q10 ?k5q10 ?k6q10 ?_; (case k1q10 => k_asm); (case k2q10 => k_asm); (case k3q10 => k_updF); (case k4q10 => with_reducible assumption); (case k5q10 => with_reducible assumption); (case k6q10 => first | with_reducible assumption | omega); k_whole); intro us' h' hi' hl' F' N'; (try dsimp only at N'); (try k_sweep))
  k_with "own get" => (k_here; (try dsimp only [List.cons_append, List.nil_append]); (with_reducible show wpAny _ _ (call (Value.builtin "dict.get") [Value.ref _, Value.int _ _, Value.int _ _]) _ _ _); k_dflt (refine kdf_get2 (by k_tabat) ?_); intro _)
  k_with "own off" => ((try simp only [LCg.Off3, OffL, and_true]); k_extra "own offs")
  k_with "own offs" => (first | k_extra "own cj" | (with_reducible refine' And.intro ?oaq13 ?obq13; (case oaq13 => k_extra "own offs"); (case obq13 => k_extra "own offs")) | k_extra "own ne")
  k_with "own ne" => (first | k_extra "own ne0" | omega)
  k_with "own ne0" => (first | k_extra "own cj" | (with_reducible refine Ne.symm ?_; k_extra "own cj") | (with_reducible refine Nat.ne_of_lt ?_; k_extra "own cj") | (with_reducible refine Nat.ne_of_gt ?_; k_extra "own cj"))
  k_with "own cj" => (with_reducible first | assumption | exact cjl0 (by assumption) | exact cjr0 (by assumption) | exact cjl1 (by assumption) | exact cjr1 (by assumption) | exact cjl2 (by assumption) | exact cjr2 (by assumption) | exact cjl3 (by assumption) | exact cjr3 (by assumption) | exact cjl4 (by assumption) | exact cjr4 (by assumption) | exact cjl5 (by assumption) | exact cjr5 (by assumption) | exact cjl6 (by assumption) | exact cjr6 (by assumption) | exact cjl7 (by assumption) | exact cjr7 (by assumption) | exact cjl8 (by assumption) | exact cjr8 (by assumption) | exact cjl9 (by assumption) | exact cjr9 (by assumption) | exact cjl10 (by assumption) | exact cjr10 (by assumption) | exact cjl11 (by assumption) | exact cjr11 (by assumption))
  k_with "own kne" => (refine neN ?_; (try dsimp only); k_extra "own ne0")
  k_with "own turn" => (unfold CTurn; intro I' oI' C' oC' D' m' ys' h' tk' E' hC' hx' F' N' off' ne'; (try (simp only [LCg.Off3, and_true] at off')); (try dsimp only); k_fold)
  k_with "own listcomp" => (k_here; k_dflt (refine ListComp_M (F₀ := by k_asm) (by with_unfolding_all rfl) (by decide) (by rfl) (by decide) (by rfl) ?_))
  k_with "own alistcomp" => (k_here; k_dflt (refine Assign_ListComp_M (F₀ := by k_asm) (by rfl) (by with_unfolding_all rfl) (by with_unfolding_all rfl) (by decide) (by rfl) (by decide) (by rfl) (by rfl) (by rfl) ?_))
  k_with "eval ListComp" => k_extra "own listcomp"
  k_with "exec Assign cons ListComp" => k_extra "own alistcomp"
  k_with "CSrc" => (k_here; first | ((with_reducible show CSrc _ _ _ _ _ _ _ _ _ _ _ _ _ (Value.ref _) _); k_dflt (refine' CSrc.dictTups (c := tabC) (f := fun a => kdfLook tabC a 0) (g := fun a => a) rfl ?k1q23 ?k2q23 ?k3q23 ?k4q23 ?k5q23 ?k6q23 ?k7q23 ?_ ?_; (case k1q23 => k_asm); (case k2q23 => k_asm); (case k3q23 => k_mem); (case k4q23 => assumption); (case k5q23 => assumption); (case k6q23 => assumption); (case k7q23 => rw [tabC_len]; decide)); all_goals (first | (intro c9 u9 g9 hc9; (unfold TTurn; intro I' oI' C' oC' D' m' ys' tl' h' tk' E' hC' hx' F' N' offK9 off' ne' hS'; (try (simp only [List.cons_append, List.nil_append] at N')); (try (simp only [List.cons_append, List.nil_append, LCg.Off3] at off')); (try (simp only [List.cons_append, List.nil_append] at hS')); (try dsimp only); k_fold)) | (intro ys9 tl9 g9 hy9))) | ((with_reducible show CSrc _ _ _ _ _ _ _ _ _ _ _ _ _ (Value.ref _) _); k_dflt (refine' CSrc.list (fun c v => ∃ t, v = .int (kdfLook wrC c (-1)) t) rfl ?k2q23 ?k3q23 ?k4q23 ?k5q23 ?k6q23 ?_ ?_; (case k5q23 => with_reducible assumption); (case k2q23 => k_asm); (case k3q23 => k_asm); (case k4q23 => k_mem); (case k6q23 => omega)); all_goals (first | (intro c9 u9 g9 hc9; k_extra "own turn") | (intro ys9 g9 hy9; have hy9 := Each.ints hy9))))
  k_with "subscriptTail" => (k_here; (with_reducible show wpAny _ _ (subscriptTail _ _ (Value.ref _) (Value.int _ _)) _ _ _); (rename (_ ∈ List.map Prod.fst tabC) => hin8); (k_dflt (refine' kdf_item ?k1q24 ?k2q24 ?_; (case k1q24 => k_tabat); (case k2q24 => exact tab_has hin8))); intro _)
  k_with "CompEnd" => first | (rename (LCg.Off3 _ _ _ (_ ++ _)) => offK8; k_dflt (exact LCg.CompEnd.intro (by k_asm) (by k_asm) _ (by kcf_all) (by exact off3_put (by k_extra "own ne") (by k_extra "own ne") (by k_extra "own ne") offK8) (by exact List.mem_append_left _ (by k_mem)) ⟨_, _, _, rfl, rfl⟩)) | k_dflt (exact LCg.CompEnd.intro (by k_asm) (by k_asm) _ (by kcf_all) (by first | assumption | k_extra "own off") (by k_mem) ⟨rfl, ⟨_, rfl⟩⟩)
  k_with "call builtin:dict.get" => k_extra "own get"
  k_with "call type:dict" => (k_here; (with_reducible show wpAny _ _ (call (Value.type "dict") [Value.ref _]) _ _ _); (rename (Tups _ _ _) => tups8); (rename (LCg.Off1 _ (_ ++ _)) => off8); k_dflt (refine' dict_tups1 off8 tups8 rfl ?k1q27 ?k2q27 (Top.nolimit ?k3q27) ?k4q27 ?_; (case k1q27 => k_asm); (case k2q27 => k_asm); (case k3q27 => k_asm); (case k4q27 => exact wr_len)); intro d9 o9 kvs9 h9 tk9 F9 N9 l9 lo9 hd9 hf9; (try k_lt l9); k_dflt (replace hf9 : PyProof.V.FlatPairs PyData.int kvs9 (kdfD wrC) := hf9); clear tups8 off8; (try dsimp only))
  k_with "exec For Name Name cons nil" => k_extra "own for"
  k_with "pyIter ref" => (k_here; first | ((with_unfolding_all refine' floop 1000 (Str.ofString "found") (Str.ofString "units") (Str.ofString "unit") (fun c => (unitsOf c).flatMap hiLo) ?Fq29 ?Nq29 ?Pq29 ?lq29 ?iq29 ?bq29 ?xq29 ?mq29 ?apq29 ?lenq29 rfl ?_ ?_; (case Fq29 => k_asm); (case Nq29 => k_asm); (case Pq29 => k_extra "own pick"); (case lq29 => k_mem); (case iq29 => with_reducible assumption); (case bq29 => exact IntsAre.cons _ _ (IntsAre.cons _ _ IntsAre.nil)); (case xq29 => decide); (case mq29 => rfl); (case apq29 => k_extra "own off"); (case lenq29 => exact wr_fit (by assumption))); all_goals (first | (intro n9 t9 D9 us9 xs9 k9 q9 I9 oI9 h9 tk9 hm9 hi9 hl9 hap9 hoff9 F9 N9; (try simp only [OffL, and_true] at hap9); (rename (∀ c ∈ _, SignOk c) => hcs8); (have hs1 := sg0 hcs8 hm9); (have hs2 := sg1 hcs8 hm9); (try simp only [OffL, and_true] at hoff9); (try clear lF'); (try k_unmd); k_fold) | (intro q9 D9 us9 k9 h9 tk9 hi9 hl9 hap9 F9 N9; (try simp only [OffL, and_true] at hap9); (try clear lF'); (try dsimp only)))) | ((with_unfolding_all refine' floop 1004 (Str.ofString "found") (Str.ofString "unit") (Str.ofString "unit") hiLo ?Fq29 ?Nq29 ?Pq29 ?lq29 ?iq29 ?bq29 ?xq29 ?mq29 ?apq29 ?lenq29 rfl ?_ ?_; (case Fq29 => k_asm); (case Nq29 => k_asm); (case bq29 => with_reducible assumption); (case Pq29 => k_extra "own pick"); (case lq29 => k_mem); (case iq29 => first | exact IntsAre.cons _ _ (IntsAre.cons _ _ IntsAre.nil) | exact IntsAre.cons _ _ IntsAre.nil); (case xq29 => decide); (case mq29 => rfl); (case apq29 => k_extra "own off"); (case lenq29 => first | exact wr_fit1 (by assumption) | exact wr_fit2 (by assumption))); all_goals (first | (intro n9 t9 D9 us9 xs9 k9 q9 I9 oI9 h9 tk9 hm9 hi9 hl9 hap9 hoff9 F9 N9; (try simp only [OffL, and_true] at hap9); (try simp only [OffL, and_true] at hoff9); (try clear lF'); (try k_unmd); k_fold) | (intro q9 D9 us9 k9 h9 tk9 hi9 hl9 hap9 F9 N9; (try simp only [OffL, and_true] at hap9); (try clear lF'); (try dsimp only)))))
  k_with "LpPost" => dsimp only [LpPost]
  k_with "binaryOp RShift int int" => (k_here; with_reducible (first | refine shr_8 ?_ | refine shr_10 ?_); intro _ _)
  k_with "binaryOp BitOr int int" => (k_here; with_reducible (first | refine or_hi (by omega) (by omega) ?_ | refine or_lo (by omega) (by omega) ?_); intro _ _)
  k_with "binaryOp BitAnd int int" => (k_here; with_reducible (first | refine and_1023 ?_ | refine and_255 ?_); intro _ _)
  k_with "LpEnd" => first | k_dflt (exact LpEnd.intro _ (by k_asm) ⟨⟨_, _, _, rfl, w_two (by with_reducible assumption), rfl, (by k_extra "own off")⟩, (by (intro z h1 h2 h3 h4; simp only [if_neg h1, if_neg h2, if_neg h3, if_neg h4]))⟩ (by k_asm) (by k_memK) (by k_extra "own allin") (by k_all) (by k_extra "own allin0")) | k_dflt (exact LpEnd.intro _ (by k_asm) ⟨⟨_, _, _, rfl, w_big (by with_reducible assumption) (by with_reducible assumption), rfl, (by k_extra "own off")⟩, (by (intro z h1 h2 h3 h4; simp only [if_neg h1, if_neg h2, if_neg h3, if_neg h4]))⟩ (by k_asm) (by k_memK) (by k_extra "own allin") (by k_all) (by k_extra "own allin0")) | k_dflt (exact LpEnd.intro _ (by k_asm) ⟨⟨_, _, _, rfl, w_small (by with_reducible assumption) (by with_reducible assumption), rfl, (by k_extra "own off")⟩, (by (intro z h1 h2 h3 h4; simp only [if_neg h1, if_neg h2, if_neg h3, if_neg h4]))⟩ (by k_asm) (by k_memK) (by k_extra "own allin") (by k_all) (by k_extra "own allin0"))
  k_with "call type:bytes" => (k_here; (with_reducible show wpAny _ _ (call (Value.type "bytes") [Value.ref _]) _ _ _); k_dflt (refine' KBa.make_K ?kbaFq35 ?kbaNq35 ?kbahq35 ?kbalq35 ?kbaiq35 ?kbarq35 ?kbanq35 ?_; (case kbaFq35 => k_asm); (case kbaNq35 => k_asm); (case kbahq35 => rfl); (case kbalq35 => exact News.isList (by k_asm) (by k_mem)); (case kbaiq35 => with_reducible assumption); (case kbarq35 => first | exact wr_in (by with_reducible assumption) | exact wr_in2 (by with_reducible assumption)); (case kbanq35 => first | omega | (rw [List.length_map]; omega))); intro h' t' k' F' N' hIn9; have hIn9 := KBa.ints_make hIn9)
  w_on
  w_strict (refine' spec_ofC (binds := [(Str.ofString "codes", .ref l), (Str.ofString "table", .ref d)]) (by k_is) (by k_is) (fun s => BindsTo.of_eq rfl) (by rfl) (by decide +kernel) rfl rfl rfl (by decide) ?_; intro dp un gd cn cs L a ccd cl outer base g L' h₁ cells gens drawn os tk Q E B hk F N Y l1 X T hd hu hret; (try dsimp only); k_cells Y; (try k_lt l1); (try simp only [List.cons_append, List.nil_append] at N); (try dsimp only); (try k_fold); k_steps; all_goals ((try dsimp only); (refine' hret _ _ _ _ _ ?ha (News.sub ?hb ?hs) ⟨⟨_, _, rfl, ?hc⟩, rfl⟩; (case ha => k_asm); (case hc => first | with_reducible exact (Eq.trans (by assumption) (wr_a (by assumption) (by assumption))) | with_reducible exact (Eq.trans (by assumption) (wr_b (by assumption) (by assumption))) | with_reducible exact (Eq.trans (by assumption) (wr_c (by assumption)))); (case hb => k_asm); (case hs => (with_unfolding_all k_allIn)))))
end

--deps: P12_bytes
/-! ### bytes(range(n)) -/
theorem rg_no_bytes : typeLookup (.type "range") "__bytes__" = pure none := by rw [typeLookup_type, builtinLookup_eq_fast]; kernel_rfl
theorem rg_no_index : typeLookup (.type "range") "__index__" = pure none := by rw [typeLookup_type, builtinLookup_eq_fast]; kernel_rfl
theorem rg_no_buffer : typeLookup (.type "range") "__buffer__" = pure none := by rw [typeLookup_type, builtinLookup_eq_fast]; kernel_rfl
theorem rg_split : splitId "range.__len__" = some ("range", "__len__") := by decide +kernel
theorem rg_sub : isSubtype (.type "range") (.type "range") = pure true := by rw [isSubtype_type]; kernel_rfl
section
variable {prog : Program} {w : World} {A : Around} {E : Value → Shared → Prop} {s : Shared}
/-- the loop of bytes(..) over any walked source of ints -/
theorem octs_loop {R : Result → Shared → Prop} {I S : Addr} {fp : List Addr} {ns : List Int} {P : Nat → Value → Prop} {St : Nat → Heap → Prop} (W : Walks prog w A.in1 I fp [I] ns.length P St) (hSf : S ∉ fp) (hIS : I ≠ S)
    (hP : ∀ i v, i < ns.length → P i v → ∃ n t, ns[i]? = some n ∧ v = .int n t) (hr : KBa.In ns) (hz : ns.length ≤ 1000) :
    ∀ (k i : Nat) (s : Shared), ns.length - i = k → i ≤ ns.length → St i s.heap → s.heap.get? S = some { cls := .type "bytearray", data := .bytearray (byteArr (ns.take i)) } →
      (∀ h' t k', (∀ b o, b ≠ I → b ≠ S → s.heap.get? b = some o → h'.get? b = some o) → R (.ok (.ret (.bytes (byteArr ns) t))) { s with heap := h', toks := k' }) →
      codeAny (model prog w) A (.builtin "bytes.__new__.loop" ⟨[.type "bytes", .ref I, .ref S], []⟩) R s := by
  intro k
  induction k with
  | zero =>
    intro i s hk hle hst hS hR
    have hin : i = ns.length := by omega
    subst hin
    refine codeAny_builtin F.bm_entry_loop ?_
    rw [Around.under_plainId F.bm_plain_loop _]
    show wpAny _ A.in1 (pyNext (.ref I) >>= _) _ _ s
    refine wpAny_bind (W.done s _ _ hst fun h' tk hm => ?_)
    have hS' : h'.get? S = some { cls := .type "bytearray", data := .bytearray (byteArr (ns.take ns.length)) } := hm S _ (fun q => hIS (List.mem_singleton.mp q).symm) hS
    refine wpAny_bind ?_
    unfold Builtin.Bytes.payload Builtin.Bytes.payload?
    refine wpAny_bind (wpAny_bind (wpAny_load hS' ?_))
    refine wpAny_pure (wpAny_pure ?_)
    rw [List.take_length]
    refine wpAny_bind (wpAny_mkBytes ?_ (by rw [byteArr_size, sizeLine_eq]; omega))
    show wpAny _ _ (if (Value.type "bytes" == Value.type "bytes") = true then _ else _) _ _ _
    refine bm_if_true (by decide) ?_
    have fin := fun t k' => hR h' t k' fun b o hb _ e => hm b o (fun q => hb (List.mem_singleton.mp q)) e
    first
      | exact wpAny_pure (fin _ _)
      | exact wpAny_bind (wpAny_pure (wpAny_pure (fin _ _)))
  | succ k ih =>
    intro i s hk hle hst hS hR
    refine codeAny_builtin F.bm_entry_loop ?_
    rw [Around.under_plainId F.bm_plain_loop _]
    show wpAny _ A.in1 (pyNext (.ref I) >>= _) _ _ s
    refine wpAny_bind (W.item i s _ _ (by omega) hst fun v h' tk hv hst' hm => ?_)
    obtain ⟨n, t, hn, rfl⟩ := hP i v (by omega) hv
    obtain ⟨h0, h1⟩ := hr n (List.mem_of_getElem? hn)
    have hS' : h'.get? S = some { cls := .type "bytearray", data := .bytearray (byteArr (ns.take i)) } := hm S _ (fun q => hIS (List.mem_singleton.mp q).symm) hS
    refine wpAny_bind (wpAny_holding (wpAny_of_eq (rfl : asIndex (.int n t) = pure n) ?_))
    refine wpAny_bind (wpAny_letGo ?_)
    refine bm_if_false (by simp only [Bool.or_eq_false_iff, decide_eq_false_iff_not]; omega) ?_
    refine wpAny_bind ?_
    show wpAny _ _ (updateBytearray S (·.push n.toNat.toUInt8)) _ _ _
    unfold updateBytearray
    refine wpAny_bind (wpAny_load hS' ?_)
    show wpAny _ _ (update S (Obj.mapBytearray (·.push n.toNat.toUInt8)) >>= fun _ => lookBehind S) _ _ _
    refine wpAny_bind (wpAny_update hS' ?_)
    have hS₂ : (h'.update S (Obj.mapBytearray (·.push n.toNat.toUInt8))).get? S = some { cls := .type "bytearray", data := .bytearray (byteArr (ns.take (i + 1))) } := by
      rw [byteArr_take hn]
      exact Heap.get?_update_self (Obj.mapBytearray (·.push n.toNat.toUInt8)) hS' rfl
    refine wpAny_lookBehind hS₂ ?_ ?_
    · show (if (byteArr (ns.take (i + 1))).size > sizeLine then some "bytearray:memory" else none) = none
      rw [if_neg]
      rw [byteArr_size, List.length_take, sizeLine_eq]
      omega
    · refine wpAny_pure ⟨plainId_quiet F.bm_plain_loop _, ih (i + 1) _ (by omega) (by omega) (W.frame _ _ _ hst' fun b hb o e => ?_) hS₂ fun h3 t' k' hk3 => ?_⟩
      · exact (Heap.get?_update_other _ _ (fun q : S = b => hSf (by rw [q]; exact hb))).trans e
      · exact hR h3 t' k' fun b o hbI hbS e => hk3 b o hbI hbS ((Heap.get?_update_other _ _ (Ne.symm hbS)).trans (hm b o (fun q => hbI (List.mem_singleton.mp q)) e))
theorem octs_range {r : Addr} {b : Int} {t u v : Tok} {n : Nat} {Q : Value → Shared → Prop} (hh : A.handled = none) (hr : IsRange s.heap r 0 b 1 t u v) (hsmall : Builtin.Range.small 0 b 1 = true) (hn : Builtin.Range.rangeSize 0 b 1 = (n : Int)) (hb : n ≤ 256)
    (hQ : ∀ h' t k, (∀ b o, s.heap.get? b = some o → h'.get? b = some o) → Q (.bytes (byteArr (rangeKs 0 n)) t) { s with heap := h', toks := k }) :
    wpAny (model prog w) A (call (.type "bytes") [.ref r]) Q E s := by
  have hin : KBa.In (rangeKs 0 n) := by
    intro x hx
    unfold rangeKs at hx
    obtain ⟨i, hi, rfl⟩ := List.mem_map.mp hx
    have := List.mem_range.mp hi
    omega
  refine callType_codes (Q₁ := fun obj s₁ => s₁.TypeIs obj "bytes" ∧ Q obj s₁) F.bm_called (F.bm_typeCall _) F.entry_object_init ?_ fun obj s₁ h₁ =>
    ⟨h₁.1, F.args_object_init_2 obj _, object_init_meets F.bm_called.init.lookup F.bm_called.made (by decide) prog w A.in1 _ s₁ ⟨h₁.1, rfl, h₁.2⟩⟩
  refine codeAny_of_tree ?_
  show wpAny _ A.in1.in1 (do checkBuiltinCall "bytes.__new__" ⟨[.type "bytes", .ref r], []⟩; again (.builtin "bytes.__new__" ⟨[.type "bytes", .ref r], []⟩)) _ _ s
  refine wpAny_bind (wpAny_of_eq (F.bm_newCall _) (wpAny_pure ⟨plainId_quiet F.bm_plain _, codeAny_builtin F.bm_entry ?_⟩))
  rw [Around.under_plainId F.bm_plain _]
  have hT : s.TypeIs (.ref r) "range" := ⟨_, hr, rfl⟩
  unfold Builtin.«bytes.__new__»
  refine wpAny_bind (wpAny_of_eq (a := true) rfl ?_)
  refine bm_if_false rfl ?_
  refine wpAny_bind (wpAny_of_eq F.bm_sub ?_)
  refine bm_if_false rfl ?_
  refine wpAny_bind (wpAny_of_eq (F.bm_bind _) ?_)
  refine wpAny_bind (wpAny_of_eq (a := ()) rfl ?_)
  refine wpAny_bind (wpAny_of_eq (a := ()) rfl ?_)
  refine bm_if_false rfl ?_
  refine wpAny_bind (wpAny_specialOf hT rg_no_bytes ?_)
  refine wpAny_bind (wpAny_bind ?_)
  show wpAny _ _ (load r >>= _) _ _ _
  refine wpAny_bind (wpAny_load hr ?_)
  refine wpAny_pure (wpAny_pure ?_)
  refine bm_if_false rfl ?_
  refine wpAny_bind (wpAny_specialOf hT rg_no_index ?_)
  refine bm_if_true rfl ?_
  first
    | show wpAny _ _ (Builtin.Bytes.buffer? "bytes.__new__" (.ref r) true >>= _) _ _ _
    | (refine wpAny_bind ?_; show wpAny _ _ (Builtin.Bytes.buffer? "bytes.__new__" (.ref r) true >>= _) _ _ _)
  refine wpAny_bind ?_
  unfold Builtin.Bytes.buffer?
  refine wpAny_bind (wpAny_specialOf hT rg_no_buffer ?_)
  refine wpAny_bind (wpAny_specialOf hT rg_no_buffer ?_)
  refine wpAny_pure ?_
  refine wpAny_bind (wpAny_tryCatch (wpAny_pyIter_range hr hsmall ?_))
  refine wpAny_bind (wpAny_holding ?_)
  have hr₁ := Heap.get?_push_of_some { cls := .type "range_iterator", data := .fields #[rawInt 0, rawInt (Builtin.Range.rangeSize 0 b 1), rawInt 1] } hr
  have hT₁ : ({ s with heap := s.heap.push { cls := .type "range_iterator", data := .fields #[rawInt 0, rawInt (Builtin.Range.rangeSize 0 b 1), rawInt 1] } } : Shared).TypeIs (.ref r) "range" := ⟨_, hr₁, rfl⟩
  unfold Builtin.Bytes.lengthHint
  refine wpAny_bind (wpAny_specialOf hT₁ F.slot_range_len.lookup ?_)
  dsimp only
  rw [rg_split]
  dsimp only
  refine wpAny_bind (wpAny_isInstance hT₁ rg_sub ?_)
  refine bm_if_false rfl ?_
  refine bm_if_false (by decide +kernel) ?_
  refine bm_if_true rfl ?_
  refine wpAny_bind (wpAny_rule ?_)
  refine wpAny_bind (wpAny_attempt (call_len_range hr₁ hn (by omega) ?_))
  refine wpAny_bind (m := asInt? _) (wpAny_pure ?_)
  refine bm_if_false (by have htl : Builtin.Bytes.tooLong ((n : Int).toNat) = false := by simp [Builtin.Bytes.tooLong, sizeLine]; omega
                         exact htl) ?_
  refine wpAny_pure ?_
  refine wpAny_bind ?_
  unfold Builtin.Bytes.newBytearray
  refine wpAny_newObj_type ?_ (Nat.zero_le _)
  have hsz : (s.heap.push { cls := .type "range_iterator", data := .fields #[rawInt 0, rawInt (Builtin.Range.rangeSize 0 b 1), rawInt 1] }).objs.size = s.heap.objs.size + 1 := Heap.size_push _ _
  have hne : s.heap.objs.size ≠ (s.heap.push { cls := .type "range_iterator", data := .fields #[rawInt 0, rawInt (Builtin.Range.rangeSize 0 b 1), rawInt 1] }).objs.size := by rw [hsz]; exact Nat.ne_of_lt (Nat.lt_succ_self _)
  have W := Walks.range (prog := prog) (w := w) (A := A.in1.in1) hh s.heap.objs.size 0 1 (rangeKs 0 n).length
  have hit : IsRangeIter ((s.heap.push { cls := .type "range_iterator", data := .fields #[rawInt 0, rawInt (Builtin.Range.rangeSize 0 b 1), rawInt 1] }).push { cls := .type "bytearray", data := .bytearray #[] }) s.heap.objs.size (0 + ((0 : Nat) : Int) * 1) (((rangeKs 0 n).length : Int) - ((0 : Nat) : Int)) 1 := by
    rw [rangeKs_length]
    show IsRangeIter _ _ _ _ _
    rw [hn]
    exact Heap.get?_push_of_some _ (by simpa using Heap.get?_push_size _ rfl)
  have main := octs_loop (R := wants (fun obj s₁ => s₁.TypeIs obj "bytes" ∧ Q obj s₁) E) (S := (s.heap.push { cls := .type "range_iterator", data := .fields #[rawInt 0, rawInt (Builtin.Range.rangeSize 0 b 1), rawInt 1] }).objs.size) W (fun hm => hne (List.mem_singleton.mp hm).symm) hne
    (fun i v hi ⟨t, e⟩ => ⟨_, t, (by rw [rangeKs_length] at hi; simp [rangeKs, hi]), e⟩) hin (by rw [rangeKs_length]; omega) (rangeKs 0 n).length 0 { s with heap := (s.heap.push { cls := .type "range_iterator", data := .fields #[rawInt 0, rawInt (Builtin.Range.rangeSize 0 b 1), rawInt 1] }).push { cls := .type "bytearray", data := .bytearray #[] }, toks := s.toks + 1 + 1 } rfl (Nat.zero_le _) hit (Heap.get?_push_size _ rfl)
    fun h' t k hk => ⟨PySem.W.typeIs_bytes _ _ _, hQ h' t k fun b o e => hk b o (Nat.ne_of_lt (Heap.lt_size e)) (by rw [hsz]; exact Nat.ne_of_lt (Nat.lt_succ_of_lt (Heap.lt_size e))) (Heap.get?_push_of_some _ (Heap.get?_push_of_some _ e))⟩
  exact wpAny_pure ⟨plainId_quiet F.bm_plain_loop _, main⟩
theorem octs_range_K {h₀ : Heap} {L : Addr} {m : Str → Option Value} {news : List (Addr × Obj)} {r : Addr} {b : Int} {t u v : Tok} {n : Nat} {Q : Value → Shared → Prop} (F : Fr h₀ L s.heap m) (N : News h₀ L s.heap news) (hh : A.handled = none) (hr : IsRange s.heap r 0 b 1 t u v) (hsmall : Builtin.Range.small 0 b 1 = true) (hn : Builtin.Range.rangeSize 0 b 1 = (n : Int)) (hb : n ≤ 256)
    (h : ∀ h' t k, Fr h₀ L h' m → News h₀ L h' news → KBw.bInts (byteArr (rangeKs 0 n)) = rangeKs 0 n → Q (.bytes (byteArr (rangeKs 0 n)) t) { s with heap := h', toks := k }) :
    wpAny (model prog w) A (call (.type "bytes") [.ref r]) Q E s :=
  octs_range hh hr hsmall hn hb fun h' t k hk => h h' t k (F.keptAll hk) (N.grown hk) (KBa.ints_make (by
    intro x hx
    unfold rangeKs at hx
    obtain ⟨i, hi, rfl⟩ := List.mem_map.mp hx
    have := List.mem_range.mp hi
    omega))
end

--deps: P25_wrwalk P24_round P20_lawread P13_text P05_table P26_brange
theorem pool_of {ns : List Int} {ys : List Value} (h : Each (fun (_ : Int) v => ∃ k t, v = Value.int k t ∧ 0 ≤ k) ns ys) (hl : ns.length ≤ 24) : ∃ ks, IntsAre ys ks ∧ PoolOk ks := by
  have key : ∀ {ns : List Int} {ys : List Value}, Each (fun (_ : Int) v => ∃ k t, v = Value.int k t ∧ 0 ≤ k) ns ys → ∃ ks, IntsAre ys ks ∧ (∀ x ∈ ks, 0 ≤ x) ∧ ks.length = ns.length := by
    intro ns ys h
    induction h with
    | nil => exact ⟨[], .nil, (fun _ h => nomatch h), rfl⟩
    | cons r _ ih =>
      obtain ⟨k, t, rfl, hk⟩ := r
      obtain ⟨ks, h1, h2, h3⟩ := ih
      exact ⟨k :: ks, .cons _ _ h1, (List.forall_mem_cons.mpr ⟨hk, h2⟩), by simp [h3]⟩
  obtain ⟨ks, h1, h2, h3⟩ := key h
  exact ⟨ks, h1, h2, by omega⟩
/-- a loop over a range from 0 that turns two lists of ints; `rest` of the ledger stands by -/
theorem lp2 {prog : Program} {w : World} {A : Around} {E : Value → Shared → Prop} {s : Shared} {env : Env} {h₀ : Heap} {x : Str} {body : List Stmt} {Q : Flow → Shared → Prop} {r p q : Addr} {n : Nat} {b₀ : Int} {t₀ u₀ v₀ : Tok} {vs₀ us₀ : List Value} {ns₀ cs₀ : List Int} {k₀ j₀ : Nat} {m₀ : Str → Option Value} {led rest : List (Addr × Obj)} (pn qn : Str) (J : Nat → List Int → List Int → Prop)
    (F : Fr h₀ env.locals s.heap m₀) (N : News h₀ env.locals s.heap led) (hr : IsRange s.heap r 0 b₀ 1 t₀ u₀ v₀) (hb : b₀ = (n : Int)) (hn : n ≤ 1000) (hpn : m₀ pn = some (.ref p)) (hqn : m₀ qn = some (.ref q))
    (P : Picks [(p, listOf vs₀.toArray k₀), (q, listOf us₀.toArray j₀)] led rest) (hv₀ : IntsAre vs₀ ns₀) (hu₀ : IntsAre us₀ cs₀) (hJ : J 0 ns₀ cs₀) (hh : A.handled = none)
    (turn : ∀ (i : Nat) t vs ns k us cs j I oI h tk, i < n → IntsAre vs ns → IntsAre us cs → J i ns cs → OffL I ((p, listOf vs.toArray k) :: (q, listOf us.toArray j) :: rest) →
      Fr h₀ env.locals h (fun z => if z = x then some (.int (i : Int) t) else m₀ z) → News h₀ env.locals h ((I, oI) :: (p, listOf vs.toArray k) :: (q, listOf us.toArray j) :: rest) →
      wpAny (model prog w) A (execs body env) (LpPost h₀ env.locals I oI [] (fun m' nx => (∃ vs' ns' k' us' cs' j', nx = (p, listOf vs'.toArray k') :: (q, listOf us'.toArray j') :: rest ∧ IntsAre vs' ns' ∧ IntsAre us' cs' ∧ J (i + 1) ns' cs') ∧ ∀ z, z ≠ x → m' z = m₀ z) { s with heap := h, toks := tk } Q) E { s with heap := h, toks := tk })
    (done : ∀ (q' : Str → Option Value) vs ns k us cs j h tk, IntsAre vs ns → IntsAre us cs → J n ns cs →
      Fr h₀ env.locals h (fun z => if z = x then q' z else m₀ z) → News h₀ env.locals h ((p, listOf vs.toArray k) :: (q, listOf us.toArray j) :: rest) → Q .next { s with heap := h, toks := tk }) :
    wpAny (model prog w) A (pyIter (.ref r)) (fun it s₂ => LoopAtV prog w A h₀ env x body Q E it s₂) E s := by
  subst hb
  have N1 : News h₀ env.locals s.heap ((p, listOf vs₀.toArray k₀) :: (q, listOf us₀.toArray j₀) :: rest) := fun y hy => N y (P.mem y hy)
  refine lp_range (n := n) (fun i m' nx => (∃ vs ns k us cs j, nx = (p, listOf vs.toArray k) :: (q, listOf us.toArray j) :: rest ∧ IntsAre vs ns ∧ IntsAre us cs ∧ J i ns cs) ∧ ∀ z, z ≠ x → m' z = m₀ z) hr
    (small_one (by decide) (by decide) (by omega) (by omega)) (by rw [rangeSize_nat]; omega) hh F N1 ⟨⟨vs₀, ns₀, k₀, us₀, cs₀, j₀, rfl, hv₀, hu₀, hJ⟩, fun _ _ => rfl⟩ ?_ ?_
  · rintro i t I oI m₁ nx h tk hi ⟨⟨vs, ns, k, us, cs, j, rfl, hv, hu, hj⟩, hm₁⟩ hoff F₁ N₁
    have e1 : (fun z => if z = x then some (Value.int ((0 : Int) + (i : Int)) t) else m₁ z) = fun z => if z = x then some (Value.int (i : Int) t) else m₀ z := by
      funext z
      by_cases h1 : z = x
      · simp only [if_pos h1, Int.zero_add]
      · simp only [if_neg h1]; exact hm₁ z h1
    rw [e1] at F₁
    exact turn i t vs ns k us cs j I oI h tk hi hv hu hj (OffL.of fun y hy e => hoff y hy e.symm) F₁ N₁
  · rintro m₁ nx h tk ⟨⟨vs, ns, k, us, cs, j, rfl, hv, hu, hj⟩, hm₁⟩ F₁ N₁
    refine done m₁ vs ns k us cs j h tk hv hu hj ?_ N₁
    have e1 : (fun z => if z = x then m₁ z else m₀ z) = m₁ := by
      funext z
      by_cases h1 : z = x
      · simp only [if_pos h1]
      · simp only [if_neg h1]; exact (hm₁ z h1).symm
    rw [e1]; exact F₁
/-! ### a call that takes the table alone: apart by what the objects are -/
noncomputable def NotDict (o : Obj) : Prop := ∀ es ep, o.data ≠ .dict es ep
theorem nd_list {xs : Array Value} {n : Nat} : NotDict (listOf xs n) := fun _ _ h => by cases h
theorem nd_lst {ys : List Value} : NotDict (LCg.lst ys) := fun _ _ h => by cases h
theorem nd_cell {o : Obj} {v : Option Value} (h : o.data = .cell v) : NotDict o := fun _ _ q => by rw [h] at q; cases q
theorem nd_nil : ∀ q ∈ ([] : List (Addr × Obj)), NotDict q.2 := fun _ h => nomatch h
theorem nd_cons_list {a : Addr} {xs : Array Value} {n : Nat} {led : List (Addr × Obj)} (h : ∀ q ∈ led, NotDict q.2) : ∀ q ∈ (a, listOf xs n) :: led, NotDict q.2 := List.forall_mem_cons.mpr ⟨nd_list, h⟩
theorem nd_cons_lst {a : Addr} {ys : List Value} {led : List (Addr × Obj)} (h : ∀ q ∈ led, NotDict q.2) : ∀ q ∈ (a, LCg.lst ys) :: led, NotDict q.2 := List.forall_mem_cons.mpr ⟨nd_lst, h⟩
theorem nd_cons_cell {a : Addr} {o : Obj} {v : Option Value} {led : List (Addr × Obj)} (ho : o.data = .cell v) (h : ∀ q ∈ led, NotDict q.2) : ∀ q ∈ (a, o) :: led, NotDict q.2 := List.forall_mem_cons.mpr ⟨nd_cell ho, h⟩
theorem Spec.useD {lv : Nat} {w : World} {loose : List Str} {mean : ExcName → Option Value} {mg mb : Str → Option Value} {f d : Addr} {o : Obj} {kvs : List (Int × Value)} {led rest : List (Addr × Obj)} {args : List Value} {post : Value → List (Addr × Obj) → Prop} {dp un : Nat} {gd : Option (List Code)} {cn : Str} {cs : Scope} {a : Addr} {ccd : Value} {cl : List (Str × Addr)} {outer : List Env} {A₀ : Around} {base h₀ : Heap} {L : Addr} {m : Str → Option Value} {s : Shared} {Q E : Value → Shared → Prop}
    (B : Below A₀ base outer h₀) (F : Fr h₀ L s.heap m) (X : (hd.heap_39 w.params).In h₀) (N : News h₀ L s.heap led) (T : Top hd.view_39 loose mean mg mb h₀) (S : Spec lv w loose mean mg mb f [(d, o)] args post)
    (P : Picks [(d, o)] led rest) (ho : o.IsDictOf (PySem.intKind PySem.Challenge.rw_nn0192_01.row.prog w) kvs) (D : ∀ q ∈ rest, NotDict q.2) (hk : cs.kind = .function) (hd : dp + lv < recursionLimit) (hu : un + 8 * lv < cLine)
    (h : ∀ r own' h' tk', Fr h₀ L h' m → News h₀ L h' (own' ++ rest) → (∀ p ∈ own', ∀ q ∈ rest, p.1 ≠ q.1) → post r own' → Q r { s with heap := h', toks := tk' }) :
    wpAny (model PySem.Challenge.rw_nn0192_01.row.prog w) (ktrTop dp un gd cn cs L a ccd cl outer) (call (.ref f) args) Q E s := by
  refine Spec.use B F X N T S P (fun p hp q hq e => ?_) hk hd hu h
  rw [List.mem_singleton.mp hp] at e
  have h1 := (N _ (P.mem (d, o) (List.mem_append_left _ (List.Mem.head _)))).1
  have h2 := (N q (P.mem q (List.mem_append_right _ hq))).1
  rw [← e] at h2
  have e' : o = q.2 := Option.some.inj (h1.symm.trans h2)
  obtain ⟨es, ep, _, hdat, _⟩ := ho
  exact D q hq es ep (e' ▸ hdat)
/-! ### what the two loops keep -/
noncomputable def J1 (i : Nat) (ns cs : List Int) : Prop := PoolOk ns ∧ (∀ c ∈ cs, SignOk c) ∧ cs.length ≤ 2 + i
noncomputable def J2 (i : Nat) (ns ks : List Int) : Prop := PoolOk ns ∧ (∀ k ∈ ks, 0 ≤ k ∧ k < 256) ∧ ks.length ≤ 2 + i
theorem J1.put {i : Nat} {ns ns' cs : List Int} {c : Int} (h : J1 i ns cs) (hp : PoolOk ns') (hc : SignOk c) : J1 (i + 1) ns' (cs ++ [c]) :=
  ⟨hp, (List.forall_mem_append.mpr ⟨h.2.1, fun x hx => (List.mem_singleton.mp hx) ▸ hc⟩), by have := h.2.2; rw [List.length_append, List.length_singleton]; omega⟩
theorem J2.put {i : Nat} {ns ns' ks : List Int} {k : Int} (h : J2 i ns ks) (hp : PoolOk ns') (h0 : 0 ≤ k) (h1 : k < 256) : J2 (i + 1) ns' (ks ++ [k]) :=
  ⟨hp, (List.forall_mem_append.mpr ⟨h.2.1, fun x hx => (List.mem_singleton.mp hx) ▸ ⟨h0, h1⟩⟩), by have := h.2.2; rw [List.length_append, List.length_singleton]; omega⟩
theorem J1.nil {ns : List Int} (h : PoolOk ns) : J1 0 ns [] := ⟨h, (fun _ h => nomatch h), by simp⟩
theorem J1.two {ns : List Int} (h : PoolOk ns) : J1 0 ns [254, 255] := ⟨h, (by unfold SignOk; decide), by decide⟩
theorem J2.nil {ns : List Int} (h : PoolOk ns) : J2 0 ns [] := ⟨h, (fun _ h => nomatch h), by simp⟩
theorem J2.two {ns : List Int} (h : PoolOk ns) : J2 0 ns [254, 255] := ⟨h, by decide, by decide⟩
theorem J1.pool {i : Nat} {ns cs : List Int} (h : J1 i ns cs) : PoolOk ns := h.1
theorem J1.signs {i : Nat} {ns cs : List Int} (h : J1 i ns cs) : ∀ c ∈ cs, SignOk c := h.2.1
theorem J1.len {i : Nat} {ns cs : List Int} (h : J1 i ns cs) : cs.length ≤ 2 + i := h.2.2
theorem J2.pool {i : Nat} {ns cs : List Int} (h : J2 i ns cs) : PoolOk ns := h.1
theorem J2.octs {i : Nat} {ns cs : List Int} (h : J2 i ns cs) : KBa.In cs := h.2.1
theorem J2.len {i : Nat} {ns cs : List Int} (h : J2 i ns cs) : cs.length ≤ 2 + i := h.2.2
theorem J1.fin {i : Nat} {ns ns' cs : List Int} {c : Int} {vs us : List Value} (hp : PoolOk ns') (hv : IntsAre vs ns') (h : J1 i ns cs) (hc : SignOk c) (hu : IntsAre us (cs ++ [c])) : IntsAre vs ns' ∧ IntsAre us (cs ++ [c]) ∧ J1 (i + 1) ns' (cs ++ [c]) := ⟨hv, hu, h.put hp hc⟩
theorem J2.fin {i : Nat} {ns ns' cs : List Int} {c : Int} {vs us : List Value} (hp : PoolOk ns') (hv : IntsAre vs ns') (h : J2 i ns cs) (hu : IntsAre us (cs ++ [c])) (hc : 0 ≤ c ∧ c < 256) : IntsAre vs ns' ∧ IntsAre us (cs ++ [c]) ∧ J2 (i + 1) ns' (cs ++ [c]) := ⟨hv, hu, h.put hp hc.1 hc.2⟩
theorem menu4 {a : Int} (h0 : 0 ≤ a) (h1 : a < 256) : ∀ k : Nat, 0 ≤ ([a, 216, 220, 223] : List Int).getD k 0 ∧ ([a, 216, 220, 223] : List Int).getD k 0 < 256
  | 0 => ⟨h0, h1⟩
  | 1 => ⟨show (0 : Int) ≤ 216 by decide, show (216 : Int) < 256 by decide⟩
  | 2 => ⟨show (0 : Int) ≤ 220 by decide, show (220 : Int) < 256 by decide⟩
  | 3 => ⟨show (0 : Int) ≤ 223 by decide, show (223 : Int) < 256 by decide⟩
  | _ + 4 => by simp
theorem J1.len20 {i : Nat} {ns cs : List Int} (h : J1 i ns cs) (hi : i ≤ 18) : cs.length ≤ 20 := Nat.le_trans h.2.2 (by omega)
theorem J2.len20 {i : Nat} {ns cs : List Int} (h : J2 i ns cs) (hi : i ≤ 18) : cs.length ≤ 20 := Nat.le_trans h.2.2 (by omega)
theorem le_big {a : Nat} (h : a ≤ 20) : a ≤ 1000 := Nat.le_trans h (by decide)
theorem le_bytes {a : Nat} (h : a ≤ 20) : a ≤ 16777216 := Nat.le_trans h (by decide)
theorem le_turn {i : Nat} {v : Int} (h : i < v.toNat) (hv : v ≤ 90000) : 2 + i ≤ 100000 := by omega
theorem le_hund {a : Nat} (h : a ≤ 20) : a ≤ 100000 := Nat.le_trans h (by decide)
theorem le_join {a : Nat} (h : a ≤ 20) : a ≤ 200000 := Nat.le_trans h (by decide)
theorem J1.start {ns cs : List Int} (h : PoolOk ns) (hc : cs = [] ∨ cs = [254, 255]) : J1 0 ns cs := by
  rcases hc with rfl | rfl
  · exact .nil h
  · exact .two h
theorem J2.start {ns cs : List Int} (h : PoolOk ns) (hc : cs = [] ∨ cs = [254, 255]) : J2 0 ns cs := by
  rcases hc with rfl | rfl
  · exact .nil h
  · exact .two h
/-! ### one of two lists -/
section
variable {prog : Program} {w : World} {A : Around} {E : Value → Shared → Prop} {s : Shared} {env : Env} {Q : Value → Shared → Prop}
noncomputable def TwoPost (prog : Program) (w : World) (A : Around) (E : Value → Shared → Prop) (env : Env) (body orelse : PySem.Expr) (Q : Value → Shared → Prop) (c : Bool) (s : Shared) : Prop :=
  if c then wpAny (model prog w) A (eval body env) Q E s else wpAny (model prog w) A (eval orelse env) Q E s
theorem IfExp_two {test body orelse : PySem.Expr} {pos : Pos} (h : wpAny (model prog w) A (isTrue test env (eval test env)) (TwoPost prog w A E env body orelse Q) E s) : wpAny (model prog w) A (eval (.IfExp test body orelse pos) env) Q E s := IfExp_ h
theorem two_lists {h₀ : Heap} {L : Addr} {m : Str → Option Value} {news : List (Addr × Obj)} {c : Bool} {k1 k2} {p1 p2 p3 p4 : Pos} (F : Fr h₀ L s.heap m) (N : News h₀ L s.heap news)
    (h : ∀ l us cs n h' tk, Fr h₀ L h' m → News h₀ L h' ((l, listOf (List.toArray us) n) :: news) → (∀ p ∈ news, p.1 < l) → IntsAre us cs → (cs = [] ∨ cs = [254, 255]) → Q (.ref l) { s with heap := h', toks := tk }) :
    TwoPost prog w A E env (.List [.Constant (.int 254) k1 p1, .Constant (.int 255) k2 p2] p3) (.List [] p4) Q c s := by
  unfold TwoPost
  cases c with
  | true =>
    rw [if_pos rfl]
    refine List_ (spliced_more (wpAny_Constant_int (spliced_more (wpAny_Constant_int (spliced_none ?_)))))
    exact newList_K (s := { s with toks := s.toks + 1 + 1 }) F N fun l h' F' N' l1 => h l _ [254, 255] 0 h' _ F' N' l1 (.cons _ _ (.cons _ _ .nil)) (.inr rfl)
  | false =>
    rw [if_neg Bool.false_ne_true]
    refine List_ (spliced_none ?_)
    exact newList_K F N fun l h' F' N' l1 => h l _ [] 0 h' _ F' N' l1 .nil (.inl rfl)
end
/-! ### contracts as the law wants them -/
section
variable {w : World} {loose : List Str} {mean : ExcName → Option Value} {mg mb : Str → Option Value}
theorem octets_law {cs : List Int} {t : Tok} (hcs : ∀ c ∈ cs, SignOk c) (hl : cs.length ≤ 20) :
    Spec 16 w loose mean mg mb 40 [] [.str (KStt.txt cs) t] (fun r own' => (∃ b t, r = .bytes b t ∧ KBw.bInts b = octC cs) ∧ own' = []) := by
  have e : KStt.codes (KStt.txt cs) = cs := codes_txt fun c hc => (hcs c hc).1
  have h := octets_ok (w := w) (loose := loose) (mean := mean) (mg := mg) (mb := mb) (x := KStt.txt cs) (t := t) (by rw [txt_size]; omega) (by rw [e]; exact fun c hc => ⟨(hcs c hc).1, (hcs c hc).2.1⟩)
  rwa [e] at h
theorem text_law {b : Array UInt8} {tb : Tok} {ks : List Int} (hb : KBw.bInts b = ks) (hl : ks.length ≤ 1000) :
    Spec 16 w loose mean mg mb 45 [] [.bytes b tb] (fun r own' => (∃ t, r = .str (KStt.txt (textC ks)) t) ∧ (∀ c ∈ textC ks, 0 ≤ c) ∧ (KStt.txt (textC ks)).cps.size ≤ 100000 ∧ own' = []) :=
  Spec.mono (text_ok hb hl) fun r own' h => ⟨h.1, textC_in (fun k hk => by subst hb; exact KBw.ints_in hk), (by rw [txt_size]; have := textC_len ks; omega), h.2⟩
theorem back_law {b : Array UInt8} {tb : Tok} {cs : List Int} (hb : KBw.bInts b = octC cs) (hcs : ∀ c ∈ cs, SignOk c) (hl : cs.length ≤ 20) :
    Spec 16 w loose mean mg mb 45 [] [.bytes b tb] (fun r own' => (∃ t, r = .str (KStt.txt cs) t) ∧ own' = []) := by
  have h := text_ok (w := w) (loose := loose) (mean := mean) (mg := mg) (mb := mb) (tb := tb) hb (octC_len (by omega))
  rwa [textC_octC hcs] at h
end
section
variable {prog : Program} {w : World} {A : Around} {E : Value → Shared → Prop} {s : Shared} {Q : Value → Shared → Prop}
theorem ne_bytes_law {b c : Array UInt8} {t u : Tok} {ks : List Int} (hb : KBw.bInts b = ks) (hc : KBw.bInts c = ks) (h : Q (.bool false) s) : wpAny (model prog w) A (compareOp .NotEq (.bytes b t) (.bytes c u)) Q E s := by
  refine ne_bytes ?_
  rw [bInts_inj (hb.trans hc.symm), bne_self_eq_false]
  exact h
theorem ne_txt_law {x : Str} {t u : Tok} (h : Q (.bool false) s) : wpAny (model prog w) A (compareOp .NotEq (.str x t) (.str x u)) Q E s := by
  refine PyProof.Rows.ne_str ?_
  rw [bne_self_eq_false]
  exact h
theorem ne_ints_law {h₀ : Heap} {L a b : Addr} {news : List (Addr × Obj)} {vs us : List Value} {k j : Nat} {ns ms : List Int} (N : News h₀ L s.heap news) (ha : (a, listOf vs.toArray k) ∈ news) (hb : (b, listOf us.toArray j) ∈ news) (hi : IntsAre vs ns) (hj : IntsAre us ms) (e : ns = ms) (hu : A.units + 64 < cLine) (h : Q (.bool false) s) :
    wpAny (model prog w) A (compareOp .NotEq (.ref a) (.ref b)) Q E s :=
  ne_intsK (News.isList N ha) hi (News.isList N hb) hj hu (by rw [decide_eq_true e]; exact h)
theorem eq_ints_law {h₀ : Heap} {L a b : Addr} {news : List (Addr × Obj)} {vs us : List Value} {k j : Nat} {ns ms : List Int} (N : News h₀ L s.heap news) (ha : (a, listOf vs.toArray k) ∈ news) (hb : (b, listOf us.toArray j) ∈ news) (hi : IntsAre vs ns) (hj : IntsAre us ms) (e : ns = ms) (hu : A.units + 64 < cLine) (h : Q (.bool true) s) :
    wpAny (model prog w) A (compareOp .Eq (.ref a) (.ref b)) Q E s :=
  eq_intsK (News.isList N ha) hi (News.isList N hb) hj hu (by rw [decide_eq_true e]; exact h)
end
theorem ord_ints {l : List Int} {ys : List Value} (h : Each (fun c v => ∃ t, v = Value.int c t) (KStt.codes (KStt.txt l)) ys) (hl : ∀ c ∈ l, 0 ≤ c) : IntsAre ys l := by
  have := h.ints
  rwa [codes_txt hl, List.map_id'] at this
theorem chr_strs {cs : List Int} {ys : List Value} (h : Each (fun c v => ∃ t, v = Value.str (chS c) t) cs ys) : StrsAre ys (cs.map chS) := h.strs
theorem whole_in : ∀ x ∈ rangeKs 0 256, 0 ≤ x ∧ x < 256 := by decide +kernel
theorem whole_ks : stepKs 0 1 256 = rangeKs 0 256 := by decide +kernel
theorem whole_same : textC (rangeKs 0 256) = (stepKs 0 1 256).map fun k => kdfLook tabC k 65533 :=
  whole_ks ▸ (look_text (ks := rangeKs 0 256) (by decide +kernel) whole_in).symm

--deps: P26_lawb Dev
section
theorem law_holds : PySem.Challenge.rw_nn0192_01.Holds := by
  k_with_none
  k_with "own pick" => (first | exact Pick.head | (refine' Pick.tail ?ptq0; (case ptq0 => k_extra "own pick")))
  k_with "own picks" => (first | exact Picks.nil | (refine' Picks.cons ?ppq1 ?pqq1; (case ppq1 => k_extra "own pick"); (case pqq1 => k_extra "own picks")))
  k_with "own allin" => (with_unfolding_all ((try simp only [List.nil_append, List.cons_append]); k_allIn))
  k_with "own allin0" => (first | exact List.forall_mem_nil _ | k_extra "own allin")
  k_with "own same" => (intro z h1 h2; first | rfl | (simp [h1, h2]; done) | (simp_all; done))
  k_with "own same1" => (intro z h1; first | rfl | (simp [h1]; done) | (simp_all; done))
  k_with "own same3" => (intro z h1 h2 h3; first | rfl | (simp [h1, h2, h3]; done) | (simp_all; done))
  k_with "own for" => (k_here; (with_reducible rename Fr _ _ _ _ => lF'); (with_unfolding_all refine' For_invVF lF' ?k1q7 ?k2q7 ?_; (case k1q7 => exact rfl); (case k2q7 => exact rfl); k_whole))
  k_with "own apart" => (first | exact List.forall_mem_nil _ | (refine' apart_cons ?paq8 ?pbq8; (case paq8 => k_all); (case pbq8 => k_extra "own apart")))
  k_with "own after" => (intro N9 D9; (replace D9 := ApartL.of D9); (try simp only [ApartL, OffL, and_true] at D9); (try simp only [List.cons_append, List.nil_append] at N9); (try dsimp only); (try k_sweep); (try k_fold))
  k_with "own append" => (k_here; (try dsimp only [List.cons_append, List.nil_append]); (with_reducible show wpAny _ _ (call (Value.builtin _) [Value.ref _, Value.int _ _]) _ _ _); k_dflt (refine' app_ints ?k1q10 ?k2q10 ?k3q10 ?k4q10 ?k5q10 ?k6q10 ?_; (case k1q10 => k_asm); (case k2q10 => k_asm); (case k3q10 => k_updF); (case k4q10 => with_reducible assumption); (case k5q10 => with_reducible assumption); (case k6q10 => first | with_reducible assumption | omega); k_whole); intro us' h' hi' hl' F' N'; (try dsimp only at N'); (try k_sweep))
  k_with "own get" => (k_here; (try dsimp only [List.cons_append, List.nil_append]); (with_reducible show wpAny _ _ (call (Value.builtin "dict.get") [Value.ref _, Value.int _ _, Value.int _ _]) _ _ _); k_dflt (refine kdf_get2 (by k_tabat) ?_); intro _)
  k_with "own off" => ((try simp only [LCg.Off3, OffL, and_true]); k_extra "own offs")
  k_with "own offs" => (first | k_extra "own cj" | (with_reducible refine' And.intro ?oaq13 ?obq13; (case oaq13 => k_extra "own offs"); (case obq13 => k_extra "own offs")) | k_extra "own ne")
  k_with "own ne" => (first | k_extra "own ne0" | omega)
  k_with "own ne0" => (first | k_extra "own cj" | (with_reducible refine Ne.symm ?_; k_extra "own cj") | (with_reducible refine Nat.ne_of_lt ?_; k_extra "own cj") | (with_reducible refine Nat.ne_of_gt ?_; k_extra "own cj"))
  k_with "own cj" => (with_reducible first | assumption | exact cjl0 (by assumption) | exact cjr0 (by assumption) | exact cjl1 (by assumption) | exact cjr1 (by assumption) | exact cjl2 (by assumption) | exact cjr2 (by assumption) | exact cjl3 (by assumption) | exact cjr3 (by assumption) | exact cjl4 (by assumption) | exact cjr4 (by assumption) | exact cjl5 (by assumption) | exact cjr5 (by assumption) | exact cjl6 (by assumption) | exact cjr6 (by assumption) | exact cjl7 (by assumption) | exact cjr7 (by assumption) | exact cjl8 (by assumption) | exact cjr8 (by assumption) | exact cjl9 (by assumption) | exact cjr9 (by assumption) | exact cjl10 (by assumption) | exact cjr10 (by assumption) | exact cjl11 (by assumption) | exact cjr11 (by assumption))
  k_with "own kne" => (refine neN ?_; (try dsimp only); k_extra "own ne0")
  k_with "own turn" => (unfold CTurn; intro I' oI' C' oC' D' m' ys' h' tk' E' hC' hx' F' N' off' ne'; (try (simp only [LCg.Off3, and_true] at off')); (try dsimp only); k_fold)
  k_with "own listcomp" => (k_here; k_dflt (refine ListComp_M (F₀ := by k_asm) (by with_unfolding_all rfl) (by decide) (by rfl) (by decide) (by rfl) ?_))
  k_with "own alistcomp" => (k_here; k_dflt (refine Assign_ListComp_M (F₀ := by k_asm) (by rfl) (by with_unfolding_all rfl) (by with_unfolding_all rfl) (by decide) (by rfl) (by decide) (by rfl) (by rfl) (by rfl) ?_))
  k_with "eval ListComp" => k_extra "own listcomp"
  k_with "exec Assign cons ListComp" => k_extra "own alistcomp"
  k_with "CSrc" => (k_here; first | ((with_reducible show CSrc _ _ _ _ _ _ _ _ _ _ _ _ _ (Value.str _ _) _); k_dflt (refine' CSrc.text (fun c v => ∃ t, v = Value.int c t) rfl ?k2q23 ?k3q23 ?k4q23 ?_ ?_; (case k2q23 => k_asm); (case k3q23 => k_asm); (case k4q23 => with_reducible assumption)); all_goals (first | (intro c9 u9 g9 hc9; k_extra "own turn") | (intro ys9 g9 hy9; have hy9 := ord_ints hy9 (by with_reducible assumption)))) | ((with_reducible show CSrc _ _ _ _ _ _ _ _ _ _ _ _ _ (Value.ref _) _); (rename IsRange _ _ _ _ _ _ _ _ => rgX); k_dflt (refine' CSrc.range (n := 256) (fun c v => ∃ t, v = Value.int (kdfLook tabC c 65533) t) rfl ?k2q23 ?k3q23 rgX ?k4q23 ?k5q23 ?k6q23 ?_ ?_; (case k2q23 => k_asm); (case k3q23 => k_asm); (case k4q23 => decide +kernel); (case k5q23 => decide +kernel); (case k6q23 => decide)); all_goals (first | (intro c9 u9 g9 hc9; k_extra "own turn") | (intro ys9 g9 hy9; have hy9 := Each.ints hy9))) | ((with_reducible show CSrc _ _ _ _ _ _ _ _ _ _ _ _ _ (Value.ref _) _); (rename (∀ c ∈ _, SignOk c) => hcs8); k_dflt (refine' CSrc.list (fun c v => ∃ t, v = Value.str (chS c) t) rfl ?k2q23 ?k3q23 ?k4q23 ?k5q23 ?k6q23 ?_ ?_; (case k5q23 => with_reducible assumption); (case k2q23 => k_asm); (case k3q23 => k_asm); (case k4q23 => k_mem); (case k6q23 => exact le_hund (by with_reducible assumption))); all_goals (first | (intro c9 u9 g9 hc9; have hs1 := sg0 hcs8 hc9; have hs2 := sg1 hcs8 hc9; (try k_unmd); k_extra "own turn") | (intro ys9 g9 hy9; have hy9 := chr_strs hy9))) | ((with_reducible show CSrc _ _ _ _ _ _ _ _ _ _ _ _ _ (Value.ref _) _); k_dflt (refine' CSrc.list (fun c v => ∃ k t, v = Value.int k t ∧ 0 ≤ k) rfl ?k2q23 ?k3q23 ?k4q23 ?k5q23 ?k6q23 ?_ ?_; (case k5q23 => with_reducible assumption); (case k2q23 => k_asm); (case k3q23 => k_asm); (case k4q23 => k_mem); (case k6q23 => omega)); all_goals (first | (intro c9 u9 g9 hc9; k_extra "own turn") | (intro ys9 g9 hy9; obtain ⟨ks9, hi9, hpo9⟩ := pool_of hy9 (by omega)))))
  k_with "CompEnd" => first | k_dflt (exact LCg.CompEnd.intro (by k_asm) (by k_asm) _ (by kcf_all) (by first | assumption | k_extra "own off") (by first | trivial | k_mem) ⟨rfl, ⟨_, rfl⟩⟩) | k_dflt (exact LCg.CompEnd.intro (by k_asm) (by k_asm) _ (by kcf_all) (by first | assumption | k_extra "own off") (by k_mem) ⟨rfl, ⟨_, _, rfl, by (first | omega | exact Int.fmod_nonneg_of_pos _ (by decide))⟩⟩)
  k_with "call builtin:chr" => (k_here; (with_reducible show wpAny _ _ (call (Value.builtin "chr") [Value.int _ _]) _ _ _); k_dflt (refine' chr_of_range ?k1q25 ?k2q25 ?_; (case k1q25 => omega); (case k2q25 => omega); k_whole))
  k_with "call builtin:str.join" => (k_here; (try dsimp only [List.cons_append, List.nil_append]); (with_reducible show wpAny _ _ (call (Value.builtin _) [Value.str _ _, Value.ref _]) _ _ _); k_dflt (refine' join_K ?k1q26 ?k2q26 ?k3q26 ?k4q26 ?_; (case k1q26 => k_asm); (case k2q26 => k_mem); (case k3q26 => with_reducible assumption); (case k4q26 => exact le_join (by with_reducible assumption)); k_whole); intro _ _)
  k_with "call builtin:dict.get" => k_extra "own get"
  k_with "call builtin:list.append" => k_extra "own append"
  k_with "call ref" => first | (k_here; (with_reducible show wpAny _ _ (call (Value.ref 52) _) _ _ _); k_dflt (refine' Spec.use ?Bq29 ?Fq29 ?Xq29 ?Nq29 ?Tq29 (take_gives ?saq29 ?sbq29 ?scq29 ?sdq29) ?Pq29 ?Dq29 ?hkq29 ?hdq29 ?huq29 ?_; (case Bq29 | Fq29 | Xq29 | Nq29 | Tq29 => k_asm); (case sbq29 => with_reducible assumption); (case saq29 => with_reducible assumption); (case scq29 => decide); (case sdq29 => decide); (case Pq29 => k_extra "own picks"); (case Dq29 => k_extra "own apart"); (case hkq29 => first | exact rfl | assumption); (case hdq29 => ktr_room); (case huq29 => ktr_units)); intro r9 own9 h9 tk9 F9 N9 D9 hp9; (obtain ⟨⟨v9, t9, er9, hlo9, hhi9⟩, vs9, ns9, n9, hi9, hp9, eo9⟩ := hp9; subst er9; subst eo9); revert N9 D9; k_extra "own after") | (k_here; (with_reducible show wpAny _ _ (call (Value.ref 59) _) _ _ _); k_dflt (refine' Spec.use ?Bq29 ?Fq29 ?Xq29 ?Nq29 ?Tq29 (table_ok) ?Pq29 ?Dq29 ?hkq29 ?hdq29 ?huq29 ?_; (case Bq29 | Fq29 | Xq29 | Nq29 | Tq29 => k_asm);  (case Pq29 => k_extra "own picks"); (case Dq29 => k_extra "own apart"); (case hkq29 => first | exact rfl | assumption); (case hdq29 => ktr_room); (case huq29 => ktr_units)); intro r9 own9 h9 tk9 F9 N9 D9 hp9; (obtain ⟨d9, o9, kvs9, er9, eo9, lo9, hd9, hf9⟩ := hp9; subst er9; subst eo9); revert N9 D9; k_extra "own after") | (k_here; (with_reducible show wpAny _ _ (call (Value.ref 66) _) _ _ _); k_dflt (refine' Spec.use ?Bq29 ?Fq29 ?Xq29 ?Nq29 ?Tq29 (sign_ok ?saq29 ?sbq29 ?scq29 ?sdq29 ?seq29 ?sfq29) ?Pq29 ?Dq29 ?hkq29 ?hdq29 ?huq29 ?_; (case Bq29 | Fq29 | Xq29 | Nq29 | Tq29 => k_asm); (case sbq29 => with_reducible assumption); (case saq29 => with_reducible assumption); (case sdq29 => with_reducible assumption); (case seq29 => with_reducible assumption); (case sfq29 => with_reducible assumption); (case scq29 => omega); (case Pq29 => k_extra "own picks"); (case Dq29 => k_extra "own apart"); (case hkq29 => first | exact rfl | assumption); (case hdq29 => ktr_room); (case huq29 => ktr_units)); intro r9 own9 h9 tk9 F9 N9 D9 hp9; (obtain ⟨⟨v9, t9, er9, hs9⟩, vs9, ns9, n9, hi9, hp9, eo9⟩ := hp9; subst er9; subst eo9); revert N9 D9; k_extra "own after") | (k_here; (with_reducible show wpAny _ _ (call (Value.ref 40) _) _ _ _); k_dflt (refine' Spec.use ?Bq29 ?Fq29 ?Xq29 ?Nq29 ?Tq29 (octets_law ?saq29 ?sbq29) ?Pq29 ?Dq29 ?hkq29 ?hdq29 ?huq29 ?_; (case Bq29 | Fq29 | Xq29 | Nq29 | Tq29 => k_asm); (case saq29 => with_reducible assumption); (case sbq29 => with_reducible assumption); (case Pq29 => k_extra "own picks"); (case Dq29 => k_extra "own apart"); (case hkq29 => first | exact rfl | assumption); (case hdq29 => ktr_room); (case huq29 => ktr_units)); intro r9 own9 h9 tk9 F9 N9 D9 hp9; (obtain ⟨⟨b9, t9, er9, hb9⟩, eo9⟩ := hp9; subst er9; subst eo9); revert N9 D9; k_extra "own after") | (k_here; (with_reducible show wpAny _ _ (call (Value.ref 71) _) _ _ _); k_dflt (refine' Spec.use ?Bq29 ?Fq29 ?Xq29 ?Nq29 ?Tq29 (written_ok ?saq29 ?sbq29 ?scq29 ?sdq29 ?seq29 ?sfq29 ?sgq29) ?Pq29 ?Dq29 ?hkq29 ?hdq29 ?huq29 ?_; (case Bq29 | Fq29 | Xq29 | Nq29 | Tq29 => k_asm); (case scq29 => with_reducible assumption); (case saq29 => with_reducible assumption); (case sbq29 => with_reducible assumption); (case sdq29 => omega); (case seq29 => with_reducible assumption); (case sfq29 => with_reducible assumption); (case sgq29 => with_reducible assumption); (case Pq29 => k_extra "own picks"); (case Dq29 => k_extra "own apart"); (case hkq29 => first | exact rfl | assumption); (case hdq29 => ktr_room); (case huq29 => ktr_units)); intro r9 own9 h9 tk9 F9 N9 D9 hp9; (obtain ⟨⟨b9, t9, er9, hb9⟩, eo9⟩ := hp9; subst er9; subst eo9); revert N9 D9; k_extra "own after") | (k_here; (with_reducible show wpAny _ _ (call (Value.ref 45) _) _ _ _); k_dflt (refine' Spec.use ?Bq29 ?Fq29 ?Xq29 ?Nq29 ?Tq29 (back_law ?saq29 ?sbq29 ?scq29) ?Pq29 ?Dq29 ?hkq29 ?hdq29 ?huq29 ?_; (case Bq29 | Fq29 | Xq29 | Nq29 | Tq29 => k_asm); (case sbq29 => with_reducible assumption); (case saq29 => with_reducible assumption); (case scq29 => with_reducible assumption); (case Pq29 => k_extra "own picks"); (case Dq29 => k_extra "own apart"); (case hkq29 => first | exact rfl | assumption); (case hdq29 => ktr_room); (case huq29 => ktr_units)); intro r9 own9 h9 tk9 F9 N9 D9 hp9; (obtain ⟨⟨t9, er9⟩, eo9⟩ := hp9; subst er9; subst eo9); revert N9 D9; k_extra "own after") | (k_here; (with_reducible show wpAny _ _ (call (Value.ref 45) _) _ _ _); k_dflt (refine' Spec.use ?Bq29 ?Fq29 ?Xq29 ?Nq29 ?Tq29 (text_law ?saq29 ?sbq29) ?Pq29 ?Dq29 ?hkq29 ?hdq29 ?huq29 ?_; (case Bq29 | Fq29 | Xq29 | Nq29 | Tq29 => k_asm); (case saq29 => with_reducible assumption); (case sbq29 => first | exact le_big (by with_reducible assumption) | (rw [rangeKs_length]; decide)); (case Pq29 => k_extra "own picks"); (case Dq29 => k_extra "own apart"); (case hkq29 => first | exact rfl | assumption); (case hdq29 => ktr_room); (case huq29 => ktr_units)); intro r9 own9 h9 tk9 F9 N9 D9 hp9; (obtain ⟨⟨t9, er9⟩, hnn9, hsz9, eo9⟩ := hp9; subst er9; subst eo9); revert N9 D9; k_extra "own after") | (k_here; (with_reducible show wpAny _ _ (call (Value.ref 76) _) _ _ _); k_dflt (refine' Spec.useD ?Bq29 ?Fq29 ?Xq29 ?Nq29 ?Tq29 (lawread_ok ?saq29 ?sbq29 ?scq29 ?sdq29 ?seq29) ?Pq29 ?Oq29 ?Dq29 ?hkq29 ?hdq29 ?huq29 ?_; (case Bq29 | Fq29 | Xq29 | Nq29 | Tq29 => k_asm); (case saq29 => with_reducible assumption); (case sbq29 => exact le_big (by with_reducible assumption)); (case scq29 => with_reducible assumption); (case sdq29 => with_reducible assumption); (case seq29 => with_reducible assumption); (case Pq29 => (k_extra "own picks")); (case Oq29 => with_reducible assumption); (case Dq29 => (repeat' (with_reducible first | refine nd_cons_list ?_ | refine nd_cons_lst ?_ | refine nd_cons_cell (by assumption) ?_ | exact nd_nil))); (case hkq29 => first | exact rfl | assumption); (case hdq29 => ktr_room); (case huq29 => ktr_units)); intro r9 own9 h9 tk9 F9 N9 D9 hp9; ((obtain ⟨D9, us9, n9, er9, hi9, eo9⟩ := hp9; subst er9; subst eo9)); (clear D9); (try simp only [List.cons_append, List.nil_append] at N9); (try dsimp only); (try k_sweep); (try k_fold))
  k_with "exec For Name Call cons nil" => k_extra "own for"
  k_with "call type:range" => (k_here; (with_reducible show wpAny _ _ (call (Value.type "range") [Value.int _ _]) _ _ _); k_dflt (refine' range1_rows ?k1q31 ?k2q31 ?_; (case k1q31 => k_asm); (case k2q31 => k_asm)); intro h' tk' t1' u1' v1' hR' F' N' hk')
  k_with "eval IfExp" => (k_here; (with_reducible refine IfExp_two ?_))
  k_with "TwoPost" => (k_dflt (refine' two_lists ?k1q33 ?k2q33 ?_; (case k1q33 => k_asm); (case k2q33 => k_asm)); intro l9 us9 cs9 n9 h9 tk9 F9 N9 l8 hi9 hc9; (try k_lt l8); (try k_sweep))
  k_with "LpPost" => dsimp only [LpPost]
  k_with "pyIter ref" => (k_here; (rename IsRange _ _ _ _ _ _ _ _ => rgX); first | ((with_unfolding_all refine' lp2 (Str.ofString "pool") (Str.ofString "row") J2 ?Fq35 ?Nq35 rgX ?zq35 ?nnq35 ?m1q35 ?m2q35 ?Pq35 ?iq35 ?jq35 ?Jq35 rfl ?_ ?_; (case Fq35 => k_asm); (case Nq35 => k_asm); (case zq35 => exact (Int.toNat_of_nonneg (by omega)).symm); (case nnq35 => omega); (case m1q35 => rfl); (case m2q35 => rfl); (case Pq35 => (k_extra "own picks")); (case iq35 => with_reducible assumption); (case jq35 => with_reducible assumption); (case Jq35 => exact J2.start (by with_reducible assumption) (by with_reducible assumption))); all_goals (first | (intro i9 t9 vs9 ns9 k9 us9 cs9 j9 I9 oI9 h9 tk9 hin9 hv9 hu9 hj9 hoff9 F9 N9; (try simp only [OffL, and_true] at hoff9); (have hpo9 := J2.pool hj9); (have hln9 := J2.len hj9); (have hlt9 := le_turn hin9 (by omega)); (try clear lF'); (try k_unmd); k_fold) | (intro q9 vs9 ns9 k9 us9 cs9 j9 h9 tk9 hv9 hu9 hj9 F9 N9; (have hpo9 := J2.pool hj9); (have hoc9 := J2.octs hj9); (have hln9 := J2.len20 hj9 (by omega)); (try clear lF'); (try dsimp only)))) | ((with_unfolding_all refine' lp2 (Str.ofString "pool") (Str.ofString "codes") J1 ?Fq35 ?Nq35 rgX ?zq35 ?nnq35 ?m1q35 ?m2q35 ?Pq35 ?iq35 ?jq35 ?Jq35 rfl ?_ ?_; (case Fq35 => k_asm); (case Nq35 => k_asm); (case zq35 => exact (Int.toNat_of_nonneg (by omega)).symm); (case nnq35 => omega); (case m1q35 => rfl); (case m2q35 => rfl); (case Pq35 => (k_extra "own picks")); (case iq35 => with_reducible assumption); (case jq35 => with_reducible assumption); (case Jq35 => exact J1.start (by with_reducible assumption) (by with_reducible assumption))); all_goals (first | (intro i9 t9 vs9 ns9 k9 us9 cs9 j9 I9 oI9 h9 tk9 hin9 hv9 hu9 hj9 hoff9 F9 N9; (try simp only [OffL, and_true] at hoff9); (have hpo9 := J1.pool hj9); (have hln9 := J1.len hj9); (have hlt9 := le_turn hin9 (by omega)); (try clear lF'); (try k_unmd); k_fold) | (intro q9 vs9 ns9 k9 us9 cs9 j9 h9 tk9 hv9 hu9 hj9 F9 N9; (have hpo9 := J1.pool hj9); (have hcs9 := J1.signs hj9); (have hln9 := J1.len20 hj9 (by omega)); (try clear lF'); (try dsimp only)))))
  k_with "LpEnd" => first | k_dflt (exact LpEnd.intro _ (by k_asm) ⟨⟨_, _, _, _, _, _, rfl, J1.fin (by with_reducible assumption) (by with_reducible assumption) (by with_reducible assumption) (by with_reducible assumption) (by with_reducible assumption)⟩, (by k_extra "own same1")⟩ (by k_asm) (by k_memK) (by k_extra "own allin") (by k_all) (by k_extra "own allin0")) | k_dflt (exact LpEnd.intro _ (by k_asm) ⟨⟨_, _, _, _, _, _, rfl, J2.fin (by with_reducible assumption) (by with_reducible assumption) (by with_reducible assumption) (by with_reducible assumption) (by exact menu4 (by omega) (by omega) _)⟩, (by k_extra "own same1")⟩ (by k_asm) (by k_memK) (by k_extra "own allin") (by k_all) (by k_extra "own allin0"))
  k_with "call type:bytes" => (k_here; (with_reducible show wpAny _ _ (call (Value.type "bytes") [Value.ref _]) _ _ _); first | (k_dflt (refine' KBa.make_K ?kbaFq37 ?kbaNq37 ?kbahq37 ?kbalq37 ?kbaiq37 ?kbarq37 ?kbanq37 ?_; (case kbaFq37 => k_asm); (case kbaNq37 => k_asm); (case kbahq37 => rfl); (case kbalq37 => exact News.isList (by k_asm) (by k_mem)); (case kbaiq37 => with_reducible assumption); (case kbarq37 => with_reducible assumption); (case kbanq37 => exact le_bytes (by with_reducible assumption))); intro h' t' k' F' N' hIn9; have hIn9 := KBa.ints_make hIn9) | ((rename IsRange _ _ _ _ _ _ _ _ => rgX); k_dflt (refine' octs_range_K (n := 256) ?k1q37 ?k2q37 rfl rgX ?k4q37 ?k5q37 ?k6q37 ?_; (case k1q37 => k_asm); (case k2q37 => k_asm); (case k4q37 => decide +kernel); (case k5q37 => decide +kernel); (case k6q37 => decide)); intro h' t' k' F' N' hIn9))
  k_with "compareOp NotEq bytes bytes" => (k_here; k_dflt (refine' ne_bytes_law ?k1q38 ?k2q38 ?_; (case k1q38 => with_reducible assumption); (case k2q38 => with_reducible assumption)))
  k_with "compareOp NotEq str str" => (k_here; k_dflt (refine ne_txt_law ?_))
  k_with "compareOp NotEq ref ref" => (k_here; k_dflt (refine' ne_ints_law ?k1q40 ?k2q40 ?k3q40 ?k4q40 ?k5q40 ?k6q40 ?k7q40 ?_; (case k1q40 => k_asm); (case k2q40 => k_mem); (case k3q40 => k_mem); (case k4q40 => with_reducible assumption); (case k5q40 => with_reducible assumption); (case k6q40 => exact whole_same); (case k7q40 => units_room)))
  k_with "compareOp Eq ref ref" => (k_here; k_dflt (refine' eq_ints_law ?k1q41 ?k2q41 ?k3q41 ?k4q41 ?k5q41 ?k6q41 ?k7q41 ?_; (case k1q41 => k_asm); (case k2q41 => k_mem); (case k3q41 => k_mem); (case k4q41 => with_reducible assumption); (case k5q41 => with_reducible assumption); (case k6q41 => rfl); (case k7q41 => units_room)))
  refine hd ?_
  w_on
  w_strict (k_go0; (all_goals try k_fold); k_steps)
end

end Mine
theorem PySem.Challenge.cw_nn0192_01_holds : PySem.Challenge.rw_nn0192_01.Holds := by
  exact Mine.law_holds
