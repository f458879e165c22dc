import PyProof.Rows.All
import Wide.All
import OpenK.AllK
import Wide.FinOn
import Lean
import PySem.Challenge.RW_nn0192_01
open PySem PySem.W PyProof.Rows
set_option Elab.async false
namespace Mine
set_option maxRecDepth 100000
set_option maxHeartbeats 8000000
set_option rowWalk.seconds 0
open_top hd for PySem.Challenge.rw_nn0192_01

set_option maxRecDepth 100000
set_option maxHeartbeats 8000000
set_option rowWalk.seconds 0
set_option linter.unusedVariables false
example (w : World) : PySem.Challenge.rw_nn0192_01.row.prog = PySem.Challenge.rw_nn0192_01.row.prog ∧ hd.heap_39 w.params = hd.heap_39 w.params := by
  k_fill
  exact ⟨rfl, rfl⟩
--deps: P00_head
theorem ints_len {vs : List Value} {ns : List Int} (h : IntsAre vs ns) : vs.length = ns.length := h.length

/-- `p` picked out of a ledger: the rest -/
inductive Pick : Addr × Obj → List (Addr × Obj) → List (Addr × Obj) → Prop
  | head {p r} : Pick p (p :: r) r
  | tail {p q r r'} : Pick p r r' → Pick p (q :: r) (q :: r')
inductive Picks : List (Addr × Obj) → List (Addr × Obj) → List (Addr × Obj) → Prop
  | nil {r} : Picks [] r r
  | cons {p own r r' r''} : Pick p r r' → Picks own r' r'' → Picks (p :: own) r r''
theorem Pick.mem {p : Addr × Obj} {l r : List (Addr × Obj)} (h : Pick p l r) : p ∈ l ∧ ∀ q ∈ r, q ∈ l := by
  induction h with
  | head => exact ⟨.head _, fun q hq => .tail _ hq⟩
  | tail _ ih => exact ⟨.tail _ ih.1, fun q hq => by
      rcases List.mem_cons.mp hq with h | h
      · rw [h]; exact .head _
      · exact .tail _ (ih.2 q h)⟩
theorem Picks.mem {own l r : List (Addr × Obj)} (h : Picks own l r) : ∀ q ∈ own ++ r, q ∈ l := by
  induction h with
  | nil => exact fun q hq => hq
  | cons hp _ ih =>
    intro q hq
    rcases List.mem_cons.mp hq with h | h
    · rw [h]; exact hp.mem.1
    · exact hp.mem.2 q (ih q h)

/-- what a call of a def does, over any caller: of the ledger it has `own`; `post` speaks of the value and of what stands in `own`'s stead -/
def Spec (lv : Nat) (w : World) (loose : List Str) (mean : ExcName → Option Value) (mg mb : Str → Option Value) (f : Addr) (own : List (Addr × Obj)) (args : List Value) (post : Value → List (Addr × Obj) → Prop) : Prop :=
  ∀ (dp un : Nat) (gd : Option (List Code)) (cn : Str) (cs : Scope) (a : Addr) (ccd : Value) (cl : List (Str × Addr)) (outer : List Env) (A₀ : Around) (base h₀ : Heap) (L : Addr) (m : Str → Option Value) (rest : List (Addr × Obj)) (s : Shared) (Q E : Value → Shared → Prop),
    Below A₀ base outer h₀ → Fr h₀ L s.heap m → (hd.heap_39 w.params).In h₀ → News h₀ L s.heap (own ++ rest) → (∀ p ∈ own, ∀ q ∈ rest, p.1 ≠ q.1) → Top hd.view_39 loose mean mg mb h₀ → cs.kind = .function →
    dp + lv < recursionLimit → un + 8 * lv < cLine →
    (∀ r own' h' tk', Fr h₀ L h' m → News h₀ L h' (own' ++ rest) → (∀ p ∈ own', ∀ q ∈ rest, p.1 ≠ q.1) → post r own' → Q r { s with heap := h', toks := tk' }) →
    wpAny (model PySem.Challenge.rw_nn0192_01.row.prog w) (ktrTop dp un gd cn cs L a ccd cl outer) (call (.ref f) args) Q E s

section
variable {lv : Nat} {w : World} {loose : List Str} {mean : ExcName → Option Value} {mg mb : Str → Option Value} {f : Addr} {own led rest : List (Addr × Obj)} {args : List Value} {post : Value → List (Addr × Obj) → Prop}
theorem Spec.use {dp un : Nat} {gd : Option (List Code)} {cn : Str} {cs : Scope} {a : Addr} {ccd : Value} {cl : List (Str × Addr)} {outer : List Env} {A₀ : Around} {base h₀ : Heap} {L : Addr} {m : Str → Option Value} {s : Shared} {Q E : Value → Shared → Prop}
    (B : Below A₀ base outer h₀) (F : Fr h₀ L s.heap m) (X : (hd.heap_39 w.params).In h₀) (N : News h₀ L s.heap led) (T : Top hd.view_39 loose mean mg mb h₀) (S : Spec lv w loose mean mg mb f own args post)
    (P : Picks own led rest) (D : ∀ p ∈ own, ∀ q ∈ rest, p.1 ≠ q.1) (hk : cs.kind = .function) (hd : dp + lv < recursionLimit) (hu : un + 8 * lv < cLine)
    (h : ∀ r own' h' tk', Fr h₀ L h' m → News h₀ L h' (own' ++ rest) → (∀ p ∈ own', ∀ q ∈ rest, p.1 ≠ q.1) → post r own' → Q r { s with heap := h', toks := tk' }) :
    wpAny (model PySem.Challenge.rw_nn0192_01.row.prog w) (ktrTop dp un gd cn cs L a ccd cl outer) (call (.ref f) args) Q E s :=
  S dp un gd cn cs a ccd cl outer A₀ base h₀ L m rest s Q E B F X (fun p hp => N p (P.mem p hp)) D T hk hd hu h

theorem Spec.mono {post' : Value → List (Addr × Obj) → Prop} (S : Spec lv w loose mean mg mb f own args post) (hp : ∀ r own', post r own' → post' r own') : Spec lv w loose mean mg mb f own args post' :=
  fun dp un gd cn cs a ccd cl outer A₀ base h₀ L m rest s Q E B F X N D T hk hd hu h => S dp un gd cn cs a ccd cl outer A₀ base h₀ L m rest s Q E B F X N D T hk hd hu fun r own' h' tk' F' N' D' p => h r own' h' tk' F' N' D' (hp r own' p)

variable {name qual : Str} {params : Arguments} {body : List Stmt} {scope : Scope} {dV kV doc pm cdv ct oc : Value} {an od : Option Addr} {osl : Array (Option Value)} {binds : List (Str × Value)}
theorem spec_of (ho : (hd.heap_39 w.params).lookup f = some ⟨oc, od, .func (fnOf name qual params body scope dV kV doc pm an cdv ct), osl⟩) (hcd : codeIn (hd.heap_39 w.params) cdv qual = true)
    (hbind : ∀ s : Shared, BindsTo s (fnOf name qual params body scope dV kV doc pm an cdv ct) ⟨args, []⟩ binds) (hloc : ∀ y ∈ binds, scope.names.lookup y.1 = some .local)
    (hco : scope.isCoroutine = false) (hgen : scope.isGenerator = false) (hk : scope.kind = .function) (hcell : ∀ x ∈ scope.names, x.2 ≠ .cell) (hlv : 1 ≤ lv)
    (hb : ∀ (dp un : Nat) (gd : Option (List Code)) (cn : Str) (cs : Scope) (L a : Addr) (ccd : Value) (cl : List (Str × Addr)) (outer : List Env) (base g : Heap) (L' : Addr) (h₁ : Heap) (s : Shared) (tk : Nat) (Q : Flow → Shared → Prop) (E : Value → Shared → Prop),
      Below (ktrTop dp un gd cn cs L a ccd cl outer) base (envX cn cs L a ccd cl :: outer) g → cs.kind = .function → Fr g L' h₁ (fun y => binds.reverse.lookup y) → News g L' h₁ own → (hd.heap_39 w.params).In g → Top hd.view_39 loose mean mg mb g →
      dp + lv < recursionLimit → un + 8 * lv < cLine →
      (∀ r own' h' tk' m', Fr g L' h' m' → News g L' h' own' → post r own' → Q (.ret r) { s with heap := h', toks := tk' }) →
      wpAny (model PySem.Challenge.rw_nn0192_01.row.prog w) ((ktrTop dp un gd cn cs L a ccd cl outer).deeper (envOf qual scope L' f cdv)) (execs body (envOf qual scope L' f cdv)) Q
        (fun e s' => wpAny (model PySem.Challenge.rw_nn0192_01.row.prog w) ((ktrTop dp un gd cn cs L a ccd cl outer).deeper (envOf qual scope L' f cdv)) (leaving (envOf qual scope L' f cdv) e) (fun _ s'' => E e s'') (fun e' s'' => E e' s'') s') { s with heap := h₁, toks := tk }) :
    Spec lv w loose mean mg mb f own args post := by
  intro dp un gd cn cs a ccd cl outer A₀ base h₀ L m rest s Q E B F X N D T hkc hd hu h
  have N₁ : News h₀ L s.heap own := fun p hp => N p (List.mem_append_left _ hp)
  have hrest : ∀ p ∈ rest, (hideAll s.heap (own.map (·.1))).get? p.1 = some p.2 := fun p hp =>
    hideAll_get _ (N p (List.mem_append_right _ hp)).1 fun hq => by
      obtain ⟨q, hq1, hq2⟩ := List.mem_map.mp hq
      exact D q hq1 p hp hq2
  obtain ⟨FG, BG, st, lv'⟩ := groundX (R := fun r s' => match r with | .ok (.ret v) => Q v s' | .ok _ => False | .error e => E e s') B F N₁ (A := ktrTop dp un gd cn cs L a ccd cl outer) (env := envX cn cs L a ccd cl) rfl rfl hkc
  have hdep : (ktrTop dp un gd cn cs L a ccd cl outer).depth < recursionLimit := by
    show dp < recursionLimit
    omega
  refine wpAny_call (codeAny_call_def (fd := fnOf name qual params body scope dV kV doc pm an cdv ct) (body := body) (binds := binds) hdep ((X.keeps F.keep) _ _ ho) rfl (T.nolimit.keeps F.keep) (codeRec_of (X.keeps F.keep) hcd) rfl (hbind s) hcell hloc (fun h₁ hns hk₁ => ?_) hco hgen hk)
  refine wpAny_mono (hb dp un gd cn cs L a ccd cl outer base _ s.heap.objs.size h₁ s (s.toks + binds.length) (fun fl s' => LeaveK h₀ L m (hideAll s.heap (own.map (·.1))) (fun r s' => match r with | .ok (.ret v) => Q v s' | .ok _ => False | .error e => E e s') (match fl with | .ret v => v | _ => .none) s') E BG hkc ⟨hns, fun b o e => hk₁ b o (of_hideAll _ e), Nat.le_of_eq (hideAll_size _ _)⟩
    (fun p hp => ⟨hk₁ _ _ (N₁ p hp).1, Nat.ne_of_lt (Heap.lt_size (N₁ p hp).1), hideAll_none _ (List.mem_map_of_mem hp)⟩) (X.keeps st) (T.keeps st) hd hu ?_) (fun fl s' hl => lv' _ _ hl) fun _ _ y => y
  intro r own' h' tk' m' F' N' hp
  refine ⟨_, _, _, F', N', fun F'' N'' => ?_⟩
  refine h r own' h' tk' F'' ?_ ?_ hp
  · intro p hp
    rcases List.mem_append.mp hp with q | q
    · exact N'' p q
    · exact ⟨F'.keep _ _ (hrest p q), (N p (List.mem_append_right _ q)).2⟩
  · intro p hp q hq e
    have h1 := (N' p hp).2.2
    rw [e, hrest q hq] at h1
    cases h1

theorem spec_ofC (ho : (hd.heap_39 w.params).lookup f = some ⟨oc, od, .func (fnOf name qual params body scope dV kV doc pm an cdv ct), osl⟩) (hcd : codeIn (hd.heap_39 w.params) cdv qual = true)
    (hbind : ∀ s : Shared, BindsTo s (fnOf name qual params body scope dV kV doc pm an cdv ct) ⟨args, []⟩ binds) (hkind : (binds.all fun y => scope.names.lookup y.1 == some .local || scope.names.lookup y.1 == some .cell) = true)
    (hnd : ((cellsFrom 0 scope.names []).map (·.1)).Nodup)
    (hco : scope.isCoroutine = false) (hgen : scope.isGenerator = false) (hk : scope.kind = .function) (hlv : 1 ≤ lv)
    (hb : ∀ (dp un : Nat) (gd : Option (List Code)) (cn : Str) (cs : Scope) (L a : Addr) (ccd : Value) (cl : List (Str × Addr)) (outer : List Env) (base g : Heap) (L' : Addr) (h₁ : Heap) (cells : List (Addr × Obj)) (s : Shared) (tk : Nat) (Q : Flow → Shared → Prop) (E : Value → Shared → Prop),
      Below (ktrTop dp un gd cn cs L a ccd cl outer) base (envX cn cs L a ccd cl :: outer) g → cs.kind = .function → Fr g L' h₁ (bindL (envOfC qual scope L' f cdv).kindOf binds fun _ => none) → News g L' h₁ (cells ++ own) →
      CellsAre (bindC (envOfC qual scope L' f cdv).kindOf binds fun _ => none) (cellsFrom (L' + 1) scope.names []) cells → (∀ p ∈ own, p.1 < L') → (hd.heap_39 w.params).In g → Top hd.view_39 loose mean mg mb g →
      dp + lv < recursionLimit → un + 8 * lv < cLine →
      (∀ r own' h' tk' m', Fr g L' h' m' → News g L' h' own' → post r own' → Q (.ret r) { s with heap := h', toks := tk' }) →
      wpAny (model PySem.Challenge.rw_nn0192_01.row.prog w) ((ktrTop dp un gd cn cs L a ccd cl outer).deeper (envOfC qual scope L' f cdv)) (execs body (envOfC qual scope L' f cdv)) Q
        (fun e s' => wpAny (model PySem.Challenge.rw_nn0192_01.row.prog w) ((ktrTop dp un gd cn cs L a ccd cl outer).deeper (envOfC qual scope L' f cdv)) (leaving (envOfC qual scope L' f cdv) e) (fun _ s'' => E e s'') (fun e' s'' => E e' s'') s') { s with heap := h₁, toks := tk }) :
    Spec lv w loose mean mg mb f own args post := by
  intro dp un gd cn cs a ccd cl outer A₀ base h₀ L m rest s Q E B F X N D T hkc hd hu h
  have N₁ : News h₀ L s.heap own := fun p hp => N p (List.mem_append_left _ hp)
  have hrest : ∀ p ∈ rest, (hideAll s.heap (own.map (·.1))).get? p.1 = some p.2 := fun p hp =>
    hideAll_get _ (N p (List.mem_append_right _ hp)).1 fun hq => by
      obtain ⟨q, hq1, hq2⟩ := List.mem_map.mp hq
      exact D q hq1 p hp hq2
  obtain ⟨FG, BG, st, lv'⟩ := groundX (R := fun r s' => match r with | .ok (.ret v) => Q v s' | .ok _ => False | .error e => E e s') B F N₁ (A := ktrTop dp un gd cn cs L a ccd cl outer) (env := envX cn cs L a ccd cl) rfl rfl hkc
  have hdep : (ktrTop dp un gd cn cs L a ccd cl outer).depth < recursionLimit := by
    show dp < recursionLimit
    omega
  refine wpAny_call (codeAny_call_function hdep ((X.keeps F.keep) _ _ ho) rfl hco hgen rfl (codeRec_of (X.keeps F.keep) hcd) (hbind s _ _ _ _ ?_))
  refine wpAny_newFunctionEnv_cells hk (kindsX hkind _) fun env' he s' x => ?_
  subst he
  refine ⟨(T.nolimit.keeps F.keep).keeps x.toInCall.keep, codeAny_func ?_⟩
  obtain ⟨h₁, tk, rfl, _⟩ := x.done
  have hk₁ := x.toInCall.keep
  obtain ⟨cells, NC, Y⟩ := Cl.news (h₀ := s.heap) (Nat.le_refl _) fun n c hm => ⟨x.cell n c (lookup_of_mem_nodup (cellsFrom_names scope.names 0 (s.heap.objs.size + 1) [] [] rfl ▸ hnd) hm), x.above n c hm⟩
  refine wpAny_mono (hb dp un gd cn cs L a ccd cl outer base _ s.heap.objs.size h₁ cells s tk (fun fl s' => LeaveK h₀ L m (hideAll s.heap (own.map (·.1))) (fun r s' => match r with | .ok (.ret v) => Q v s' | .ok _ => False | .error e => E e s') (match fl with | .ret v => v | _ => .none) s') E BG hkc ⟨x.toInCall.ns, fun b o e => hk₁ b o (of_hideAll _ e), Nat.le_of_eq (hideAll_size _ _)⟩
    (fun p hp => ?_) Y (fun p hp => Heap.lt_size (N₁ p hp).1) (X.keeps st) (T.keeps st) hd hu ?_) (fun fl s' hl => lv' _ _ hl) fun _ _ y => y
  · rcases List.mem_append.mp hp with hp | hp
    · refine ⟨(NC p hp).1, (NC p hp).2.1, ?_⟩
      cases q : (hideAll s.heap (own.map (·.1))).get? p.1 with
      | none => rfl
      | some o => have := of_hideAll _ q; rw [(NC p hp).2.2] at this; cases this
    · exact ⟨hk₁ _ _ (N₁ p hp).1, Nat.ne_of_lt (Heap.lt_size (N₁ p hp).1), hideAll_none _ (List.mem_map_of_mem hp)⟩
  intro r own' h' tk' m' F' N' hp
  refine ⟨_, _, _, F', N', fun F'' N'' => ?_⟩
  refine h r own' h' tk' F'' ?_ ?_ hp
  · intro p hp
    rcases List.mem_append.mp hp with q | q
    · exact N'' p q
    · exact ⟨F'.keep _ _ (hrest p q), (N p (List.mem_append_right _ q)).2⟩
  · intro p hp q hq e
    have h1 := (N' p hp).2.2
    rw [e, hrest q hq] at h1
    cases h1
end

theorem News.one {h₀ : Heap} {L : Addr} {h : Heap} {led : List (Addr × Obj)} {p : Addr × Obj} (N : News h₀ L h led) (hp : p ∈ led) : News h₀ L h [p] := fun q hq => (List.mem_singleton.mp hq) ▸ N p hp
/-! ### the pool -/
def takeVal : List Int → Int → Int
  | [], _ => 0
  | d :: _, k => d % k
def takeRest : List Int → Int → List Int
  | [], _ => []
  | d :: r, k => if d / k = 0 then r else (d / k) :: r
def PoolOk (ns : List Int) : Prop := (∀ x ∈ ns, 0 ≤ x) ∧ ns.length ≤ 24
theorem takeVal_lo {ns : List Int} {k : Int} (hk : 1 ≤ k) : 0 ≤ takeVal ns k := by
  cases ns with
  | nil => exact Int.le_refl 0
  | cons d r => exact Int.emod_nonneg _ (by omega)
theorem takeVal_hi {ns : List Int} {k : Int} (hk : 1 ≤ k) : takeVal ns k < k := by
  cases ns with
  | nil => show (0 : Int) < k; omega
  | cons d r => exact Int.emod_lt_of_pos _ (by omega)
theorem takeRest_ok {ns : List Int} {k : Int} (hk : 1 ≤ k) (h : PoolOk ns) : PoolOk (takeRest ns k) := by
  cases ns with
  | nil => exact h
  | cons d r =>
    obtain ⟨h1, h2⟩ := h
    have hd := h1 d (.head _)
    simp only [List.length_cons] at h2
    simp only [takeRest]
    split
    · exact ⟨fun x hx => h1 x (.tail _ hx), by omega⟩
    · refine ⟨fun x hx => ?_, by simp only [List.length_cons]; omega⟩
      rcases List.mem_cons.mp hx with rfl | hx
      · exact Int.ediv_nonneg hd (by omega)
      · exact h1 x (.tail _ hx)

theorem pop0 {prog : Program} {w : World} {A : Around} {E : Value → Shared → Prop} {s : Shared} {h₀ : Heap} {L D : Addr} {m : Str → Option Value} {news news' : List (Addr × Obj)} {n : Nat} {y : Value} {q : List Value} {u : Tok} {Q : Value → Shared → Prop}
    (F : Fr h₀ L s.heap m) (N : News h₀ L s.heap news) (U : Upd D (listOf (y :: q).toArray n) (listOf q.toArray (n + 1)) news news') (hz : q.length < 1000)
    (h : ∀ h', Fr h₀ L h' m → News h₀ L h' news' → Q y { s with heap := h' }) : wpAny (model prog w) A (call (.builtin "list.pop") [.ref D, .int 0 u]) Q E s :=
  kl_popAt F N (k := 0) (p := []) (q := q) rfl (by simp [seqIndex?]) rfl U (by rw [sizeLine_eq]; simp; omega) h
section
local macro_rules | `(tactic| walk_at "call builtin:list.pop") => `(tactic| (k_here; (try simp only [List.cons_append, List.nil_append]); (with_reducible show wpAny _ _ (call (Value.builtin _) [Value.ref _, Value.int _ _]) _ _ _); k_dflt (refine' pop0 ?F ?N ?U ?z ?_; (case F => k_asm); (case N => k_asm); (case U => k_upd); (case z => omega); k_whole); intro h' F' N'; (try dsimp only at N'); (try k_sweep)))
local macro_rules | `(tactic| walk_at "call builtin:len") => `(tactic| (k_here; (with_reducible show wpAny _ _ (call (Value.builtin "len") [Value.ref _]) _ _ _); k_dflt (refine' len_list ?k1 ?k2 ?_; (case k1 => exact News.isList (by k_asm) (by k_mem)); (case k2 => simp only [List.size_toArray, List.length_cons, List.length_append, List.length_nil]; omega); k_whole); (try simp only [List.size_toArray, List.length_cons])))
theorem take_nil {w : World} {loose : List Str} {mean : ExcName → Option Value} {mg mb : Str → Option Value} {l : Addr} {n : Nat} {k : Int} {t : Tok} :
    Spec 8 w loose mean mg mb 52 [(l, listOf #[] n)] [.ref l, .int k t] (fun r own' => (∃ t, r = .int 0 t) ∧ own' = [(l, listOf #[] n)]) := by
  w_on
  w_strict (refine' spec_of (binds := [(Str.ofString "pool", .ref l), (Str.ofString "many", .int k t)]) (by k_is) (by k_is) (fun s => BindsTo.of_eq rfl) (locs rfl) rfl rfl rfl (by decide) (by decide) ?_; intro dp un gd cn cs L a ccd cl outer base g L' h₁ s tk Q E B hk F N X T hd hu hret; (try k_fold); k_steps; exact hret _ _ _ _ _ (by assumption) (by assumption) ⟨⟨_, rfl⟩, rfl⟩)
theorem take_cons {w : World} {loose : List Str} {mean : ExcName → Option Value} {mg mb : Str → Option Value} {l : Addr} {n : Nat} {k : Int} {t : Tok}
   {d : Int} {td : Tok} {vs : List Value} {ns : List Int} (hr : IntsAre vs ns) (hv : IntsAre (.int d td :: vs) (d :: ns)) (hd0 : 0 ≤ d) (hk1 : 1 ≤ k) (hlen : vs.length < 100) (hkb : k ≤ 1048576) :
    Spec 8 w loose mean mg mb 52 [(l, listOf (Value.int d td :: vs).toArray n)] [.ref l, .int k t] (fun r own' => (∃ t, r = .int (d % k) t) ∧ ∃ vs' n', IntsAre vs' (takeRest (d :: ns) k) ∧ own' = [(l, listOf vs'.toArray n')]) := by
  have e1 : d.fdiv k = d / k := Int.fdiv_eq_ediv_of_nonneg _ (by omega)
  have e2 : d.fmod k = d % k := Int.fmod_eq_emod_of_nonneg _ (by omega)
  w_on
  w_strict (refine' spec_of (binds := [(Str.ofString "pool", .ref l), (Str.ofString "many", .int k t)]) (by k_is) (by k_is) (fun s => BindsTo.of_eq rfl) (locs rfl) rfl rfl rfl (by decide) (by decide) ?_; intro dp un gd cn cs L a ccd cl outer base g L' h₁ s tk Q E B hk F N X T hd hu hret; (try k_fold); k_steps)
  · exfalso; omega
  · have hz' : d / k = 0 := by rw [← e1]; assumption
    refine hret _ _ _ _ _ (by assumption) (by assumption) ⟨⟨_, congrArg (fun x => Value.int x _) e2⟩, vs, _, ?_, rfl⟩
    simp only [takeRest, if_pos hz']; exact hr
  · have hz' : ¬ d / k = 0 := by rw [← e1]; assumption
    refine hret _ _ _ _ _ (by assumption) (by assumption) ⟨⟨_, congrArg (fun x => Value.int x _) e2⟩, Value.int (d.fdiv k) _ :: vs, _, ?_, rfl⟩
    rw [show takeRest (d :: ns) k = d.fdiv k :: ns from by simp only [takeRest, if_neg hz', e1]]; exact .cons _ _ hr
end
theorem take_ok {w : World} {loose : List Str} {mean : ExcName → Option Value} {mg mb : Str → Option Value} {l : Addr} {n : Nat} {k : Int} {t : Tok} {vs : List Value} {ns : List Int} (hv : IntsAre vs ns) (hp : PoolOk ns) (hk1 : 1 ≤ k) (hkb : k ≤ 1048576) :
    Spec 8 w loose mean mg mb 52 [(l, listOf vs.toArray n)] [.ref l, .int k t] (fun r own' => (∃ t, r = .int (takeVal ns k) t) ∧ ∃ vs' n', IntsAre vs' (takeRest ns k) ∧ own' = [(l, listOf vs'.toArray n')]) := by
  cases hv with
  | nil => exact Spec.mono take_nil fun r own' h => ⟨h.1, [], n, .nil, h.2⟩
  | cons d td hr =>
    rename_i vs ns
    have hlen : vs.length < 100 := by have := hr.length; have := hp.2; simp only [List.length_cons] at this; omega
    exact take_cons hr (.cons d td hr) (hp.1 d (.head _)) hk1 hlen hkb

--deps: P01_base
theorem typeCall_int_2 (a b : Value) : checkTypeCall "int" ⟨[a, b], []⟩ = pure () := by kernel_rfl
theorem newCall_int_2 (a b : Value) : checkBuiltinCall "int.__new__" ⟨[.type "int", a, b], []⟩ = pure () := by kernel_rfl
/-- the number that a text of hexadecimal figures (capitals) says -/
def hexL (l : List Nat) : Int := l.foldl (fun (a : Int) (c : Nat) => a * 16 + (if c ≤ 57 then (c : Int) - 48 else (c : Int) - 55)) 0
def hexOf (x : PySem.Str) : Int := hexL x.cps.toList
def hexReads (x : PySem.Str) : Prop := x.cps.all (· < 128) = true ∧ x.cps.toList.takeWhile (· != 0) = x.cps.toList ∧ x.cps.toList.length ≤ 640 ∧ (int_private% "readNumeral") 0 16 x.cps.toList = (int_private% "Numeral.value") (hexOf x)
theorem gives_hex {x : PySem.Str} {u u2 : Tok} (hk : hexReads x) : Gives (Builtin.«int.__new__» ⟨[.type "int", .str x u, .int 16 u2], []⟩) (.int (hexOf x)) :=
  .of_wp fun M A E s Q h => by
    obtain ⟨hp, g, d, tk, os⟩ := s
    have f1 := F.conv_sub_int
    have f2 := F.madeHere_int
    have f6 : typeOf (.str x u) = pure (.type "str") := rfl
    repeat (any_goals (first
      | assumption
      | wp_step))
    all_goals (
      obtain ⟨h7, hz, hl, hr⟩ := hk
      have hr' : (int_private% "readNumeral") 0 (Int.toNat 16) x.cps.toList = (int_private% "Numeral.value") (hexOf x) := hr
      simp only [h7, if_true, hz]
      rw [if_pos hl]
      repeat (any_goals (first
        | assumption
        | wp_step))
      all_goals (try rw [hr'])
      all_goals (try dsimp only)
      all_goals (try rw [if_pos (by exact beq_self_eq_true _)])
      repeat (any_goals (first
        | assumption
        | wp_step))
      all_goals (first | exact ⟨_, rfl, h⟩ | skip))
theorem call_hex {prog : Program} {w : World} {A : Around} {E : Value → Shared → Prop} {s : Shared} {Q : Value → Shared → Prop} {x : PySem.Str} {t t2 : Tok} (hk : hexReads x) (h : Q (.int (hexOf x) s.toks) { s with toks := s.toks + 1 }) :
    wpAny (model prog w) A (call (.type "int") [.str x t, .int 16 t2]) Q E s :=
  callType_new F.called_int F.newNe_int (typeCall_int_2 _ _) (newCall_int_2 _ _) (fun obj => F.args_object_init_3 obj _ _) F.entry_int_new (gives_hex hk).meets (show (Made.int (hexOf x)).post _ s from ⟨rfl, h⟩)
example : hexReads (PySem.Str.ofString "20AC") := ⟨by decide +kernel, by decide +kernel, by decide +kernel, by kernel_rfl⟩

--deps: P02_take P03_hex
theorem put_le {c : List (Int × Int)} {k v : Int} {n : Nat} (h : c.length ≤ n) : (kdfPut c k v).length ≤ n + 1 := Nat.le_trans (kdfPut_len c k v) (Nat.succ_le_succ h)
section
variable {prog : Program} {w : World} {A : Around} {E : Value → Shared → Prop} {s : Shared} {h₀ : Heap} {L d : Addr} {m : Str → Option Value} {news : List (Addr × Obj)} {u : Obj → List (Addr × Obj)} {o : Obj} {kvs : List (Int × Value)} {c : List (Int × Int)} {k e : Int} {tk te : Tok}
/-- an item stored in a dict of ints, its length known -/
theorem dput {Q : Unit → Shared → Prop} {B : Nat} (F : Fr h₀ L s.heap m) (N : News h₀ L s.heap news) (U : UpdF d o news u) (hd : o.IsDictOf (PySem.intKind prog w) kvs) (hf : PyProof.V.FlatPairs PyData.int kvs (kdfD c)) (hc : c.length ≤ B) (hB : B ≤ 100000)
    (h : ∀ h' o' kvs', Fr h₀ L h' m → News h₀ L h' (u o') → o'.IsDictOf (PySem.intKind prog w) kvs' → PyProof.V.FlatPairs PyData.int kvs' (kdfD (kdfPut c k e)) → (kdfPut c k e).length ≤ B + 1 → Q () { s with heap := h', toks := s.toks + 1 }) :
    wpAny (model prog w) A (setItem (.ref d) (.int k tk) (.int e te)) Q E s :=
  kdf_setItem F N U hd hf (by omega) fun h' o' kvs' F' N' a b => h h' o' kvs' F' N' a b (put_le hc)
end
/-- a loop over a list of the ledger that fills a dict of ints -/
theorem dloop {prog : Program} {w : World} {A : Around} {E : Value → Shared → Prop} {s : Shared} {env : Env} {h₀ : Heap} {x : Str} {body : List Stmt} {Q : Flow → Shared → Prop} {l d : Addr} {vs : List Value} {ns : List Int} {nn : Nat} {m₀ : Str → Option Value} {led : List (Addr × Obj)} {o₀ : Obj} {kvs₀ : List (Int × Value)} {c₀ : List (Int × Int)} (g : List (Int × Int) → Int → List (Int × Int))
    (F : Fr h₀ env.locals s.heap m₀) (N : News h₀ env.locals s.heap led) (hl : (l, listOf vs.toArray nn) ∈ led) (hm : (d, o₀) ∈ led) (hi : IntsAre vs ns)
    (hd₀ : o₀.IsDictOf (PySem.intKind prog w) kvs₀) (hf₀ : PyProof.V.FlatPairs PyData.int kvs₀ (kdfD c₀)) (hlen : c₀.length ≤ 1000) (hn : ns.length ≤ 1000) (hg : ∀ c n, (g c n).length ≤ c.length + 1) (hh : A.handled = none := by rfl)
    (turn : ∀ n t c o kvs h tk own, n ∈ ns → OwnOff own [l, d] → o.IsDictOf (PySem.intKind prog w) kvs → PyProof.V.FlatPairs PyData.int kvs (kdfD c) → c.length ≤ 2000 →
      Fr h₀ env.locals h (fun z => if z = x then some (.int n t) else m₀ z) → News h₀ env.locals h ([(l, listOf vs.toArray nn), (d, o)] ++ own) →
      wpAny (model prog w) A (execs body env) (InvPostN h₀ env.locals (fun m' nx => (l, listOf vs.toArray nn) ∈ nx ∧ (∃ o' kvs', nx = [(l, listOf vs.toArray nn), (d, o')] ∧ o'.IsDictOf (PySem.intKind prog w) kvs' ∧ PyProof.V.FlatPairs PyData.int kvs' (kdfD (g c n))) ∧ ∀ z, z ≠ x → m' z = m₀ z) own [l, d] { s with heap := h, toks := tk } Q) E { s with heap := h, toks := tk })
    (done : ∀ (q : Str → Option Value) o kvs h tk, o.IsDictOf (PySem.intKind prog w) kvs → PyProof.V.FlatPairs PyData.int kvs (kdfD (ns.foldl g c₀)) → (ns.foldl g c₀).length ≤ c₀.length + ns.length →
      Fr h₀ env.locals h (fun z => if z = x then q z else m₀ z) → News h₀ env.locals h [(l, listOf vs.toArray nn), (d, o)] → Q .next { s with heap := h, toks := tk }) :
    wpAny (model prog w) A (pyIter (.ref l)) (fun it s₂ => LoopAtV prog w A h₀ env x body Q E it s₂) E s := by
  have grow : ∀ (l' : List Int) (c : List (Int × Int)), (l'.foldl g c).length ≤ c.length + l'.length := by
    intro l'
    induction l' with
    | nil => intro c; exact Nat.le_refl _
    | cons a r ih =>
      intro c
      have h1 := ih (g c a)
      have h2 := hg c a
      simp only [List.foldl_cons, List.length_cons]
      omega
  have N1 : News h₀ env.locals s.heap [(l, listOf vs.toArray nn), (d, o₀)] := fun p hp => by
    rcases List.mem_cons.mp hp with e | hp
    · exact e ▸ N _ hl
    · exact (List.mem_singleton.mp hp) ▸ N _ hm
  refine iter_invNL (fun i m' nx => (∃ o kvs, nx = [(l, listOf vs.toArray nn), (d, o)] ∧ o.IsDictOf (PySem.intKind prog w) kvs ∧ PyProof.V.FlatPairs PyData.int kvs (kdfD ((ns.take i).foldl g c₀))) ∧ ∀ z, z ≠ x → m' z = m₀ z) hh (.head _) hi F N1 ⟨⟨o₀, kvs₀, rfl, hd₀, hf₀⟩, fun _ _ => rfl⟩ ?_ ?_
  · rintro i n t m₁ nx h tk own hn' _ hoff _ ⟨⟨o, kvs, rfl, hd, hf⟩, hm₁⟩ F₁ N₁
    have hlt : i < ns.length := (List.getElem?_eq_some_iff.mp hn').1
    have e1 : (fun z => if z = x then some (Value.int n t) else m₁ z) = fun z => if z = x then some (Value.int n t) else m₀ z := by
      funext z
      by_cases h1 : z = x
      · simp only [if_pos h1]
      · simp only [if_neg h1]; exact hm₁ z h1
    have e2 : (ns.take (i + 1)).foldl g c₀ = g ((ns.take i).foldl g c₀) n := by
      rw [List.take_add_one, hn', Option.toList_some, List.foldl_append]
      rfl
    have e3 := grow (ns.take i) c₀
    have e4 : (ns.take i).length ≤ i := by rw [List.length_take]; omega
    rw [e1] at F₁
    rw [e2]
    exact turn n t _ o kvs h tk own (List.mem_of_getElem? hn') hoff hd hf (by omega) F₁ N₁
  · rintro m₁ nx h tk _ ⟨⟨o, kvs, rfl, hd, hf⟩, hm₁⟩ F₁ N₁
    rw [List.take_length] at hf
    refine done m₁ o kvs h tk hd hf (grow ns c₀) ?_ N₁
    have e1 : (fun z => if z = x then m₁ z else m₀ z) = m₁ := by
      funext z
      by_cases h1 : z = x
      · simp only [if_pos h1]
      · simp only [if_neg h1]; exact (hm₁ z h1).symm
    rw [e1]; exact F₁
/-- a loop over a range by ones -/
theorem iter_range {prog : Program} {w : World} {A : Around} {E : Value → Shared → Prop} {s : Shared} {env : Env} {h₀ : Heap} {x : Str} {body : List Stmt} {Q : Flow → Shared → Prop} {r : Addr} {a₀ b₀ : Int} {t₀ u₀ v₀ : Tok} {n : Nat} {m₀ : Str → Option Value} {news : List (Addr × Obj)} (J : Nat → (Str → Option Value) → List (Addr × Obj) → Prop)
    (hr : IsRange s.heap r a₀ b₀ 1 t₀ u₀ v₀) (hsmall : Builtin.Range.small a₀ b₀ 1 = true) (hn : Builtin.Range.rangeSize a₀ b₀ 1 = (n : Int)) (F : Fr h₀ env.locals s.heap m₀) (N : News h₀ env.locals s.heap news) (hj : J 0 m₀ news) (hh : A.handled = none)
    (turn : ∀ (i : Nat) t m₁ news₁ h tk own, i < n → news₁.map (·.1) = news.map (·.1) → OwnOff own (news.map (·.1)) → J i m₁ news₁ → Fr h₀ env.locals h (fun y => if y = x then some (.int (a₀ + (i : Int)) t) else m₁ y) → News h₀ env.locals h (news₁ ++ own) →
      wpAny (model prog w) A (execs body env) (InvPostN h₀ env.locals (J (i + 1)) own (news.map (·.1)) { s with heap := h, toks := tk } Q) E { s with heap := h, toks := tk })
    (done : ∀ m₁ news₁ h tk, J n m₁ news₁ → Fr h₀ env.locals h m₁ → News h₀ env.locals h news₁ → Q .next { s with heap := h, toks := tk }) :
    wpAny (model prog w) A (pyIter (.ref r)) (fun it s₂ => LoopAtV prog w A h₀ env x body Q E it s₂) E s := by
  refine wpAny_pyIter_range hr hsmall ?_
  have W := (Walks.range (prog := prog) (w := w) hh s.heap.objs.size a₀ 1 n).bound
  refine loop_invN J W ?_ ?_ ?_ ?_ (by show IsRangeIter _ _ _ _ _; rw [hn]; simpa using Heap.get?_push_size _ rfl) (F.push _) (fun p hp => ⟨Heap.get?_push_of_some _ (N p hp).1, (N p hp).2⟩) hj ?_ done
  · intro hm
    exact absurd F.ns.lt ((List.mem_singleton.mp hm) ▸ Nat.lt_irrefl _)
  · intro b hb
    rw [List.mem_singleton.mp hb]
    exact next_is_new F
  · intro p hp hI
    exact absurd (Heap.lt_size (N p hp).1) ((List.mem_singleton.mp hI) ▸ Nat.lt_irrefl _)
  · intro p hp hI
    exact absurd (Heap.lt_size (N p hp).1) ((List.mem_singleton.mp hI) ▸ Nat.lt_irrefl _)
  · rintro i v m₁ nx h tk own hi ⟨_, t, rfl⟩ hadr hoff hJ F₁ N₁
    have e1 : a₀ + (i : Int) * 1 = a₀ + (i : Int) := by omega
    rw [e1] at F₁
    exact turn i t m₁ nx h tk own hi hadr hoff hJ F₁ N₁
/-- a loop over a range that fills a dict of ints; `ol` stands by -/
theorem dloopR {prog : Program} {w : World} {A : Around} {E : Value → Shared → Prop} {s : Shared} {env : Env} {h₀ : Heap} {x : Str} {body : List Stmt} {Q : Flow → Shared → Prop} {l d r : Addr} {ol : Obj} {n : Nat} {b₀ : Int} {t₀ u₀ v₀ : Tok} {m₀ : Str → Option Value} {led : List (Addr × Obj)} {o₀ : Obj} {kvs₀ : List (Int × Value)} {c₀ : List (Int × Int)} {B : Nat} (g : List (Int × Int) → Int → List (Int × Int))
    (F : Fr h₀ env.locals s.heap m₀) (N : News h₀ env.locals s.heap led) (hr : IsRange s.heap r 0 b₀ 1 t₀ u₀ v₀) (hb : b₀ = (n : Int)) (hl : (l, ol) ∈ led) (hm : (d, o₀) ∈ led)
    (hd₀ : o₀.IsDictOf (PySem.intKind prog w) kvs₀) (hf₀ : PyProof.V.FlatPairs PyData.int kvs₀ (kdfD c₀)) (hlen : c₀.length ≤ B) (hB : B ≤ 1000) (hn : n ≤ 300) (hg : ∀ c k, (g c k).length ≤ c.length + 1) (hh : A.handled = none := by rfl)
    (turn : ∀ k t c o kvs h tk own, 0 ≤ k → k < (n : Int) → OwnOff own [l, d] → o.IsDictOf (PySem.intKind prog w) kvs → PyProof.V.FlatPairs PyData.int kvs (kdfD c) → c.length ≤ 2000 →
      Fr h₀ env.locals h (fun z => if z = x then some (.int k t) else m₀ z) → News h₀ env.locals h ([(l, ol), (d, o)] ++ own) →
      wpAny (model prog w) A (execs body env) (InvPostN h₀ env.locals (fun m' nx => (∃ o' kvs', nx = [(l, ol), (d, o')] ∧ o'.IsDictOf (PySem.intKind prog w) kvs' ∧ PyProof.V.FlatPairs PyData.int kvs' (kdfD (g c k))) ∧ ∀ z, z ≠ x → m' z = m₀ z) own [l, d] { s with heap := h, toks := tk } Q) E { s with heap := h, toks := tk })
    (done : ∀ (q : Str → Option Value) o kvs h tk, o.IsDictOf (PySem.intKind prog w) kvs → PyProof.V.FlatPairs PyData.int kvs (kdfD ((rangeKs 0 n).foldl g c₀)) → ((rangeKs 0 n).foldl g c₀).length ≤ B + n →
      Fr h₀ env.locals h (fun z => if z = x then q z else m₀ z) → News h₀ env.locals h [(l, ol), (d, o)] → Q .next { s with heap := h, toks := tk }) :
    wpAny (model prog w) A (pyIter (.ref r)) (fun it s₂ => LoopAtV prog w A h₀ env x body Q E it s₂) E s := by
  subst hb
  have grow : ∀ (l' : List Int) (c : List (Int × Int)), (l'.foldl g c).length ≤ c.length + l'.length := by
    intro l'
    induction l' with
    | nil => intro c; exact Nat.le_refl _
    | cons a r ih =>
      intro c
      have h1 := ih (g c a)
      have h2 := hg c a
      simp only [List.foldl_cons, List.length_cons]
      omega
  have N1 : News h₀ env.locals s.heap [(l, ol), (d, o₀)] := fun p hp => by
    rcases List.mem_cons.mp hp with e | hp
    · exact e ▸ N _ hl
    · exact (List.mem_singleton.mp hp) ▸ N _ hm
  have hK : ∀ i, i < n → (rangeKs 0 n).take (i + 1) = (rangeKs 0 n).take i ++ [(i : Int)] := by
    intro i hi
    have : (rangeKs 0 n)[i]? = some ((0 : Int) + (i : Int)) := by simp [rangeKs, hi]
    rw [List.take_add_one, this, Option.toList_some, Int.zero_add]
  refine iter_range (n := n) (fun i m' nx => (∃ o kvs, nx = [(l, ol), (d, o)] ∧ o.IsDictOf (PySem.intKind prog w) kvs ∧ PyProof.V.FlatPairs PyData.int kvs (kdfD (((rangeKs 0 n).take i).foldl g c₀))) ∧ ∀ z, z ≠ x → m' z = m₀ z) hr
    (small_one (by decide) (by decide) (by omega) (by omega)) (by rw [rangeSize_nat]; omega) F N1 ⟨⟨o₀, kvs₀, rfl, hd₀, hf₀⟩, fun _ _ => rfl⟩ hh ?_ ?_
  · rintro i t m₁ nx h tk own hi _ hoff ⟨⟨o, kvs, rfl, hd, hf⟩, hm₁⟩ F₁ N₁
    have e1 : (fun z => if z = x then some (Value.int ((0 : Int) + (i : Int)) t) else m₁ z) = fun z => if z = x then some (Value.int (i : Int) t) else m₀ z := by
      funext z
      by_cases h1 : z = x
      · simp only [if_pos h1, Int.zero_add]
      · simp only [if_neg h1]; exact hm₁ z h1
    have e3 := grow ((rangeKs 0 n).take i) c₀
    have e4 : ((rangeKs 0 n).take i).length ≤ i := by rw [List.length_take]; omega
    rw [e1] at F₁
    rw [hK i hi, List.foldl_append]
    exact turn (i : Int) t _ o kvs h tk own (by omega) (by omega) hoff hd hf (by omega) F₁ N₁
  · rintro m₁ nx h tk ⟨⟨o, kvs, rfl, hd, hf⟩, hm₁⟩ F₁ N₁
    have e5 : (rangeKs 0 n).take n = rangeKs 0 n := List.take_of_length_le (Nat.le_of_eq (rangeKs_length _ _))
    rw [e5] at hf
    have e6 := grow (rangeKs 0 n) c₀
    rw [rangeKs_length] at e6
    refine done m₁ o kvs h tk hd hf (by omega) ?_ N₁
    have e1 : (fun z => if z = x then m₁ z else m₀ z) = m₁ := by
      funext z
      by_cases h1 : z = x
      · simp only [if_pos h1]
      · simp only [if_neg h1]; exact (hm₁ z h1).symm
    rw [e1]; exact F₁
theorem strs_get : ∀ {vs : List Value} {xs : List Str}, StrsAre vs xs → ∀ {k : Nat}, k < xs.length → ∃ t, vs[k]? = some (.str (xs.getD k Str.empty) t)
  | _, _, .cons y t _, 0, _ => ⟨t, rfl⟩
  | _, _, .cons _ _ h, k + 1, hk => strs_get h (Nat.lt_of_succ_lt_succ hk)
/-- an item of a list of texts -/
theorem item_strs {prog : Program} {w : World} {A : Around} {E : Value → Shared → Prop} {s : Shared} {h₀ : Heap} {L l : Addr} {news : List (Addr × Obj)} {c : Nat} {vs : List Value} {xs : List Str} {value slice : PySem.Expr} {k : Int} {u : Tok} {Q : Value → Shared → Prop}
    (N : News h₀ L s.heap news) (hm : (l, listOf vs.toArray c) ∈ news) (hi : StrsAre vs xs) (h0 : 0 ≤ k) (h1 : k < (xs.length : Int)) (hfit : k < 2 ^ 63) (h : ∀ t, Q (.str (xs.getD k.toNat Str.empty) t) s)
    (hs : subscripted slice false (.ref l) (.int k u) = operate [.ref l, .int k u] (getItem (.ref l) (.int k u)) := by with_unfolding_all rfl) :
    wpAny (model prog w) A (subscriptTail value slice (.ref l) (.int k u)) Q E s := by
  have hl : s.heap.IsList l vs.toArray := ⟨_, (N _ hm).1, rfl, c, rfl⟩
  obtain ⟨t, ht⟩ := strs_get hi (k := k.toNat) (by omega)
  exact tail_any hl.typeIs slot_list_getitem.lookup (wpAny_getItem_list hl h0 hfit (by rw [List.getElem?_toArray]; exact ht) (h t)) hs
def hexs : List Str := (["2022", "2020", "2021", "2026", "2014", "2013", "0192", "2044", "2039", "203A", "2212", "2030", "201E", "201C", "201D", "2018", "2019", "201A", "2122", "FB01", "FB02", "0141", "0152", "0160", "0178", "017D", "0131", "0142", "0153", "0161", "017E"] : List String).map PySem.Str.ofString
theorem hexs_read : ∀ x ∈ hexs, hexReads x := by
  unfold hexs
  simp only [List.map_cons, List.map_nil]
  repeat (first | exact List.forall_mem_nil _ | refine List.forall_mem_cons.mpr ⟨⟨by decide +kernel, by decide +kernel, by decide +kernel, by kernel_rfl⟩, ?_⟩)
theorem hexs_get {k : Nat} (h : k < 31) : hexReads (hexs.getD k Str.empty) := by
  refine hexs_read _ ?_
  rw [List.getD_eq_getElem?_getD, List.getElem?_eq_getElem (by exact h)]
  exact List.getElem_mem _
def ns1 : List Int := rangeKs 32 95 ++ rangeKs 161 12 ++ rangeKs 174 82 ++ [9, 10, 13]
def tab1 : List (Int × Int) := ns1.foldl (fun c k => kdfPut c k k) []
def tabC : List (Int × Int) := (ns1.map fun n => (n, n)) ++ ([8226, 8224, 8225, 8230, 8212, 8211, 402, 8260, 8249, 8250, 8722, 8240, 8222, 8220, 8221, 8216, 8217, 8218, 8482, 64257, 64258, 321, 338, 352, 376, 381, 305, 322, 339, 353, 382].zipIdx.map fun (p : Int × Nat) => (128 + (p.2 : Int), p.1)) ++ ([728, 711, 710, 729, 733, 731, 730, 732].zipIdx.map fun (p : Int × Nat) => (24 + (p.2 : Int), p.1)) ++ [(160, 8364)]
theorem ns1_len : ns1.length = 192 := by decide +kernel
theorem tab1_len : tab1.length ≤ 192 := by decide +kernel
theorem tab_eq : kdfPut ((rangeKs 0 8).foldl (fun c k => kdfPut c (24 + k) (([728, 711, 710, 729, 733, 731, 730, 732] : List Int).getD k.toNat 0)) ((rangeKs 0 31).foldl (fun c k => kdfPut c (128 + k) (hexOf (hexs.getD k.toNat Str.empty))) tab1)) 160 8364 = tabC := by decide +kernel

section
local macro_rules | `(tactic| walk_at "call type:list") => `(tactic| (k_here; (with_reducible show wpAny _ _ (call (Value.type _) [Value.ref _]) _ _ _); (rename IsRange _ _ _ _ _ _ _ _ => rgX); (with_unfolding_all refine' kll_range ?k0 ?k1 ?k2 ?k3 ?k4 ?k5 ?k6 ?_; (case k0 => rfl); (case k1 => k_asm); (case k2 => k_asm); (case k3 => first | exact rgX | assumption); (case k4 => exact small_one (by l_bnd) (by l_bnd) (by l_bnd) (by l_bnd)); (case k5 => first | rfl | exact rangeSize_nat _ _); (case k6 => decide); k_whole); intro D' vs' c' h' tk' F' N' l1 hI'; (try k_lt l1); (try k_sweep)))
local macro_rules | `(tactic| walk_at "exec For Name BinOp cons nil") => `(tactic| (k_here; (with_reducible rename Fr _ _ _ _ => lF'); (with_unfolding_all refine' For_invVF lF' ?k1 ?k2 ?_; (case k1 => exact rfl); (case k2 => exact rfl); k_whole)))
local macro_rules | `(tactic| walk_at "exec For Name Call cons nil") => `(tactic| (k_here; (with_reducible rename Fr _ _ _ _ => lF'); (with_unfolding_all refine' For_invVF lF' ?k1 ?k2 ?_; (case k1 => exact rfl); (case k2 => exact rfl); k_whole)))
local macro_rules | `(tactic| walk_at "call type:int") => `(tactic| (k_here; (with_reducible show wpAny _ _ (call (Value.type "int") [Value.str _ _, Value.int 16 _]) _ _ _); k_dflt (refine' call_hex ?kh ?_; (case kh => exact hexs_get (by omega)); k_whole)))
local macro_rules | `(tactic| walk_at "subscriptTail") => `(tactic| (k_here; (with_reducible show wpAny _ _ (subscriptTail _ _ (Value.ref _) (Value.int _ _)) _ _ _); k_dflt (refine' item_strs (xs := hexs) ?k1 ?k2 ?k3 ?k4 ?k5 ?k6 ?_ ?k7; (case k1 => k_asm); (case k2 => k_mem); (case k3 => repeat (first | exact StrsAre.nil | refine StrsAre.cons _ _ ?_)); (case k4 => assumption); (case k5 => exact (by assumption : (_ : Int) < 31)); (case k6 => omega); (case k7 => with_unfolding_all rfl); k_whole); intro _))
local macro_rules | `(tactic| walk_at "setItem ref int") => `(tactic| (k_here; (with_reducible show wpAny _ _ (setItem (Value.ref _) (Value.int _ _) (Value.int _ _)) _ _ _); k_dflt (refine' dput ?F ?N ?U ?d ?f ?c ?B ?_; (case F => k_asm); (case N => k_asm); (case U => k_updF); (case d => k_asm); (case f => k_asm); (case c => k_asm); (case B => omega)); intro h' o' kvs' F' N' hd' hf' hc'; (try dsimp only at N'); (try k_sweep)))
local macro_rules | `(tactic| walk_at "pyIter ref") => `(tactic| (k_here; first
  | ((with_unfolding_all refine' dloop (c₀ := []) (fun c k => kdfPut c k k) ?F ?N ?l ?m ?i ?d ?f ?a ?b ?g rfl ?_ ?_; (case F => k_asm); (case N => k_asm); (case l => k_mem); (case i => with_reducible assumption); (case d => k_asm); (case f => k_asm); (case m => k_mem); (case a => exact Nat.zero_le _); (case b => exact Nat.le_trans (Nat.le_of_eq ns1_len) (by decide)); (case g => exact fun c n => kdfPut_len c n n)); all_goals (first
    | (intro n' t' c' o' kvs' h' tk' own' hmem' hoff' hd' hf' hc' F' N'; k_fold)
    | (intro q' o' kvs' h' tk' hd' hf' hc' F' N'; replace hf' : PyProof.V.FlatPairs PyData.int kvs' (kdfD tab1) := hf'; clear hc'; have hc' := tab1_len; (try dsimp only))))
  | ((with_unfolding_all refine' dloopR (n := 31) (fun c k => kdfPut c (128 + k) (hexOf (hexs.getD k.toNat Str.empty))) ?F ?N ?r ?z ?l ?m ?d ?f ?a ?b ?nn ?g rfl ?_ ?_; (case F => k_asm); (case N => k_asm); (case r => assumption); (case z => first | rfl | decide); (case d => k_asm); (case f => k_asm); (case m => k_mem); (case l => exact List.Mem.head _);  (case a => k_asm); (case b => omega); (case nn => omega); (case g => exact fun c n => kdfPut_len c _ _)); all_goals (first
    | (intro n' t' c' o' kvs' h' tk' own' hlo' hhi' hoff' hd' hf' hc' F' N'; k_fold)
    | (intro q' o' kvs' h' tk' hd' hf' hc' F' N'; (try dsimp only))))
  | ((with_unfolding_all refine' dloopR (n := 8) (fun c k => kdfPut c (24 + k) (([728, 711, 710, 729, 733, 731, 730, 732] : List Int).getD k.toNat 0)) ?F ?N ?r ?z ?l ?m ?d ?f ?a ?b ?nn ?g rfl ?_ ?_; (case F => k_asm); (case N => k_asm); (case r => assumption); (case z => first | rfl | decide); (case d => k_asm); (case f => k_asm); (case m => k_mem); (case l => exact List.Mem.head _);  (case a => k_asm); (case b => omega); (case nn => omega); (case g => exact fun c n => kdfPut_len c _ _)); all_goals (first
    | (intro n' t' c' o' kvs' h' tk' own' hlo' hhi' hoff' hd' hf' hc' F' N'; k_fold)
    | (intro q' o' kvs' h' tk' hd' hf' hc' F' N'; (try dsimp only))))))
local macro_rules | `(tactic| walk_at "InvEndN") => `(tactic| first
  | (refine InvEndN.intro (by assumption) (by assumption) ⟨.head _, ⟨_, _, rfl, by assumption, by assumption⟩, by (intro z h1; first | rfl | (simp [h1]; done) | (simp_all; done))⟩ (by rfl) (by (with_unfolding_all ((try simp only [List.nil_append, List.cons_append]); k_allIn))) (by (intro p hp; k_ownIn)))
  | (refine InvEndN.intro (by assumption) (by assumption) ⟨⟨_, _, rfl, by assumption, by assumption⟩, by (intro z h1; first | rfl | (simp [h1]; done) | (simp_all; done))⟩ (by rfl) (by (with_unfolding_all ((try simp only [List.nil_append, List.cons_append]); k_allIn))) (by (intro p hp; k_ownIn))))
local macro_rules | `(tactic| k_ne) => `(tactic| (refine neN ?_; (try dsimp only); first | omega | ((rename (∀ p : Addr × Obj, p ∈ _ → p.1 < _) => h9); exact Nat.ne_of_gt (h9 (_, _) (by k_memK)))))
theorem table_ok {w : World} {loose : List Str} {mean : ExcName → Option Value} {mg mb : Str → Option Value} :
    Spec 8 w loose mean mg mb 59 [] [] (fun r own' => ∃ d o kvs, r = .ref d ∧ own' = [(d, o)] ∧ (d == sysModules) = false ∧ o.IsDictOf (PySem.intKind PySem.Challenge.rw_nn0192_01.row.prog w) kvs ∧ PyProof.V.FlatPairs PyData.int kvs (kdfD tabC)) := by
  w_on
  w_strict (refine' spec_of (binds := []) (by k_is) (by k_is) (fun s => BindsTo.of_eq rfl) (locs rfl) rfl rfl rfl (by decide) (by decide) ?_; intro dp un gd cn cs L a ccd cl outer base g L' h₁ s tk Q E B hk F N X T hd hu hret; (try k_fold); k_steps; exact hret _ _ _ _ _ (by assumption) (News.one (by assumption) (by k_memK)) ⟨_, _, _, rfl, rfl, by assumption, by assumption, by (rw [← tab_eq]; assumption)⟩)
end

--deps: P04_loops Dev
section
variable {prog : Program} {w : World} {A : Around} {E : Value → Shared → Prop} {s : Shared}
/-- xs[a:b] = ys, over the bare heap -/
theorem list_setslice {l sl r : Addr} {items new : Array Value} {n : Nat} {a b : Nat} {ta tb : Tok} {Q : Unit → Shared → Prop} (ho : s.heap.get? l = some (listOf items n)) (hs : s.heap.IsSliceOf sl (.int (a : Int) ta) (.int (b : Int) tb) .none) (hr : s.heap.IsList r new) (hne : l ≠ r)
    (hab : a ≤ b) (hb : b ≤ items.size) (hsz : items.size + new.size ≤ 1000)
    (h : Q () { s with heap := s.heap.update l (Obj.mapSeq fun xs => xs.extract 0 a ++ new ++ xs.extract b xs.size) }) : wpAny (model prog w) A (setItem (.ref l) (.ref sl) (.ref r)) Q E s := by
  have hl : s.heap.IsList l items := PySem.IsL.isList (n := n) ho
  obtain ⟨os, hos, hcs, hds⟩ := id hs
  obtain ⟨orr, hor, hcr, nr, hdr⟩ := id hr
  have hTs : s.TypeIs (.ref sl) "slice" := ⟨os, hos, hcs⟩
  have hline : (1000 : Nat) ≤ sizeLine := by rw [sizeLine_eq]; decide
  unfold setItem
  try with_reducible refine wpAny_holding ?_
  first | refine wpAny_bind (wpAny_pure ?_) | skip
  refine wpAny_bind (wpAny_sequenceKey hl.typeIs (by decide) ?_)
  refine wpAny_bind (wpAny_callSpecial?_slot (name := Str.ofString "__setitem__") hl.typeIs slot_list_setitem
    (wpAny_call_entry slot_list_setitem hl.typeIs entry_list_setitem ?_ (args_list_setitem _ _ _)))
  show wpAny _ _ (Builtin.List.listSubscript? (.ref sl) >>= _) _ _ s
  refine wpAny_bind ?_
  unfold Builtin.List.listSubscript?
  refine wpAny_bind (wpAny_specialOf hTs slice_no_index ?_)
  simp only [Option.isNone_none, if_true]
  refine wpAny_pure ?_
  show wpAny _ _ (typeOf (.ref sl) >>= _) _ _ s
  refine wpAny_bind (wpAny_typeOf hTs ?_)
  rw [if_neg (by decide)]
  rw [listSliceParts_eq]
  refine wpAny_bind (wpAny_bind (wpAny_field hos hds (x := .none) rfl (wpAny_bind (wpAny_listPart .none ?_))))
  rw [if_neg (by decide)]
  refine wpAny_bind (wpAny_field hos hds (x := .int (a : Int) ta) rfl (wpAny_bind (wpAny_listPart (.int _ _) ?_)))
  refine wpAny_bind (wpAny_field hos hds (x := .int (b : Int) tb) rfl (wpAny_bind (wpAny_listPart (.int _ _) (wpAny_pure ?_))))
  have hsame : Builtin.List.listSameRef (.ref l) (.ref r) = false := by
    show (l == r) = false
    exact beq_eq_false_iff_ne.mpr hne
  simp only [hsame, Bool.false_eq_true, if_false]
  unfold Builtin.List.listAllItems
  refine wpAny_bind (wpAny_bind (wpAny_typeOf hr.typeIs ?_))
  rw [if_pos (by decide)]
  refine wpAny_bind (wpAny_seqItems hor hdr (wpAny_pure ?_))
  refine wpAny_bind (m := Builtin.List.listItems (.ref l)) (listItems_at ho rfl ?_)
  refine wpAny_bind (wpAny_of_eq (sliceIndices_raw (some (a : Int)) (some (b : Int)) none items.size (by simp)) ?_)
  have e : sliceBounds (some (a : Int)) (some (b : Int)) none items.size = ((a : Int), (b : Int), 1) := by
    simp only [sliceBounds, Option.getD_none]
    have h1 : ¬ ((a : Int) < 0) := by omega
    have h2 : ¬ ((b : Int) < 0) := by omega
    simp only [h1, h2, if_false, show (1 : Int) > 0 by decide, if_true]
    congr 1
    · omega
    · congr 1; omega
  rw [e]
  dsimp only
  rw [if_pos (by decide)]
  refine wpAny_bind (wpAny_rule ?_)
  have hlong : Builtin.List.listTooLong (items.size + new.size) = false := by
    unfold Builtin.List.listTooLong
    exact decide_eq_false (by omega)
  rw [if_neg (by rw [hlong]; exact Bool.false_ne_true)]
  have e1 : ((a : Int)).toNat = a := Int.toNat_natCast a
  have e2 : (max (a : Int) (b : Int)).toNat = b := by omega
  have hsz2 : (items.extract 0 a ++ new ++ items.extract b items.size).size ≤ sizeLine + 1 := by
    simp only [Array.size_append, Array.size_extract]
    omega
  refine wpAny_bind (listUpdate_at ho rfl ?_ (by omega) (by rw [e1, e2]; exact hsz2))
  refine wpAny_bind (wpAny_letGo (wpAny_pure ⟨.none, rfl, ?_⟩))
  rw [e1, e2]
  exact wpAny_pure h

theorem push_keeps {h₀ h : Heap} {L : Addr} {news : List (Addr × Obj)} {o : Obj} (N : News h₀ L h news) : News h₀ L (h.push o) news := fun p hp => ⟨Heap.get?_push_of_some _ (N p hp).1, (N p hp).2⟩
/-- xs[a:b] = ys with its slice just made, over the ledger -/
theorem setslice_K {h₀ : Heap} {L D r : Addr} {m : Str → Option Value} {news news' : List (Addr × Obj)} {us vs : List Value} {xs ys : List Int} {n k : Nat} (a b : Nat) {x y : Int} {ta tb : Tok} {Q : Unit → Shared → Prop} (F : Fr h₀ L s.heap m) (N : News h₀ L s.heap news)
    (hr : (r, listOf vs.toArray k) ∈ news) (hne : D ≠ r) (U : Upd D (listOf us.toArray n) (listOf (us.take a ++ vs ++ us.drop b).toArray n) news news') (hi : IntsAre us xs) (hj : IntsAre vs ys)
    (hx : x = (a : Int)) (hy : y = (b : Int)) (hab : a ≤ b) (hb : b ≤ xs.length) (hlen : ys.length = b - a) (hsz : xs.length ≤ 500)
    (h : ∀ h', Fr h₀ L h' m → News h₀ L h' news' → IntsAre (us.take a ++ vs ++ us.drop b) (xs.take a ++ ys ++ xs.drop b) → (xs.take a ++ ys ++ xs.drop b).length = xs.length → Q () { s with heap := h' }) :
    wpAny (model prog w) A (setItem (.ref D) (.ref s.heap.objs.size) (.ref r)) Q E { s with heap := s.heap.push { cls := .type "slice", data := .fields #[.int x ta, .int y tb, .none] } } := by
  subst hx
  subst hy
  obtain ⟨pre, post, rfl, rfl, h1, h2⟩ := U.split
  have F' := F.push { cls := .type "slice", data := .fields #[.int (a : Int) ta, .int (b : Int) tb, .none] }
  have N' := push_keeps (o := { cls := .type "slice", data := .fields #[.int (a : Int) ta, .int (b : Int) tb, .none] }) N
  have z := N' (D, listOf us.toArray n) (List.mem_append.mpr (.inr (.head _)))
  have zr := N' (r, listOf vs.toArray k) hr
  have hl1 := hi.length
  have hl2 := hj.length
  have hs1 : us.toArray.size = xs.length := by rw [List.size_toArray]; exact hl1
  have hs2 : vs.toArray.size = ys.length := by rw [List.size_toArray]; exact hl2
  have ef : us.toArray.extract 0 a ++ vs.toArray ++ us.toArray.extract b us.toArray.size = (us.take a ++ vs ++ us.drop b).toArray := by
    apply Array.toList_inj.mp
    simp
    exact List.take_of_length_le (by rw [List.length_drop]; exact Nat.le_refl _)
  have et : (us.take a ++ vs ++ us.drop b).length = us.length := by
    simp only [List.length_append, List.length_take, List.length_drop]
    omega
  refine list_setslice (n := n) z.1 (Heap.IsSliceOf.new ..) (PySem.IsL.isList zr.1) hne hab (by rw [hs1]; exact hb) (by rw [hs1, hs2]; omega) ?_
  refine h _ (F'.change (Heap.SameBut.update ..) z.2.1 z.2.2) (news_set N' h1 h2 (Heap.SameBut.update ..) ?_) ?_ ?_
  · have q := PySem.IsL.update z.1 (fun xs : Array Value => xs.extract 0 a ++ vs.toArray ++ xs.extract b xs.size)
    rw [ef, if_pos (by simp only [List.size_toArray, et]; exact beq_self_eq_true _)] at q
    exact q
  · exact ((hi.take _).append hj).append (hi.drop _)
  · simp only [List.length_append, List.length_take, List.length_drop]
    omega
end

--deps: P06_slices
/-- a loop over a list of the ledger that turns another list of ints in place -/
theorem lloop {prog : Program} {w : World} {A : Around} {E : Value → Shared → Prop} {s : Shared} {env : Env} {h₀ : Heap} {x : Str} {body : List Stmt} {Q : Flow → Shared → Prop} {l d : Addr} {vs us₀ : List Value} {ns xs₀ : List Int} {nn mm : Nat} {m₀ : Str → Option Value} {led : List (Addr × Obj)} (g : List Int → Int → List Int)
    (F : Fr h₀ env.locals s.heap m₀) (N : News h₀ env.locals s.heap led) (hl : (l, listOf vs.toArray nn) ∈ led) (hm : (d, listOf us₀.toArray mm) ∈ led) (hi : IntsAre vs ns) (hi₀ : IntsAre us₀ xs₀) (hg : ∀ c n, (g c n).length = c.length) (hh : A.handled = none := by rfl)
    (turn : ∀ n t xs us c h tk own, n ∈ ns → OwnOff own [l, d] → IntsAre us xs → xs.length = xs₀.length →
      Fr h₀ env.locals h (fun z => if z = x then some (.int n t) else m₀ z) → News h₀ env.locals h ([(l, listOf vs.toArray nn), (d, listOf us.toArray c)] ++ own) →
      wpAny (model prog w) A (execs body env) (InvPostN h₀ env.locals (fun m' nx => (l, listOf vs.toArray nn) ∈ nx ∧ (∃ us' c', nx = [(l, listOf vs.toArray nn), (d, listOf us'.toArray c')] ∧ IntsAre us' (g xs n)) ∧ ∀ z, z ≠ x → m' z = m₀ z) own [l, d] { s with heap := h, toks := tk } Q) E { s with heap := h, toks := tk })
    (done : ∀ (q : Str → Option Value) us c h tk, IntsAre us (ns.foldl g xs₀) →
      Fr h₀ env.locals h (fun z => if z = x then q z else m₀ z) → News h₀ env.locals h [(l, listOf vs.toArray nn), (d, listOf us.toArray c)] → Q .next { s with heap := h, toks := tk }) :
    wpAny (model prog w) A (pyIter (.ref l)) (fun it s₂ => LoopAtV prog w A h₀ env x body Q E it s₂) E s := by
  have grow : ∀ (l' : List Int) (c : List Int), (l'.foldl g c).length = c.length := by
    intro l'
    induction l' with
    | nil => intro c; rfl
    | cons a r ih =>
      intro c
      rw [List.foldl_cons, ih, hg]
  have N1 : News h₀ env.locals s.heap [(l, listOf vs.toArray nn), (d, listOf us₀.toArray mm)] := fun p hp => by
    rcases List.mem_cons.mp hp with e | hp
    · exact e ▸ N _ hl
    · exact (List.mem_singleton.mp hp) ▸ N _ hm
  refine iter_invNL (fun i m' nx => (∃ us c, nx = [(l, listOf vs.toArray nn), (d, listOf us.toArray c)] ∧ IntsAre us ((ns.take i).foldl g xs₀)) ∧ ∀ z, z ≠ x → m' z = m₀ z) hh (.head _) hi F N1 ⟨⟨us₀, mm, rfl, hi₀⟩, fun _ _ => rfl⟩ ?_ ?_
  · rintro i n t m₁ nx h tk own hn' _ hoff _ ⟨⟨us, c, rfl, hus⟩, hm₁⟩ F₁ N₁
    have e1 : (fun z => if z = x then some (Value.int n t) else m₁ z) = fun z => if z = x then some (Value.int n t) else m₀ z := by
      funext z
      by_cases h1 : z = x
      · simp only [if_pos h1]
      · simp only [if_neg h1]; exact hm₁ z h1
    have e2 : (ns.take (i + 1)).foldl g xs₀ = g ((ns.take i).foldl g xs₀) n := by
      rw [List.take_add_one, hn', Option.toList_some, List.foldl_append]
      rfl
    rw [e1] at F₁
    rw [e2]
    exact turn n t _ us c h tk own (List.mem_of_getElem? hn') hoff hus (grow _ _) F₁ N₁
  · rintro m₁ nx h tk _ ⟨⟨us, c, rfl, hus⟩, hm₁⟩ F₁ N₁
    rw [List.take_length] at hus
    refine done m₁ us c h tk hus ?_ N₁
    have e1 : (fun z => if z = x then m₁ z else m₀ z) = m₁ := by
      funext z
      by_cases h1 : z = x
      · simp only [if_pos h1]
      · simp only [if_neg h1]; exact (hm₁ z h1).symm
    rw [e1]; exact F₁
def ns2 : List Int := [9, 10, 13] ++ rangeKs 32 95 ++ rangeKs 161 95
def sigC : List Int := (List.range 256).map fun (k : Nat) => ((tabC.find? fun p => decide (p.1 = (k : Int))).map (·.2)).getD 65533
def sig1 : List Int := ns2.foldl (fun xs k => xs.set k.toNat k) (List.replicate 256 65533)
def sig2 (a b : List Int) : List Int := ((((sig1.set (Int.toNat 173) 65533).take 24 ++ a ++ (sig1.set (Int.toNat 173) 65533).drop 32).take 128 ++ b ++ ((sig1.set (Int.toNat 173) 65533).take 24 ++ a ++ (sig1.set (Int.toNat 173) 65533).drop 32).drop 159).set (Int.toNat 160) 8364)
theorem sig_eq : sig2 [728, 711, 710, 729, 733, 731, 730, 732] [8226, 8224, 8225, 8230, 8212, 8211, 402, 8260, 8249, 8250, 8722, 8240, 8222, 8220, 8221, 8216, 8217, 8218, 8482, 64257, 64258, 321, 338, 352, 376, 381, 305, 322, 339, 353, 382] = sigC := by decide +kernel
theorem sig_of {vs : List Value} {a b : List Int} (ha : a = [728, 711, 710, 729, 733, 731, 730, 732]) (hb : b = [8226, 8224, 8225, 8230, 8212, 8211, 402, 8260, 8249, 8250, 8722, 8240, 8222, 8220, 8221, 8216, 8217, 8218, 8482, 64257, 64258, 321, 338, 352, 376, 381, 305, 322, 339, 353, 382])
    (h : IntsAre vs ((((sig1.set (Int.toNat 173) 65533).take 24 ++ a ++ (sig1.set (Int.toNat 173) 65533).drop 32).take 128 ++ b ++ ((sig1.set (Int.toNat 173) 65533).take 24 ++ a ++ (sig1.set (Int.toNat 173) 65533).drop 32).drop 159).set (Int.toNat 160) 8364)) : IntsAre vs sigC := by
  subst ha hb
  exact sig_eq ▸ (show IntsAre vs (sig2 _ _) from h)
theorem sig1_len : sig1.length = 256 := by decide +kernel
theorem ns2_in : ∀ n ∈ ns2, 0 ≤ n ∧ n < 256 := by decide +kernel
section
local macro_rules | `(tactic| walk_at "call type:list") => `(tactic| (k_here; (with_reducible show wpAny _ _ (call (Value.type _) [Value.ref _]) _ _ _); (rename IsRange _ _ _ _ _ _ _ _ => rgX); (with_unfolding_all refine' kll_range ?k0 ?k1 ?k2 ?k3 ?k4 ?k5 ?k6 ?_; (case k0 => rfl); (case k1 => k_asm); (case k2 => k_asm); (case k3 => first | exact rgX | assumption); (case k4 => exact small_one (by l_bnd) (by l_bnd) (by l_bnd) (by l_bnd)); (case k5 => first | rfl | exact rangeSize_nat _ _); (case k6 => decide); k_whole); intro D' vs' c' h' tk' F' N' l1 hI'; (try k_lt l1); (try k_sweep)))
local macro_rules | `(tactic| walk_at "exec For Name BinOp cons nil") => `(tactic| (k_here; (with_reducible rename Fr _ _ _ _ => lF'); (with_unfolding_all refine' For_invVF lF' ?k1 ?k2 ?_; (case k1 => exact rfl); (case k2 => exact rfl); k_whole)))
local macro_rules | `(tactic| walk_at "pyIter ref") => `(tactic| (k_here; ((with_unfolding_all refine' lloop (ns := ns2) (xs₀ := List.replicate 256 65533) (fun xs k => xs.set k.toNat k) ?F ?N ?l ?m ?i ?d ?g rfl ?_ ?_; (case F => k_asm); (case N => k_asm); (case l => k_mem); (case i => assumption); (case d => k_asm); (case m => k_mem); (case g => exact fun c n => List.length_set ..))); all_goals (first
    | (intro n' t' xs' us' c' h' tk' own' hmem' hoff' hi' hl' F' N'; k_fold; have hb' := ns2_in _ hmem'; replace hl' : xs'.length = 256 := hl'.trans (by decide))
    | (intro q' us' c' h' tk' hi' F' N'; replace hi' : IntsAre us' sig1 := hi'; have hl' := sig1_len; (try dsimp only)))))
local macro_rules | `(tactic| walk_at "setItem ref int") => `(tactic| (k_here; (with_reducible show wpAny _ _ (setItem (Value.ref _) (Value.int _ _) (Value.int _ _)) _ _ _); k_dflt (refine' ksa_set ?k1 ?k2 ?k3 ?k4 ?k5 ?k6 ?k7 ?_; (case k1 => k_asm); (case k2 => k_asm); (case k3 => k_upd); (case k4 => with_reducible assumption); (case k5 => omega); (case k6 => omega); (case k7 => omega); k_whole); intro h' F' N' hi' hl' hs'; clear hs'; (try k_sweep)))
local macro_rules | `(tactic| walk_at "InvEndN") => `(tactic| (refine InvEndN.intro (by assumption) (by assumption) ⟨.head _, ⟨_, _, rfl, by assumption⟩, by (intro z h1; first | rfl | (simp [h1]; done) | (simp_all; done))⟩ (by rfl) (by (with_unfolding_all ((try simp only [List.nil_append, List.cons_append]); k_allIn))) (by (intro p hp; k_ownIn))))
local macro_rules | `(tactic| walk_at "setItem ref ref ref") => `(tactic| (k_here; (with_reducible show wpAny _ _ (setItem (Value.ref _) (Value.ref _) (Value.ref _)) _ _ _); k_dflt (first
  | ((try dsimp only); refine' setslice_K (s := ⟨_, _, _, _, _⟩) 24 32 ?F ?N ?r ?ne ?U ?i ?j ?hx ?hy ?h1 ?h2 ?h3 ?h4 ?_; (case F => k_asm); (case N => k_asm); (case r => k_mem); (case ne => k_ne); (case U => k_upd); (case i => assumption); (case j => l_ints); (case hx => rfl); (case hy => rfl); (case h1 => decide); (case h2 => omega); (case h3 => rfl); (case h4 => omega); intro h' F' N' hi' hl'; (try k_sweep))
  | ((try dsimp only); refine' setslice_K (s := ⟨_, _, _, _, _⟩) 128 159 ?F ?N ?r ?ne ?U ?i ?j ?hx ?hy ?h1 ?h2 ?h3 ?h4 ?_; (case F => k_asm); (case N => k_asm); (case r => k_mem); (case ne => k_ne); (case U => k_upd); (case i => assumption); (case j => l_ints); (case hx => rfl); (case hy => rfl); (case h1 => decide); (case h2 => omega); (case h3 => rfl); (case h4 => omega); intro h' F' N' hi' hl'; (try k_sweep)))))
theorem signs_ok {w : World} {loose : List Str} {mean : ExcName → Option Value} {mg mb : Str → Option Value} :
    Spec 8 w loose mean mg mb 21 [] [] (fun r own' => ∃ D vs n, r = .ref D ∧ own' = [(D, listOf vs.toArray n)] ∧ IntsAre vs sigC) := by
  w_on
  w_strict (refine' spec_of (binds := []) (by k_is) (by k_is) (fun s => BindsTo.of_eq rfl) (locs rfl) rfl rfl rfl (by decide) (by decide) ?_; intro dp un gd cn cs L a ccd cl outer base g L' h₁ s tk Q E B hk F N X T hd hu hret; (try k_fold); k_steps; refine' hret _ _ _ _ _ ?ha (News.one ?hb ?hc) ⟨_, _, _, rfl, rfl, ?hd⟩; (case ha => with_reducible assumption); (case hb => with_reducible assumption); (case hc => k_memK); (case hd => exact sig_of rfl rfl (by with_reducible assumption)))
end

--deps: P01_base
/-- a turn's end: the loop's own object, and what else of the ledger stands -/
def LpEnd (h₀ : Heap) (L I : Addr) (oI : Obj) (keep : List (Addr × Obj)) (R : (Str → Option Value) → List (Addr × Obj) → Prop) (s₁ s₂ : Shared) : Prop :=
  ∃ h' tk m' nx, s₂ = { s₁ with heap := h', toks := tk } ∧ Fr h₀ L h' m' ∧ News h₀ L h' ((I, oI) :: nx) ∧ (∀ p ∈ nx, p.1 ≠ I) ∧ (∀ p ∈ keep, p ∈ nx) ∧ R m' nx
def LpPost (h₀ : Heap) (L I : Addr) (oI : Obj) (keep : List (Addr × Obj)) (R : (Str → Option Value) → List (Addr × Obj) → Prop) (s₁ : Shared) (Q : Flow → Shared → Prop) (f : Flow) (s₂ : Shared) : Prop :=
  match f with
  | .ret v => Q (.ret v) s₂
  | .brk => Q .next s₂
  | _ => LpEnd h₀ L I oI keep R s₁ s₂
theorem LpEnd.intro {h₀ : Heap} {L I : Addr} {oI : Obj} {keep : List (Addr × Obj)} {R : (Str → Option Value) → List (Addr × Obj) → Prop} {s₁ : Shared} {h' : Heap} {tk : Nat} {m' : Str → Option Value} {all : List (Addr × Obj)} (nx : List (Addr × Obj))
    (F : Fr h₀ L h' m') (r : R m' nx) (N : News h₀ L h' all) (hI : (I, oI) ∈ all) (hn : ∀ p ∈ nx, p ∈ all) (off : ∀ p ∈ nx, p.1 ≠ I) (hk : ∀ p ∈ keep, p ∈ nx) : LpEnd h₀ L I oI keep R s₁ { s₁ with heap := h', toks := tk } :=
  ⟨h', tk, m', nx, rfl, F, fun p hp => by
    rcases List.mem_cons.mp hp with e | hp
    · exact e ▸ N _ hI
    · exact N p (hn p hp), off, hk, r⟩
section
variable {prog : Program} {w : World} {A : Around} {E : Value → Shared → Prop} {s : Shared} {env : Env} {h₀ : Heap} {x : Str} {body : List Stmt} {Q : Flow → Shared → Prop}
theorem lp_loop {I : Addr} {fp : List Addr} {n : Nat} {P : Nat → Value → Prop} {St : Nat → Heap → Prop} {m₀ : Str → Option Value} {news : List (Addr × Obj)} (keep : List (Addr × Obj)) (R : Nat → (Str → Option Value) → List (Addr × Obj) → Prop)
    (W : Walks prog w A I fp [I] n P St) (hI₀ : h₀.get? I = none) (hLf : env.locals ∉ fp) (hIo : ∀ i h, St i h → ∃ o, h.get? I = some o) (hfp : ∀ b ∈ fp, b = I ∨ ∃ o, (b, o) ∈ keep)
    (hst : St 0 s.heap) (F : Fr h₀ env.locals s.heap m₀) (N : News h₀ env.locals s.heap news) (hk : ∀ p ∈ keep, p ∈ news) (hnw : ∀ p ∈ news, p.1 ≠ I) (hj : R 0 m₀ news)
    (turn : ∀ i v oI m₁ nx h tk, i < n → P i v → R i m₁ nx → (∀ p ∈ nx, p.1 ≠ I) → (∀ p ∈ keep, p ∈ nx) → Fr h₀ env.locals h (fun y => if y = x then some v else m₁ y) → News h₀ env.locals h ((I, oI) :: nx) →
      wpAny (model prog w) A (execs body env) (LpPost h₀ env.locals I oI keep (R (i + 1)) { s with heap := h, toks := tk } Q) E { s with heap := h, toks := tk })
    (done : ∀ m₁ nx h tk, R n m₁ nx → Fr h₀ env.locals h m₁ → News h₀ env.locals h nx → Q .next { s with heap := h, toks := tk }) :
    LoopAtV prog w A h₀ env x body Q E (.ref I) s := by
  refine ⟨I, fp, [I], n, P, St, m₀, news, (fun i m nx => (∀ p ∈ keep, p ∈ nx) ∧ R i m nx), rfl, W, hLf, ?_, ?_, hst, F, N, ⟨hk, hj⟩, ?_, ?_⟩
  · intro b hb
    rw [List.mem_singleton.mp hb]; exact hI₀
  · intro p hp hI
    exact hnw p hp (List.mem_singleton.mp hI)
  · rintro i v m₁ nx s₁ own ⟨h, tk, rfl⟩ hin hP ⟨hkn, hR⟩ hoff hown hget hall hst₁ F₁ N₁
    obtain ⟨oI, hoI⟩ := hIo _ _ hst₁
    have hIfp : I ∈ fp := W.sub I (List.mem_singleton.mpr rfl)
    have hIown : (I, oI) ∈ own := hall I hIfp hI₀ oI hoI
    have offI : ∀ p ∈ nx, p.1 ≠ I := fun p hp e => hoff p hp (List.mem_singleton.mpr e)
    have N₂ : News h₀ env.locals h ((I, oI) :: nx) := fun p hp => by
      rcases List.mem_cons.mp hp with e | hp
      · exact e ▸ N₁ _ (List.mem_append_left _ hIown)
      · exact N₁ p (List.mem_append_right _ hp)
    refine wpAny_mono (turn i v oI m₁ nx h tk hin hP hR offI hkn F₁ N₂) (fun f s₂ q => ?_) fun _ _ e => e
    have fin : LpEnd h₀ env.locals I oI keep (R (i + 1)) { s with heap := h, toks := tk } s₂ → LoopStepU h₀ env.locals [I] own (fun m nx => (∀ p ∈ keep, p ∈ nx) ∧ R (i + 1) m nx) { s with heap := h, toks := tk } .next s₂ := by
      rintro ⟨h', tk', m', nx', e, F', N', off', hk', hR'⟩
      refine ⟨rfl, h', tk', m', nx', e, F', fun p hp => ?_, fun p hp hq => off' p hp (List.mem_singleton.mp hq), hk', hR'⟩
      rcases List.mem_append.mp hp with hp | hp
      · obtain ⟨a, o⟩ := p
        rcases hfp _ (hown _ hp) with e | ⟨o', ho'⟩
        · have e' : a = I := e
          subst e'
          have h1 := hget _ hp
          rw [show h.get? a = some oI from hoI] at h1
          cases h1
          exact N' _ (.head _)
        · have h1 : h.get? a = some o := hget _ hp
          have h2 : h.get? a = some o' := (N₂ _ (.tail _ (hkn _ ho'))).1
          rw [h1] at h2
          cases h2
          exact N' _ (.tail _ (hk' _ ho'))
      · exact N' p (.tail _ hp)
    cases f with
    | ret v => exact .ret q
    | brk => exact .brk q
    | next => exact .next (fin q)
    | cont => exact .cont (fin q)
  · rintro h' tk m' news' F' N' _ ⟨_, hJ⟩
    exact done m' news' h' tk hJ F' N'
/-- over a text's signs -/
theorem lp_text {xt : Str} {tx : Tok} {m₀ : Str → Option Value} {news : List (Addr × Obj)} (R : Nat → (Str → Option Value) → List (Addr × Obj) → Prop) (hh : A.handled = none) (F : Fr h₀ env.locals s.heap m₀) (N : News h₀ env.locals s.heap news) (hj : R 0 m₀ news)
    (turn : ∀ i c u I oI m₁ nx h tk, xt.cps[i]? = some c → R i m₁ nx → (∀ p ∈ nx, p.1 ≠ I) → Fr h₀ env.locals h (fun y => if y = x then some (.str ⟨#[c]⟩ u) else m₁ y) → News h₀ env.locals h ((I, oI) :: nx) →
      wpAny (model prog w) A (execs body env) (LpPost h₀ env.locals I oI [] (R (i + 1)) { s with heap := h, toks := tk } Q) E { s with heap := h, toks := tk })
    (done : ∀ m₁ nx h tk, R xt.cps.size m₁ nx → Fr h₀ env.locals h m₁ → News h₀ env.locals h nx → Q .next { s with heap := h, toks := tk }) :
    wpAny (model prog w) A (pyIter (.str xt tx)) (fun it s₂ => LoopAtV prog w A h₀ env x body Q E it s₂) E s := by
  have key : ∀ ty : String, (∀ I : Addr, Walks prog w A I [I] [I] xt.cps.size (SignAt xt) (fun i h => h.IsStrIter I ty xt tx i)) → LoopAtV prog w A h₀ env x body Q E (.ref s.heap.objs.size) { s with heap := s.heap.push { cls := .type ty, data := .fields #[.str xt tx, .int 0 0] } } := by
    intro ty W
    refine lp_loop [] R (W s.heap.objs.size) (next_is_new F) ?_ ?_ ?_ ⟨_, Heap.get?_push_size _ rfl, rfl, rfl⟩ (F.push _) (fun p hp => ⟨Heap.get?_push_of_some _ (N p hp).1, (N p hp).2⟩) (fun _ h => nomatch h) ?_ hj ?_ done
    · intro hm
      exact absurd F.ns.lt ((List.mem_singleton.mp hm) ▸ Nat.lt_irrefl _)
    · rintro i h ⟨o, ho, _⟩
      exact ⟨o, ho⟩
    · intro b hb
      exact .inl (List.mem_singleton.mp hb)
    · intro p hp e
      exact absurd (Heap.lt_size (N p hp).1) (e ▸ Nat.lt_irrefl _)
    · rintro i v oI m₁ nx h tk hi ⟨c, u, hc, rfl⟩ hR hoff _ F₁ N₁
      exact turn i c u _ oI m₁ nx h tk hc hR hoff F₁ N₁
  cases ha : xt.cps.all (· < 128)
  · exact wpAny_pyIter_wide ha (key "str_iterator" fun I => Walks.strWide hh I xt tx)
  · exact wpAny_pyIter_ascii ha (key "str_ascii_iterator" fun I => Walks.strAscii hh I xt tx)
/-- over a range by ones -/
theorem lp_range {r : Addr} {a₀ b₀ : Int} {t₀ u₀ v₀ : Tok} {n : Nat} {m₀ : Str → Option Value} {news : List (Addr × Obj)} (R : Nat → (Str → Option Value) → List (Addr × Obj) → Prop)
    (hr : IsRange s.heap r a₀ b₀ 1 t₀ u₀ v₀) (hsmall : Builtin.Range.small a₀ b₀ 1 = true) (hn : Builtin.Range.rangeSize a₀ b₀ 1 = (n : Int)) (hh : A.handled = none) (F : Fr h₀ env.locals s.heap m₀) (N : News h₀ env.locals s.heap news) (hj : R 0 m₀ news)
    (turn : ∀ (i : Nat) t I oI m₁ nx h tk, i < n → R i m₁ nx → (∀ p ∈ nx, p.1 ≠ I) → Fr h₀ env.locals h (fun y => if y = x then some (.int (a₀ + (i : Int)) t) else m₁ y) → News h₀ env.locals h ((I, oI) :: nx) →
      wpAny (model prog w) A (execs body env) (LpPost h₀ env.locals I oI [] (R (i + 1)) { s with heap := h, toks := tk } Q) E { s with heap := h, toks := tk })
    (done : ∀ m₁ nx h tk, R n m₁ nx → Fr h₀ env.locals h m₁ → News h₀ env.locals h nx → Q .next { s with heap := h, toks := tk }) :
    wpAny (model prog w) A (pyIter (.ref r)) (fun it s₂ => LoopAtV prog w A h₀ env x body Q E it s₂) E s := by
  refine wpAny_pyIter_range hr hsmall ?_
  have W := (Walks.range (prog := prog) (w := w) hh s.heap.objs.size a₀ 1 n).bound
  refine lp_loop [] R W (next_is_new F) ?_ ?_ ?_ (by show IsRangeIter _ _ _ _ _; rw [hn]; simpa using Heap.get?_push_size _ rfl) (F.push _) (fun p hp => ⟨Heap.get?_push_of_some _ (N p hp).1, (N p hp).2⟩) (fun _ h => nomatch h) ?_ hj ?_ done
  · intro hm
    exact absurd F.ns.lt ((List.mem_singleton.mp hm) ▸ Nat.lt_irrefl _)
  · intro i h st
    exact ⟨_, st⟩
  · intro b hb
    exact .inl (List.mem_singleton.mp hb)
  · intro p hp e
    exact absurd (Heap.lt_size (N p hp).1) (e ▸ Nat.lt_irrefl _)
  · rintro i v oI m₁ nx h tk hi ⟨_, t, rfl⟩ hR hoff _ F₁ N₁
    have e1 : a₀ + (i : Int) * 1 = a₀ + (i : Int) := by omega
    rw [e1] at F₁
    exact turn i t _ oI m₁ nx h tk hi hR hoff F₁ N₁
/-- over a list of the ledger -/
theorem lp_list {l : Addr} {vs : List Value} {ns : List Int} {nn : Nat} {m₀ : Str → Option Value} {news : List (Addr × Obj)} (R : Nat → (Str → Option Value) → List (Addr × Obj) → Prop)
    (hl : (l, listOf vs.toArray nn) ∈ news) (hi : IntsAre vs ns) (hh : A.handled = none) (F : Fr h₀ env.locals s.heap m₀) (N : News h₀ env.locals s.heap news) (hj : R 0 m₀ news)
    (turn : ∀ i n t I oI m₁ nx h tk, ns[i]? = some n → R i m₁ nx → (∀ p ∈ nx, p.1 ≠ I) → (l, listOf vs.toArray nn) ∈ nx → Fr h₀ env.locals h (fun y => if y = x then some (.int n t) else m₁ y) → News h₀ env.locals h ((I, oI) :: nx) →
      wpAny (model prog w) A (execs body env) (LpPost h₀ env.locals I oI [(l, listOf vs.toArray nn)] (R (i + 1)) { s with heap := h, toks := tk } Q) E { s with heap := h, toks := tk })
    (done : ∀ m₁ nx h tk, R ns.length m₁ nx → Fr h₀ env.locals h m₁ → News h₀ env.locals h nx → Q .next { s with heap := h, toks := tk }) :
    wpAny (model prog w) A (pyIter (.ref l)) (fun it s₂ => LoopAtV prog w A h₀ env x body Q E it s₂) E s := by
  have hol : s.heap.get? l = some (listOf vs.toArray nn) := (N _ hl).1
  have hls : s.heap.IsList l vs.toArray := ⟨_, hol, rfl, nn, rfl⟩
  have hne : l ≠ s.heap.objs.size := Nat.ne_of_lt (Heap.lt_size hol)
  refine wpAny_pyIter_list hls ?_
  have W := Walks.list (prog := prog) (w := w) hh s.heap.objs.size l hne vs.toArray
  have hlen : vs.toArray.size = ns.length := by simp [hi.length]
  rw [hlen] at W
  refine lp_loop [(l, listOf vs.toArray nn)] R W (next_is_new F) ?_ ?_ ?_ ⟨⟨_, Heap.get?_push_size _ rfl, rfl, rfl⟩, hls.at fun o e => Heap.get?_push_of_some _ e⟩ (F.push _) (fun p hp => ⟨Heap.get?_push_of_some _ (N p hp).1, (N p hp).2⟩) (fun p hp => (List.mem_singleton.mp hp) ▸ hl) ?_ hj ?_ done
  · intro hm
    rcases List.mem_cons.mp hm with e | hm
    · exact absurd F.ns.lt (e ▸ Nat.lt_irrefl _)
    · exact (N _ hl).2.1 ((List.mem_singleton.mp hm).symm)
  · rintro i h ⟨⟨o, ho, _⟩, _⟩
    exact ⟨o, ho⟩
  · intro b hb
    rcases List.mem_cons.mp hb with e | hb
    · exact .inl e
    · rw [List.mem_singleton.mp hb]; exact .inr ⟨listOf vs.toArray nn, List.Mem.head _⟩
  · intro p hp e
    exact absurd (Heap.lt_size (N p hp).1) (e ▸ Nat.lt_irrefl _)
  · rintro i v oI m₁ nx h tk hin hP hR hoff hkp F₁ N₁
    have hlt' : i < ns.length := hin
    obtain ⟨t, hx⟩ := hi.get i ns[i] (by simp [hlt'])
    have hv : v = .int ns[i] t := by
      have hP' : vs[i]? = some v := by simpa using hP
      rw [hx] at hP'; exact (Option.some.inj hP').symm
    subst hv
    exact turn i ns[i] t _ oI m₁ nx h tk (by simp [hlt']) hR hoff (hkp _ (.head _)) F₁ N₁
end

section
variable {prog : Program} {w : World} {A : Around} {E : Value → Shared → Prop} {s : Shared} {h₀ : Heap} {L D : Addr} {m : Str → Option Value} {news : List (Addr × Obj)} {g : Obj → List (Addr × Obj)} {us : List Value} {xs : List Int} {n B : Nat} {k : Int} {t : Tok} {Q : Value → Shared → Prop}
theorem app_any {v : Value} (F : Fr h₀ L s.heap m) (N : News h₀ L s.heap news) (U : UpdF D (listOf us.toArray n) news g) (hb : us.length ≤ B) (hB : B ≤ 100000)
    (h : ∀ us' h', us' = us ++ [v] → us'.length ≤ B + 1 → Fr h₀ L h' m → News h₀ L h' (g (listOf us'.toArray (n + 1))) → Q .none { s with heap := h' }) : wpAny (model prog w) A (call (.builtin "list.append") [.ref D, v]) Q E s := by
  obtain ⟨pre, post, rfl, hg, a, b⟩ := U.split
  have z := N (D, listOf us.toArray n) (List.mem_append.mpr (.inr (.head _)))
  refine append_at (hsz := by rw [List.size_toArray, sizeLine_eq]; omega) z.1 fun h' hs ho' => ?_
  rw [List.push_toArray] at ho'
  exact h _ h' rfl (by rw [List.length_append, List.length_singleton]; omega) (F.change hs z.2.1 z.2.2) (by rw [hg]; exact news_set N a b hs ho')
/-- append of an int -/
theorem app_ints (F : Fr h₀ L s.heap m) (N : News h₀ L s.heap news) (U : UpdF D (listOf us.toArray n) news g) (hi : IntsAre us xs) (hb : xs.length ≤ B) (hB : B ≤ 100000)
    (h : ∀ us' h', IntsAre us' (xs ++ [k]) → (xs ++ [k]).length ≤ B + 1 → Fr h₀ L h' m → News h₀ L h' (g (listOf us'.toArray (n + 1))) → Q .none { s with heap := h' }) : wpAny (model prog w) A (call (.builtin "list.append") [.ref D, .int k t]) Q E s :=
  app_any F N U (by rw [hi.length]; exact hb) hB fun us' h' e _ F' N' => h us' h' (e ▸ hi.append (.cons _ _ .nil)) (by rw [List.length_append, List.length_singleton]; omega) F' N'
/-- append of a text -/
theorem app_strs {ys : List Str} {y : Str} (F : Fr h₀ L s.heap m) (N : News h₀ L s.heap news) (U : UpdF D (listOf us.toArray n) news g) (hi : StrsAre us ys) (hb : ys.length ≤ B) (hB : B ≤ 100000)
    (h : ∀ us' h', StrsAre us' (ys ++ [y]) → (ys ++ [y]).length ≤ B + 1 → Fr h₀ L h' m → News h₀ L h' (g (listOf us'.toArray (n + 1))) → Q .none { s with heap := h' }) : wpAny (model prog w) A (call (.builtin "list.append") [.ref D, .str y t]) Q E s :=
  app_any F N U (by rw [hi.length]; exact hb) hB fun us' h' e _ F' N' => h us' h' (e ▸ hi.append' (.cons _ _ .nil)) (by rw [List.length_append, List.length_singleton]; omega) F' N'
end

/-! ### while, by a measure -/
def WlEnd (h₀ : Heap) (L : Addr) (s : Shared) (R : Nat → (Str → Option Value) → List (Addr × Obj) → Prop) (n : Nat) (s₂ : Shared) : Prop :=
  ∃ h' tk m' nx n', s₂ = { s with heap := h', toks := tk } ∧ Fr h₀ L h' m' ∧ News h₀ L h' nx ∧ n' < n ∧ R n' m' nx
def WlPost (h₀ : Heap) (L : Addr) (s : Shared) (R : Nat → (Str → Option Value) → List (Addr × Obj) → Prop) (Q : Flow → Shared → Prop) (n : Nat) (f : Flow) (s₂ : Shared) : Prop :=
  match f with
  | .ret v => Q (.ret v) s₂
  | .brk => Q .next s₂
  | _ => WlEnd h₀ L s R n s₂
theorem WlEnd.intro {h₀ : Heap} {L : Addr} {s : Shared} {R : Nat → (Str → Option Value) → List (Addr × Obj) → Prop} {n n' : Nat} {h' : Heap} {tk : Nat} {m' : Str → Option Value} {nx all : List (Addr × Obj)}
    (F : Fr h₀ L h' m') (r : R n' m' nx) (hn : n' < n) (N : News h₀ L h' all) (hs : ∀ p ∈ nx, p ∈ all) : WlEnd h₀ L s R n { s with heap := h', toks := tk } :=
  ⟨h', tk, m', nx, n', rfl, F, fun p hp => N p (hs p hp), hn, r⟩
theorem wl_while {prog : Program} {w : World} {A : Around} {E : Value → Shared → Prop} {Q : Flow → Shared → Prop} {s : Shared} {env : Env} {h₀ : Heap} {L : Addr} {test : PySem.Expr} {body : List Stmt} {pos : Pos} {m₀ : Str → Option Value} {news : List (Addr × Obj)} {n₀ : Nat}
    (R : Nat → (Str → Option Value) → List (Addr × Obj) → Prop) (F : Fr h₀ L s.heap m₀) (N : News h₀ L s.heap news) (hR : R n₀ m₀ news)
    (turn : ∀ n m₁ nx h tk, R n m₁ nx → Fr h₀ L h m₁ → News h₀ L h nx →
      wpAny (model prog w) A (isTrue test env (eval test env)) (fun b s₂ => if b = true then wpAny (model prog w) A (execs body env) (WlPost h₀ L s R Q n) E s₂ else Q .next s₂) E { s with heap := h, toks := tk })
    (hE : PassesOwn (model prog w) A env E := by passes_own) :
    wpAny (model prog w) A (exec (.While test body [] pos) env) Q E s := by
  refine While_inv2 R F N hR ?_ hE
  intro n m₁ nx h tk F₁ N₁ hR₁
  refine wpAny_mono (turn n m₁ nx h tk hR₁ F₁ N₁) (fun b s₂ p => ?_) fun _ _ x => x
  cases b with
  | false => simpa using p
  | true =>
    simp only [if_true] at p ⊢
    refine wpAny_mono p (fun f s₃ q => ?_) fun _ _ x => x
    cases f with
    | ret v => exact q
    | brk => exact q
    | next =>
      obtain ⟨h', tk', m', nx', n', e, F', N', hn, r⟩ := q
      exact ⟨h', tk', m', nx', n', e, F', N', hn, r⟩
    | cont =>
      obtain ⟨h', tk', m', nx', n', e, F', N', hn, r⟩ := q
      exact ⟨h', tk', m', nx', n', e, F', N', hn, r⟩
/-! ### items -/
theorem ints_get : ∀ {vs : List Value} {xs : List Int}, IntsAre vs xs → ∀ {k : Nat}, k < xs.length → ∃ t, vs[k]? = some (.int (xs.getD k 0) t)
  | _, _, .cons n t _, 0, _ => ⟨t, rfl⟩
  | _, _, .cons _ _ h, k + 1, hk => ints_get h (Nat.lt_of_succ_lt_succ hk)
section
variable {prog : Program} {w : World} {A : Around} {E : Value → Shared → Prop} {s : Shared} {h₀ : Heap} {L l : Addr} {news : List (Addr × Obj)} {c : Nat} {vs : List Value} {Q : Value → Shared → Prop}
/-- an item of a list of ints -/
theorem item_ints {xs : List Int} {value slice : PySem.Expr} {k : Int} {u : Tok} 
    (N : News h₀ L s.heap news) (hm : (l, listOf vs.toArray c) ∈ news) (hi : IntsAre vs xs) (h0 : 0 ≤ k) (h1 : k < (xs.length : Int)) (hfit : k < 2 ^ 63) (h : ∀ t, Q (.int (xs.getD k.toNat 0) t) s)
    (hs : subscripted slice false (.ref l) (.int k u) = operate [.ref l, .int k u] (getItem (.ref l) (.int k u)) := by with_unfolding_all rfl) :
    wpAny (model prog w) A (subscriptTail value slice (.ref l) (.int k u)) Q E s := by
  have hl : s.heap.IsList l vs.toArray := ⟨_, (N _ hm).1, rfl, c, rfl⟩
  obtain ⟨t, ht⟩ := ints_get hi (k := k.toNat) (by omega)
  exact tail_any hl.typeIs slot_list_getitem.lookup (wpAny_getItem_list hl h0 hfit (by rw [List.getElem?_toArray]; exact ht) (h t)) hs
/-- the length of a list of ints -/
theorem len_ints {xs : List Int} (N : News h₀ L s.heap news) (hm : (l, listOf vs.toArray c) ∈ news) (hi : IntsAre vs xs) (hfit : xs.length ≤ 1000000)
    (h : ∀ t k, Q (.int (xs.length : Int) t) { s with toks := k }) : wpAny (model prog w) A (call (.builtin "len") [.ref l]) Q E s := by
  have e := hi.length
  refine len_list (News.isList N hm) (by rw [List.size_toArray, e]; omega) ?_
  have e2 : ((vs.toArray.size : Nat) : Int) = (xs.length : Int) := by rw [List.size_toArray, e]
  rw [e2]
  exact h _ _
/-- a text glued of signs -/
def chS (c : Int) : Str := ⟨#[c.toNat]⟩
theorem join_sum (cs : List Int) : ((cs.map chS).map (·.length)).sum = cs.length := by
  induction cs with
  | nil => rfl
  | cons a r ih =>
    simp only [List.map_cons, List.sum_cons, List.length_cons] at ih ⊢
    rw [ih]
    show 1 + r.length = r.length + 1
    omega
theorem join_chS : ∀ cs : List Int, PySem.Str.join (PySem.Str.ofString "") (cs.map chS) = KStt.txt cs
  | [] => rfl
  | [a] => rfl
  | a :: b :: r => by
    have ih := join_chS (b :: r)
    have e : PySem.Str.ofString "" = PySem.Str.empty := by decide +kernel
    show (chS a ++ PySem.Str.ofString "" ++ PySem.Str.join (PySem.Str.ofString "") ((b :: r).map chS)) = _
    rw [ih, e]
    refine PySem.Str.ext' (Array.toList_inj.mp ?_)
    simp [PySem.Str.cps_append, chS, KStt.txt, PySem.Str.empty]
theorem join_K {cs : List Int} {t : Tok} (N : News h₀ L s.heap news) (hm : (l, listOf vs.toArray c) ∈ news) (hi : StrsAre vs (cs.map chS)) (hb : cs.length ≤ 200000)
    (h : ∀ t' k, Q (.str (KStt.txt cs) t') { s with toks := k }) : wpAny (model prog w) A (call (.builtin "str.join") [.str (PySem.Str.ofString "") t, .ref l]) Q E s := by
  refine join_listC (News.isList N hm) (ys := cs.map chS) hi (by decide +kernel) (by rw [join_sum, List.length_map]; omega) fun t' k => ?_
  rw [show PySem.Txt.join (PySem.Str.ofString "") (cs.map chS) = KStt.txt cs from (StrLaws.glued_eq_join _ _).trans (join_chS cs)]
  exact h t' k
end
/-! ### addresses apart -/
def OffL (a : Addr) : List (Addr × Obj) → Prop
  | [] => True
  | p :: r => (@Ne Nat p.1 a) ∧ OffL a r
def ApartL : List (Addr × Obj) → List (Addr × Obj) → Prop
  | [], _ => True
  | p :: own, rest => OffL p.1 rest ∧ ApartL own rest
theorem OffL.of {a : Addr} : ∀ {l : List (Addr × Obj)}, (∀ q ∈ l, a ≠ q.1) → OffL a l
  | [], _ => trivial
  | _ :: _, h => ⟨fun e => h _ (.head _) e.symm, OffL.of fun q hq => h q (.tail _ hq)⟩
theorem ApartL.of {rest : List (Addr × Obj)} : ∀ {own : List (Addr × Obj)}, (∀ p ∈ own, ∀ q ∈ rest, p.1 ≠ q.1) → ApartL own rest
  | [], _ => trivial
  | _ :: _, h => ⟨OffL.of (h _ (.head _)), ApartL.of fun p hp => h p (.tail _ hp)⟩
theorem apart_cons {a : Addr} {o : Obj} {own rest : List (Addr × Obj)} (h : ∀ q ∈ rest, q.1 ≠ a) (k : ∀ p ∈ own, ∀ q ∈ rest, p.1 ≠ q.1) : ∀ p ∈ (a, o) :: own, ∀ q ∈ rest, p.1 ≠ q.1 := by
  intro p hp q hq
  rcases List.mem_cons.mp hp with rfl | hp
  · exact (h q hq).symm
  · exact k p hp q hq

--deps: P08_iter Dev
def unitsOf (c : Int) : List Int := if 65536 ≤ c then [55296 + (c - 65536) / 1024, 56320 + (c - 65536) % 1024] else [c]
theorem code_step {x : Str} {i c : Nat} (h : x.cps[i]? = some c) : (KStt.codes x).take (i + 1) = (KStt.codes x).take i ++ [(c : Int)] := by
  rw [List.take_add_one, KStt.code_at h]; rfl
theorem u_big {us : List Value} {xs : List Int} {c : Int} (h : 65536 ≤ c) (hi : IntsAre us (xs ++ [55296 + (c - 65536).fdiv 1024] ++ [56320 + (c - 65536).fmod 1024])) : IntsAre us (xs ++ unitsOf c) := by
  rw [Int.fdiv_eq_ediv_of_nonneg _ (by decide), Int.fmod_eq_emod_of_nonneg _ (by decide)] at hi
  unfold unitsOf
  rw [if_pos h]
  simpa [List.append_assoc] using hi
theorem u_small {us : List Value} {xs : List Int} {c : Int} (h : ¬ 65536 ≤ c) (hi : IntsAre us (xs ++ [c])) : IntsAre us (xs ++ unitsOf c) := by
  unfold unitsOf
  rw [if_neg h]; exact hi
theorem unitsOf_len (c : Int) : (unitsOf c).length ≤ 2 := by unfold unitsOf; split <;> simp
theorem flat_len (l : List Int) : (l.flatMap unitsOf).length ≤ 2 * l.length := by
  induction l with
  | nil => simp
  | cons a r ih => rw [List.flatMap_cons, List.length_append, List.length_cons]; have := unitsOf_len a; omega
/-- a loop over a text's signs that fills a list by f of each code -/
theorem tloop {prog : Program} {w : World} {A : Around} {E : Value → Shared → Prop} {s : Shared} {env : Env} {h₀ : Heap} {x : Str} {body : List Stmt} {Q : Flow → Shared → Prop} {xt : Str} {tx : Tok} {D : Addr} {n₀ : Nat} {m₀ : Str → Option Value} {led : List (Addr × Obj)} (f : Int → List Int) (tmp : Str)
    (F : Fr h₀ env.locals s.heap m₀) (N : News h₀ env.locals s.heap led) (hm : (D, listOf #[] n₀) ∈ led) (hlen : ∀ i, (((KStt.codes xt).take i).flatMap f).length ≤ 1000) (hh : A.handled = none := by rfl)
    (turn : ∀ (i c : Nat) u (q : Str → Option Value) us xs k I oI h tk, xt.cps[i]? = some c → i < xt.cps.size → IntsAre us xs → xs.length ≤ 1000 → (@Ne Nat D I) →
      Fr h₀ env.locals h (fun z => if z = x then some (.str ⟨#[c]⟩ u) else if z = tmp then q z else m₀ z) → News h₀ env.locals h [(I, oI), (D, listOf us.toArray k)] →
      wpAny (model prog w) A (execs body env) (LpPost h₀ env.locals I oI [] (fun m' nx => (∃ us' k', nx = [(D, listOf us'.toArray k')] ∧ IntsAre us' (xs ++ f c)) ∧ ∀ z, z ≠ x → z ≠ tmp → m' z = m₀ z) { s with heap := h, toks := tk } Q) E { s with heap := h, toks := tk })
    (done : ∀ (q : Str → Option Value) us k h tk, IntsAre us ((KStt.codes xt).flatMap f) →
      Fr h₀ env.locals h (fun z => if z = x then q z else if z = tmp then q z else m₀ z) → News h₀ env.locals h [(D, listOf us.toArray k)] → Q .next { s with heap := h, toks := tk }) :
    wpAny (model prog w) A (pyIter (.str xt tx)) (fun it s₂ => LoopAtV prog w A h₀ env x body Q E it s₂) E s := by
  refine lp_text (fun i m' nx => (∃ us k, nx = [(D, listOf us.toArray k)] ∧ IntsAre us (((KStt.codes xt).take i).flatMap f)) ∧ ∀ z, z ≠ x → z ≠ tmp → m' z = m₀ z) hh F (news := [(D, listOf #[] n₀)]) (fun p hp => (List.mem_singleton.mp hp) ▸ N _ hm) ⟨⟨[], n₀, rfl, by simpa using IntsAre.nil⟩, fun _ _ _ => rfl⟩ ?_ ?_
  · rintro i c u I oI m₁ nx h tk hc ⟨⟨us, k, rfl, hus⟩, hm₁⟩ hoff F₁ N₁
    have e1 : (fun z => if z = x then some (Value.str ⟨#[c]⟩ u) else m₁ z) = fun z => if z = x then some (Value.str ⟨#[c]⟩ u) else if z = tmp then m₁ z else m₀ z := by
      funext z
      by_cases h1 : z = x
      · simp only [if_pos h1]
      · simp only [if_neg h1]
        by_cases h2 : z = tmp
        · simp only [if_pos h2]
        · simp only [if_neg h2]; exact hm₁ z h1 h2
    rw [e1] at F₁
    have hlt : i < xt.cps.size := (Array.getElem?_eq_some_iff.mp hc).1
    have e2 : ((KStt.codes xt).take (i + 1)).flatMap f = ((KStt.codes xt).take i).flatMap f ++ f c := by
      rw [code_step hc, List.flatMap_append]; simp
    rw [e2]
    exact turn i c u m₁ us _ k I oI h tk hc hlt hus (hlen i) (hoff _ (.head _)) F₁ N₁
  · rintro m₁ nx h tk ⟨⟨us, k, rfl, hus⟩, hm₁⟩ F₁ N₁
    rw [show xt.cps.size = (KStt.codes xt).length from (KStt.codes_length xt).symm, List.take_length] at hus
    refine done m₁ us k h tk hus ?_ N₁
    have e1 : (fun z => if z = x then m₁ z else if z = tmp then m₁ z else m₀ z) = m₁ := by
      funext z
      by_cases h1 : z = x
      · simp only [if_pos h1]
      · simp only [if_neg h1]
        by_cases h2 : z = tmp
        · simp only [if_pos h2]
        · simp only [if_neg h2]; exact (hm₁ z h1 h2).symm
    rw [e1]; exact F₁
section
local macro_rules | `(tactic| walk_at "exec For Name Name cons nil") => `(tactic| (k_here; (with_reducible rename Fr _ _ _ _ => lF'); (with_unfolding_all refine' For_invVF lF' ?k1 ?k2 ?_; (case k1 => exact rfl); (case k2 => exact rfl); k_whole)))
local macro_rules | `(tactic| walk_at "pyIter str") => `(tactic| (k_here; (with_unfolding_all refine' tloop unitsOf (Str.ofString "code") ?F ?N ?m ?b rfl ?_ ?_; (case b => intro i9; refine Nat.le_trans (flat_len _) ?_; rw [List.length_take, KStt.codes_length]; unfold PySem.Str.length; omega); (case F => k_asm); (case N => k_asm); (case m => k_mem)); all_goals (first
    | (intro i' c' u' q' us' xs' k' I' oI' h' tk' hc' hlt' hi' he' hne' F' N'; (try clear lF'); k_fold)
    | (intro q' us' k' h' tk' hi' F' N'; (try clear lF'); (try dsimp only)))))
local macro_rules | `(tactic| walk_at "LpPost") => `(tactic| dsimp only [LpPost])
local macro_rules | `(tactic| walk_at "call builtin:list.append") => `(tactic| (k_here; (try dsimp only [List.cons_append, List.nil_append]); (with_reducible show wpAny _ _ (call (Value.builtin _) [Value.ref _, Value.int _ _]) _ _ _); k_dflt (refine' app_ints ?k1 ?k2 ?k3 ?k4 ?k5 ?k6 ?_; (case k1 => k_asm); (case k2 => k_asm); (case k3 => k_updF); (case k4 => with_reducible assumption); (case k5 => with_reducible assumption); (case k6 => omega); k_whole); intro us' h' hi' hl' F' N'; (try dsimp only at N'); (try k_sweep)))
local macro_rules | `(tactic| walk_at "LpEnd") => `(tactic| first | k_dflt (exact LpEnd.intro _ (by k_asm) ⟨⟨_, _, rfl, u_big (by assumption) (by with_reducible assumption)⟩, (by (intro z h1 h2; first | rfl | (simp [h1, h2]; done) | (simp_all; done)))⟩ (by k_asm) (by k_memK) (by (with_unfolding_all ((try simp only [List.nil_append, List.cons_append]); k_allIn))) (by k_all) (by (first | exact List.forall_mem_nil _ | (with_unfolding_all ((try simp only [List.nil_append, List.cons_append]); k_allIn))))) | k_dflt (exact LpEnd.intro _ (by k_asm) ⟨⟨_, _, rfl, u_small (by assumption) (by with_reducible assumption)⟩, (by (intro z h1 h2; first | rfl | (simp [h1, h2]; done) | (simp_all; done)))⟩ (by k_asm) (by k_memK) (by (with_unfolding_all ((try simp only [List.nil_append, List.cons_append]); k_allIn))) (by k_all) (by (first | exact List.forall_mem_nil _ | (with_unfolding_all ((try simp only [List.nil_append, List.cons_append]); k_allIn))))))
theorem units_ok {w : World} {loose : List Str} {mean : ExcName → Option Value} {mg mb : Str → Option Value} {x : Str} {t : Tok} (hx : x.cps.size ≤ 100) :
    Spec 8 w loose mean mg mb 28 [] [.str x t] (fun r own' => ∃ D vs n, r = .ref D ∧ own' = [(D, listOf vs.toArray n)] ∧ IntsAre vs ((KStt.codes x).flatMap unitsOf)) := by
  w_on
  w_strict (refine' spec_of (binds := [(Str.ofString "text", .str x t)]) (by k_is) (by k_is) (fun s => BindsTo.of_eq rfl) (locs rfl) rfl rfl rfl (by decide) (by decide) ?_; intro dp un gd cn cs L a ccd cl outer base g L' h₁ s tk Q E B hk F N X T hd hu hret; (try k_fold); k_steps; all_goals (first | exact hret _ _ _ _ _ (by assumption) (by assumption) ⟨_, _, _, rfl, rfl, by assumption⟩))
end

--deps: P08_iter Dev
/-- the codes that a row of units says -/
def readU : List Int → List Int
  | [] => []
  | [u] => if 55296 ≤ u ∧ u < 57344 then [65533] else [u]
  | u :: v :: r => if 55296 ≤ u ∧ u < 56320 ∧ 56320 ≤ v ∧ v < 57344 then (65536 + (u - 55296) * 1024 + v - 56320) :: readU r
    else (if 55296 ≤ u ∧ u < 57344 then 65533 else u) :: readU (v :: r)
def RdSt (xs : List Int) (i : Int) (done : List Int) : Prop := 0 ≤ i ∧ i ≤ (xs.length : Int) ∧ done ++ readU (xs.drop i.toNat) = readU xs ∧ (done.length : Int) ≤ i
theorem drop_at {xs : List Int} {i : Int} (h0 : 0 ≤ i) (h1 : i < (xs.length : Int)) : xs.drop i.toNat = xs.getD i.toNat 0 :: xs.drop (i + 1).toNat := by
  have h2 : i.toNat < xs.length := by omega
  rw [show (i + 1).toNat = i.toNat + 1 by omega, List.drop_eq_getElem_cons h2]
  simp [List.getElem?_eq_getElem h2]
theorem drop_end {xs : List Int} {i : Int} (h1 : (xs.length : Int) ≤ i) : xs.drop i.toNat = [] := List.drop_eq_nil_of_le (by omega)
theorem rd_pair {xs done : List Int} {i : Int} (S : RdSt xs i done) (h1 : i + 1 < (xs.length : Int)) (a : 55296 ≤ xs.getD i.toNat 0) (b : xs.getD i.toNat 0 < 56320) (c : 56320 ≤ xs.getD (i + 1).toNat 0) (d : xs.getD (i + 1).toNat 0 < 57344) :
    RdSt xs (i + 1 + 1) (done ++ [65536 + (xs.getD i.toNat 0 - 55296) * 1024 + xs.getD (i + 1).toNat 0 - 56320]) := by
  obtain ⟨h0, _, h2, h3⟩ := S
  refine ⟨by omega, by omega, ?_, by simp only [List.length_append, List.length_singleton]; omega⟩
  rw [← h2, drop_at h0 (by omega), drop_at (i := i + 1) (by omega) h1, readU, if_pos ⟨a, b, c, d⟩, List.append_assoc]
  rfl
theorem rd_one {xs done : List Int} {i : Int} (S : RdSt xs i done) (h1 : i < (xs.length : Int)) (hn : i + 1 < (xs.length : Int) → ¬ (55296 ≤ xs.getD i.toNat 0 ∧ xs.getD i.toNat 0 < 56320 ∧ 56320 ≤ xs.getD (i + 1).toNat 0 ∧ xs.getD (i + 1).toNat 0 < 57344)) :
    RdSt xs (i + 1) (done ++ [if 55296 ≤ xs.getD i.toNat 0 ∧ xs.getD i.toNat 0 < 57344 then 65533 else xs.getD i.toNat 0]) := by
  obtain ⟨h0, _, h2, h3⟩ := S
  refine ⟨by omega, by omega, ?_, by simp only [List.length_append, List.length_singleton]; omega⟩
  rw [← h2, drop_at h0 h1, List.append_assoc]
  congr 1
  by_cases h4 : i + 1 < (xs.length : Int)
  · rw [drop_at (i := i + 1) (by omega) h4, readU, if_neg (hn h4)]; rfl
  · rw [drop_end (by omega)]
    simp only [readU]
    split <;> rfl
theorem rd_half {xs done : List Int} {i : Int} (S : RdSt xs i done) (h1 : i < (xs.length : Int)) (a : 55296 ≤ xs.getD i.toNat 0) (b : xs.getD i.toNat 0 < 57344)
    (hn : i + 1 < (xs.length : Int) → ¬ (55296 ≤ xs.getD i.toNat 0 ∧ xs.getD i.toNat 0 < 56320 ∧ 56320 ≤ xs.getD (i + 1).toNat 0 ∧ xs.getD (i + 1).toNat 0 < 57344)) : RdSt xs (i + 1) (done ++ [65533]) := by
  have := rd_one S h1 hn
  rwa [if_pos ⟨a, b⟩] at this
theorem rd_unit {xs done : List Int} {i : Int} (S : RdSt xs i done) (h1 : i < (xs.length : Int)) (a : ¬ (55296 ≤ xs.getD i.toNat 0 ∧ xs.getD i.toNat 0 < 57344)) : RdSt xs (i + 1) (done ++ [xs.getD i.toNat 0]) := by
  have := rd_one S h1 fun _ h => a ⟨h.1, by omega⟩
  rwa [if_neg a] at this
theorem rd_end {xs done : List Int} {i : Int} (S : RdSt xs i done) (h1 : ¬ i < (xs.length : Int)) : done = readU xs := by
  obtain ⟨h0, _, h2, h3⟩ := S
  rw [drop_end (by omega)] at h2
  simpa [readU] using h2
theorem strs_chS {us : List Value} {done : List Int} {c : Int} (h : StrsAre us (done.map chS ++ [⟨#[c.toNat]⟩])) : StrsAre us ((done ++ [c]).map chS) := by
  rw [List.map_append]; exact h
theorem toNat_lt {i : Int} {n : Nat} (h0 : 0 ≤ i) (h1 : i < (n : Int)) : i.toNat < n := by omega
theorem getD_in {xs : List Int} {P : Int → Prop} (h : ∀ x ∈ xs, P x) {k : Nat} (hk : k < xs.length) : P (xs.getD k 0) := by
  rw [List.getD_eq_getElem?_getD, List.getElem?_eq_getElem hk]
  exact h _ (List.getElem_mem _)
/-- the while -/
def RdR (xs : List Int) (l D : Addr) (ol : Obj) (m₀ : Str → Option Value) (n : Nat) (m : Str → Option Value) (nx : List (Addr × Obj)) : Prop :=
  ∃ i t done us k, nx = [(D, listOf us.toArray k), (l, ol)] ∧ n = ((xs.length : Int) - i).toNat ∧ RdSt xs i done ∧ StrsAre us (done.map chS) ∧ m (Str.ofString "at") = some (.int i t) ∧ ∀ z, z ≠ Str.ofString "at" → z ≠ Str.ofString "unit" → m z = m₀ z
theorem rd_while {prog : Program} {w : World} {A : Around} {E : Value → Shared → Prop} {Q : Flow → Shared → Prop} {s : Shared} {env : Env} {h₀ : Heap} {L : Addr} {test : PySem.Expr} {body : List Stmt} {pos : Pos} {m₀ : Str → Option Value} {news : List (Addr × Obj)} {xs : List Int} {l D : Addr} {vs : List Value} {nn k₀ : Nat} {t₀ : Tok}
    (F : Fr h₀ L s.heap m₀) (N : News h₀ L s.heap news) (hn : ∀ p ∈ [(D, listOf #[] k₀), (l, listOf vs.toArray nn)], p ∈ news) (hi : IntsAre vs xs) (h0 : m₀ (Str.ofString "at") = some (.int 0 t₀))
    (turn : ∀ i t done us k (q : Str → Option Value) h tk, RdSt xs i done → done.length ≤ xs.length → StrsAre us (done.map chS) → 0 ≤ i → i ≤ (xs.length : Int) → (done.map chS).length ≤ xs.length →
      Fr h₀ L h (fun z => if z = Str.ofString "at" then some (.int i t) else if z = Str.ofString "unit" then q z else m₀ z) → News h₀ L h [(D, listOf us.toArray k), (l, listOf vs.toArray nn)] →
      wpAny (model prog w) A (isTrue test env (eval test env)) (fun b s₂ => if b = true then wpAny (model prog w) A (execs body env) (WlPost h₀ L s (RdR xs l D (listOf vs.toArray nn) m₀) Q ((xs.length : Int) - i).toNat) E s₂ else Q .next s₂) E { s with heap := h, toks := tk })
    (hE : PassesOwn (model prog w) A env E := by passes_own) :
    wpAny (model prog w) A (exec (.While test body [] pos) env) Q E s := by
  refine wl_while (RdR xs l D (listOf vs.toArray nn) m₀) F (news := [(D, listOf #[] k₀), (l, listOf vs.toArray nn)]) (fun p hp => N p (hn p hp)) (n₀ := xs.length) ⟨0, t₀, [], [], k₀, rfl, by omega, ⟨Int.le_refl 0, by omega, rfl, Int.le_refl 0⟩, .nil, h0, fun _ _ _ => rfl⟩ ?_ hE
  rintro n m₁ nx h tk ⟨i, t, done, us, k, rfl, rfl, S, hus, ha, hm⟩ F₁ N₁
  have e1 : m₁ = fun z => if z = Str.ofString "at" then some (Value.int i t) else if z = Str.ofString "unit" then m₁ z else m₀ z := by
    funext z
    by_cases h1 : z = Str.ofString "at"
    · simp only [if_pos h1]; rw [h1]; exact ha
    · simp only [if_neg h1]
      by_cases h2 : z = Str.ofString "unit"
      · simp only [if_pos h2]
      · simp only [if_neg h2]; exact hm z h1 h2
  rw [e1] at F₁
  obtain ⟨h1, h2, h3, h4⟩ := id S
  exact turn i t done us k m₁ h tk S (by omega) hus h1 h2 (by rw [List.length_map]; omega) F₁ N₁
section
local macro_rules | `(tactic| walk_at "exec While Compare cons nil") => `(tactic| (k_here; (with_unfolding_all refine' rd_while ?F ?N ?n ?i ?z ?_; (case F => k_asm); (case i => with_reducible assumption); (case N => k_asm); (case n => k_allIn); (case z => rfl)); intro i' t' done' us' k' q' h' tk' hS' hd' hu' h0' hi' hd2' F' N'; k_fold))
local macro_rules | `(tactic| walk_at "call builtin:len") => `(tactic| (k_here; (with_reducible show wpAny _ _ (call (Value.builtin "len") [Value.ref _]) _ _ _); k_dflt (refine' len_ints ?k1 ?k2 ?k3 ?k4 ?_; (case k1 => k_asm); (case k2 => k_mem); (case k3 => with_reducible assumption); (case k4 => omega); k_whole); intro _ _))
local macro_rules | `(tactic| walk_at "subscriptTail") => `(tactic| (k_here; (with_reducible show wpAny _ _ (subscriptTail _ _ (Value.ref _) (Value.int _ _)) _ _ _); k_dflt (refine' item_ints ?k1 ?k2 ?k3 ?k4 ?k5 ?k6 ?_ ?k7; (case k1 => k_asm); (case k2 => k_mem); (case k3 => with_reducible assumption); (case k4 => omega); (case k5 => omega); (case k6 => omega); (case k7 => with_unfolding_all rfl); k_whole); intro _))
local macro_rules | `(tactic| walk_at "call builtin:chr") => `(tactic| (k_here; (with_reducible show wpAny _ _ (call (Value.builtin "chr") [Value.int _ _]) _ _ _); k_dflt (refine' chr_of_range ?k1 ?k2 ?_; (case k1 => first | omega | ((rename (∀ k : Nat, k < _ → 0 ≤ _ ∧ _) => hgY); have hg := hgY _ (toNat_lt (by assumption) (by assumption)); omega)); (case k2 => first | omega | ((rename (∀ k : Nat, k < _ → 0 ≤ _ ∧ _) => hgY); have hg := hgY _ (toNat_lt (by assumption) (by assumption)); omega)); k_whole)))
local macro_rules | `(tactic| walk_at "call builtin:list.append") => `(tactic| (k_here; (try dsimp only [List.cons_append, List.nil_append]); (with_reducible show wpAny _ _ (call (Value.builtin _) [Value.ref _, Value.str _ _]) _ _ _); k_dflt (refine' app_strs ?k1 ?k2 ?k3 ?k4 ?k5 ?k6 ?_; (case k1 => k_asm); (case k2 => k_asm); (case k3 => k_updF); (case k4 => with_reducible assumption); (case k5 => with_reducible assumption); (case k6 => omega); k_whole); intro us' h' hi' hl' F' N'; (try dsimp only at N'); (try k_sweep)))
local macro_rules | `(tactic| walk_at "call builtin:str.join") => `(tactic| (k_here; (try dsimp only [List.cons_append, List.nil_append]); (with_reducible show wpAny _ _ (call (Value.builtin _) [Value.str _ _, Value.ref _]) _ _ _); k_dflt (refine' join_K ?k1 ?k2 ?k3 ?k4 ?_; (case k1 => k_asm); (case k2 => k_mem); (case k3 => with_reducible assumption); (case k4 => omega); k_whole); intro _ _))
local macro_rules | `(tactic| walk_at "WlPost") => `(tactic| dsimp only [WlPost])
local macro_rules | `(tactic| walk_at "WlEnd") => `(tactic| first
  | k_dflt (exact WlEnd.intro (by k_asm) ⟨_, _, _, _, _, rfl, rfl, rd_pair (by with_reducible assumption) (by omega) (by omega) (by omega) (by omega) (by omega), strs_chS (by with_reducible assumption), rfl, (by (intro z h1 h2; first | rfl | (simp [h1, h2]; done) | (simp_all; done)))⟩ (by omega) (by k_asm) (by (with_unfolding_all ((try simp only [List.nil_append, List.cons_append]); k_allIn))))
  | k_dflt (exact WlEnd.intro (by k_asm) ⟨_, _, _, _, _, rfl, rfl, rd_half (by with_reducible assumption) (by omega) (by omega) (by omega) (by omega), strs_chS (by with_reducible assumption), rfl, (by (intro z h1 h2; first | rfl | (simp [h1, h2]; done) | (simp_all; done)))⟩ (by omega) (by k_asm) (by (with_unfolding_all ((try simp only [List.nil_append, List.cons_append]); k_allIn))))
  | k_dflt (exact WlEnd.intro (by k_asm) ⟨_, _, _, _, _, rfl, rfl, rd_unit (by with_reducible assumption) (by omega) (by omega), strs_chS (by with_reducible assumption), rfl, (by (intro z h1 h2; first | rfl | (simp [h1, h2]; done) | (simp_all; done)))⟩ (by omega) (by k_asm) (by (with_unfolding_all ((try simp only [List.nil_append, List.cons_append]); k_allIn)))))
theorem read_ok {w : World} {loose : List Str} {mean : ExcName → Option Value} {mg mb : Str → Option Value} {l : Addr} {vs : List Value} {n : Nat} {xs : List Int} (hv : IntsAre vs xs) (hr : ∀ x ∈ xs, 0 ≤ x ∧ x < 65536) (hb : xs.length ≤ 1000) :
    Spec 8 w loose mean mg mb 35 [(l, listOf vs.toArray n)] [.ref l] (fun r own' => (∃ t, r = .str (KStt.txt (readU xs)) t) ∧ own' = [(l, listOf vs.toArray n)]) := by
  have hgX : ∀ k : Nat, k < xs.length → 0 ≤ xs.getD k 0 ∧ xs.getD k 0 < 65536 := fun k hk => getD_in hr hk
  w_on
  w_strict (refine' spec_of (binds := [(Str.ofString "units", .ref l)]) (by k_is) (by k_is) (fun s => BindsTo.of_eq rfl) (locs rfl) rfl rfl rfl (by decide) (by decide) ?_; intro dp un gd cn cs L a ccd cl outer base g L' h₁ s tk Q E B hk F N X T hd hu hret; (try k_fold); k_steps; exact hret _ _ _ _ _ (by assumption) (News.one (by assumption) (by k_memK)) ⟨⟨_, congrArg (fun c => Value.str (KStt.txt c) _) (rd_end (by assumption) (by assumption))⟩, rfl⟩)
end

--deps: P08_iter
def stepKs (a c : Int) (n : Nat) : List Int := (List.range n).map fun (i : Nat) => a + (i : Int) * c
theorem stepKs_length (a c : Int) (n : Nat) : (stepKs a c n).length = n := by simp [stepKs]
theorem stepKs_at (a c : Int) {n i : Nat} (h : i < n) : (stepKs a c n)[i]? = some (a + (i : Int) * c) := by simp [stepKs, h]
/-! ### list comprehensions over any source -/
section
variable {prog : Program} {w : World} {A : Around} {E : Value → Shared → Prop} {s : Shared} {h₀ : Heap} {L : Addr} {m : Str → Option Value} {env : Env}
def CSrc (prog : Program) (w : World) (A : Around) (h₀ : Heap) (L : Addr) (m : Str → Option Value) (env : Env) (elt : PySem.Expr) (x : Str) (scope : Scope) (cl : List (Str × Addr)) (Fin : Shared → List Value → List (Addr × Obj) → Prop) (E : Value → Shared → Prop) (xv : Value) (s₁ : Shared) : Prop :=
  wpAny (model prog w) A (pyIter xv) (fun it s₂ => ∃ (I : Addr) (fp : List Addr) (n : Nat) (P : Nat → Value → Prop) (St : Nat → Heap → Prop) (S : List (Addr × Obj) → Prop) (news : List (Addr × Obj)), it = .ref I ∧ Walks prog w A I fp [I] n P St ∧ n ≤ sizeLine ∧ (∀ i h, St i h → ∃ o, h.get? I = some o) ∧
    (∀ i h h' o nw, St i h → h.get? I = some o → h'.get? I = some o → (∀ b o, h₀.get? b = some o → h'.get? b = some o) → News h₀ L h' nw → S nw → St i h') ∧ St 0 s₂.heap ∧ (∀ b ∈ fp, b < s₂.heap.objs.size) ∧ Fr h₀ L s₂.heap m ∧ News h₀ L s₂.heap news ∧ L ≠ I ∧ h₀.get? I = none ∧
    (∀ p ∈ news, p.1 ≠ I) ∧ S news ∧ LCg.CompRest prog w A h₀ L m env elt x scope cl s₂ S P (Fin s₂) n 0 [] news) E s₁
theorem ListComp_M {elt iter : PySem.Expr} {x : Str} {px : Pos} {scope : Scope} {cl : List (Str × Addr)} {pos : Pos} {Q : Value → Shared → Prop} (F₀ : Fr h₀ L s.heap m)
    (hclos : closureFor scope env = pure cl) (hcell : ∀ y ∈ scope.names, y.2 ≠ .cell) (hkind : scope.kind = .function)
    (hnames : ∀ y ∈ scope.names, y.2 = .local → scope.names.lookup y.1 = some .local) (hx : scope.names.lookup x = some .local)
    (h : wpAny (model prog w) A (eval iter env) (CSrc prog w A h₀ L m env elt x scope cl (fun s₂ => LCg.FinE h₀ L m s₂ Q) E) E s)
    (hs : ∀ x, foldedSetIterable iter env x = pure x := by intro _; rfl) :
    wpAny (model prog w) A (eval (.ListComp elt [⟨.Name x px, iter, [], 0⟩] scope pos) env) Q E s := by
  rw [eval_ListComp]
  refine wpAny_comprehension_free (use := none) rfl hs hclos hkind hnames (wpAny_mono h (fun xv s₁ h₁ => ?_) fun _ _ e => e)
  refine wpAny_mono h₁ (fun it s₂ h₂ => ?_) fun _ _ e => e
  obtain ⟨I, fp, n, P, St, S, news, rfl, W, hsz, hIo, hSt, hst, hfp, F, N, hIL, hI₀, off, hS, R⟩ := h₂
  refine LCg.block_U W hsz hIo hSt hcell hkind hx hst hfp F N hIL hI₀ off hS R ?_
  intro D C h' tk m' ys news' F' N' o1 hn hC₀ hD₀ hCL hDL hCD offC fin
  refine ⟨m', hn, fun h'' hs'' => fin D h'' tk (F'.change hs'' hCL hC₀) (fun p hp => ?_) o1⟩
  refine ⟨hs''.extBut _ _ ?_ (N' p hp).1, (N' p hp).2⟩
  rcases List.mem_cons.mp hp with rfl | hp
  · exact Ne.symm hCD
  · exact offC p hp
theorem Assign_ListComp_M {elt iter : PySem.Expr} {x y : Str} {px py : Pos} {scope : Scope} {cl : List (Str × Addr)} {pos spos : Pos} {Q : Flow → Shared → Prop} (F₀ : Fr h₀ L s.heap m) (hLe : env.locals = L)
    (hsw : swapsWith (.ListComp elt [⟨.Name x px, iter, [], 0⟩] scope pos) (some (.Name y py)) spos.line env = pure true)
    (hclos : closureFor scope env = pure cl) (hcell : ∀ z ∈ scope.names, z.2 ≠ .cell) (hkind : scope.kind = .function)
    (hnames : ∀ z ∈ scope.names, z.2 = .local → scope.names.lookup z.1 = some .local) (hx : scope.names.lookup x = some .local)
    (hy : env.kindOf y = some .local) (hp : (env.scope.kind == .class || (env.scope.kind == .module && env.locals != env.globals)) = false)
    (h : wpAny (model prog w) A (eval iter env) (CSrc prog w A h₀ L m env elt x scope cl (fun s₂ => LCg.FinA h₀ L m s₂ y Q) E) E s)
    (hs : ∀ x, foldedSetIterable iter env x = pure x := by intro _; rfl) :
    wpAny (model prog w) A (exec (.Assign [.Name y py] (.ListComp elt [⟨.Name x px, iter, [], 0⟩] scope pos) spos) env) Q E s := by
  subst hLe
  rw [exec_Assign_Name_used _ _ _ _ hsw]
  refine wpAny_bind (wpAny_standAt (wpAny_bind ?_))
  show wpAny _ A (do let _ ← comprehension (.ListComp elt [⟨.Name x px, iter, [], 0⟩] scope pos) scope env _ (newList []) false (eval iter env) (some (assign (.Name y py) env))) _ _ s
  refine wpAny_bind (wpAny_mono (wpAny_comprehension_free (use := some (assign (.Name y py) env)) (Q := fun _ s' => Q .next s') rfl hs hclos hkind hnames
    (wpAny_mono h (fun xv s₁ h₁ => ?_) fun _ _ e => e)) (fun _ s' hq => wpAny_pure (wpAny_pure hq)) fun _ _ e => e)
  refine wpAny_mono h₁ (fun it s₂ h₂ => ?_) fun _ _ e => e
  obtain ⟨I, fp, n, P, St, S, news, rfl, W, hsz, hIo, hSt, hst, hfp, F, N, hIL, hI₀, off, hS, R⟩ := h₂
  refine LCg.block_U W hsz hIo hSt hcell hkind hx hst hfp F N hIL hI₀ off hS R ?_
  intro D C h' tk m' ys news' F' N' o1 hn hC₀ hD₀ hCL hDL hCD offC fin
  show wpAny _ A (assign (.Name y py) env (.ref D)) _ _ _
  refine wpAny_assign_Name (wpAny_storeName_local hy F'.ns (fun h₂ hn₂ hs₂ => ?_) hp)
  have hL₀ : h₀.get? env.locals = none := Heap.get?_none_of_le F'.above
  have F₂ : Fr h₀ env.locals h₂ (fun z => if z = y then some (.ref D) else m z) := ⟨hn₂, fun b o e => hs₂.extBut b o (fun q => by rw [q, hL₀] at e; cases e) (F'.keep b o e), F'.above⟩
  refine ⟨m', hn.sameBut hs₂ hCL, fun h'' hs'' => fin D h'' _ (F₂.change hs'' hCL hC₀) (fun p hp => ?_) o1⟩
  have z : h₂.get? p.1 = some p.2 := hs₂.extBut _ _ (N' p hp).2.1 (N' p hp).1
  refine ⟨hs''.extBut _ _ ?_ z, (N' p hp).2⟩
  rcases List.mem_cons.mp hp with rfl | hp
  · exact Ne.symm hCD
  · exact offC p hp

/-- each item by its source -/
inductive Each {α : Type} (res : α → Value → Prop) : List α → List Value → Prop
  | nil : Each res [] []
  | cons {a v as vs} : res a v → Each res as vs → Each res (a :: as) (v :: vs)
theorem Each.append {α : Type} {res : α → Value → Prop} {as bs : List α} {vs us : List Value} (h : Each res as vs) (k : Each res bs us) : Each res (as ++ bs) (vs ++ us) := by
  induction h with
  | nil => exact k
  | cons r _ ih => exact .cons r ih
theorem Each.ints {α : Type} {g : α → Int} {as : List α} {vs : List Value} (h : Each (fun a v => ∃ t, v = .int (g a) t) as vs) : IntsAre vs (as.map g) := by
  induction h with
  | nil => exact .nil
  | cons r _ ih => obtain ⟨t, rfl⟩ := r; exact .cons _ t ih
theorem Each.strs {α : Type} {g : α → Str} {as : List α} {vs : List Value} (h : Each (fun a v => ∃ t, v = .str (g a) t) as vs) : StrsAre vs (as.map g) := by
  induction h with
  | nil => exact .nil
  | cons r _ ih => obtain ⟨t, rfl⟩ := r; exact .cons _ t ih
theorem Each.bools {α : Type} {g : α → Bool} {as : List α} {vs : List Value} (h : Each (fun a v => v = .bool (g a)) as vs) : vs = (as.map g).map Value.bool := by
  induction h with
  | nil => rfl
  | cons r _ ih => rw [r, ih]; rfl

variable {elt : PySem.Expr} {x : Str} {scope : Scope} {cl : List (Str × Addr)} {S : List (Addr × Obj) → Prop} {P : Nat → Value → Prop} {news : List (Addr × Obj)}
def CEl (news : List (Addr × Obj)) (r : Value → Prop) (y : Value) (news' : List (Addr × Obj)) : Prop := news' = news ∧ r y
/-- the turns -/
def CTurn (prog : Program) (w : World) (A : Around) (h₀ : Heap) (L : Addr) (m : Str → Option Value) (env : Env) (elt : PySem.Expr) (x : Str) (scope : Scope) (cl : List (Str × Addr)) (s : Shared) (S : List (Addr × Obj) → Prop) (news : List (Addr × Obj)) (v : Value) (r : Value → Prop) : Prop :=
  ∀ I oI C oC D m₂ ys h tk (E' : Value → Shared → Prop), LCg.NsObj oC m₂ → m₂ x = some v → Fr h₀ L h m → News h₀ L h ((I, oI) :: (C, oC) :: (D, LCg.lst ys) :: news) → LCg.Off3 I C D news → ((@Ne Nat I C) ∧ (@Ne Nat I D) ∧ (@Ne Nat C D)) →
    wpAny (model prog w) A (eval elt (compEnvC scope cl C env)) (LCg.CompEnd h₀ L m { s with heap := h, toks := tk } I oI C oC D (LCg.lst ys) S (fun y news' => CEl news r y news')) E' { s with heap := h, toks := tk }
theorem cr_map {α : Type} {as : List α} {n : Nat} {Fin : List Value → List (Addr × Obj) → Prop} (res : α → Value → Prop) (hn : as.length = n) (hP : ∀ i v, i < n → P i v → ∃ a, as[i]? = some a ∧ CTurn prog w A h₀ L m env elt x scope cl s S news v (res a))
    (fin : ∀ ys, Each res as ys → Fin ys news) : LCg.CompRest prog w A h₀ L m env elt x scope cl s S P Fin n 0 [] news := by
  have key : ∀ (j i : Nat) (ys : List Value), i + j = n → Each res (as.take i) ys → LCg.CompRest prog w A h₀ L m env elt x scope cl s S P Fin j i ys news := by
    intro j
    induction j with
    | zero =>
      intro i ys hi hy
      have e : i = as.length := by omega
      subst e
      rw [List.take_length] at hy
      exact LCg.CompRest.zero (fin ys hy)
    | succ j ih =>
      intro i ys hi hy
      refine LCg.CompRest.succ ?_
      intro v I oI C oC D m₂ h tk E' hv hC hx F N off ne
      obtain ⟨a, ha, T⟩ := hP i v (by omega) hv
      refine wpAny_mono (T I oI C oC D m₂ ys h tk E' hC hx F N off ne) (fun y s₂ hq => ?_) fun _ _ e => e
      obtain ⟨h', tk', nw, e, F', N', off', hS, hn', hy'⟩ := hq
      rw [hn'] at N' off' hS
      refine ⟨h', tk', news, e, F', N', off', hS, ?_⟩
      refine ih (i + 1) _ (by omega) ?_
      rw [List.take_add_one, ha, Option.toList_some]
      exact hy.append (.cons hy' .nil)
  exact key n 0 [] (by omega) (by simp only [List.take_zero]; exact .nil)

variable {Fin : Shared → List Value → List (Addr × Obj) → Prop} {s₁ : Shared}
theorem CSrc.text {xt : Str} {tx : Tok} (res : Int → Value → Prop) (hh : A.handled = none) (F : Fr h₀ L s₁.heap m) (N : News h₀ L s₁.heap news) (hsz : xt.cps.size ≤ 100000)
    (turn : ∀ (c : Nat) u g, (c : Int) ∈ KStt.codes xt → CTurn prog w A h₀ L m env elt x scope cl { s₁ with heap := g } (fun _ => True) news (.str ⟨#[c]⟩ u) (res c))
    (fin : ∀ ys g, Each res (KStt.codes xt) ys → Fin { s₁ with heap := g } ys news) : CSrc prog w A h₀ L m env elt x scope cl Fin E (.str xt tx) s₁ := by
  have key : ∀ ty : String, (∀ I : Addr, Walks prog w A I [I] [I] xt.cps.size (SignAt xt) (fun i h => h.IsStrIter I ty xt tx i)) → _ := fun ty W =>
    show ∃ (I : Addr) (fp : List Addr) (n : Nat) (P : Nat → Value → Prop) (St : Nat → Heap → Prop) (S : List (Addr × Obj) → Prop) (news : List (Addr × Obj)), (Value.ref s₁.heap.objs.size) = .ref I ∧ Walks prog w A I fp [I] n P St ∧ n ≤ sizeLine ∧ (∀ i h, St i h → ∃ o, h.get? I = some o) ∧
      (∀ i h h' o nw, St i h → h.get? I = some o → h'.get? I = some o → (∀ b o, h₀.get? b = some o → h'.get? b = some o) → News h₀ L h' nw → S nw → St i h') ∧ St 0 (s₁.heap.push { cls := .type ty, data := .fields #[.str xt tx, .int 0 0] }) ∧ (∀ b ∈ fp, b < (s₁.heap.push { cls := .type ty, data := .fields #[.str xt tx, .int 0 0] }).objs.size) ∧ Fr h₀ L (s₁.heap.push { cls := .type ty, data := .fields #[.str xt tx, .int 0 0] }) m ∧ News h₀ L (s₁.heap.push { cls := .type ty, data := .fields #[.str xt tx, .int 0 0] }) news ∧ L ≠ I ∧ h₀.get? I = none ∧
      (∀ p ∈ news, p.1 ≠ I) ∧ S news ∧ LCg.CompRest prog w A h₀ L m env elt x scope cl { s₁ with heap := s₁.heap.push { cls := .type ty, data := .fields #[.str xt tx, .int 0 0] } } S P (Fin { s₁ with heap := s₁.heap.push { cls := .type ty, data := .fields #[.str xt tx, .int 0 0] } }) n 0 [] news from by
    refine ⟨s₁.heap.objs.size, _, _, _, _, (fun _ => True), news, rfl, W _, by rw [sizeLine_eq]; omega, ?_, ?_, ⟨_, Heap.get?_push_size _ rfl, rfl, rfl⟩, ?_, F.push _, (fun p hp => ⟨Heap.get?_push_of_some _ (N p hp).1, (N p hp).2⟩), Nat.ne_of_lt F.ns.lt, next_is_new F, (fun p hp => Nat.ne_of_lt (Heap.lt_size (N p hp).1)), trivial, ?_⟩
    · rintro i h ⟨o, ho, _⟩; exact ⟨o, ho⟩
    · rintro i h h' o nw ⟨o', ho', r⟩ e e' _ _ _
      rw [e] at ho'; cases ho'
      exact ⟨o, e', r⟩
    · intro b hb
      rw [List.mem_singleton.mp hb, Heap.size_push]; exact Nat.lt_succ_self _
    · refine cr_map res (KStt.codes_length xt) ?_ fun ys h => fin ys _ h
      rintro i v _ ⟨c, u, hc, rfl⟩
      exact ⟨_, KStt.code_at hc, turn c u _ (List.mem_of_getElem? (KStt.code_at hc))⟩
  unfold CSrc
  cases ha : xt.cps.all (· < 128)
  · exact wpAny_pyIter_wide ha (key "str_iterator" fun I => Walks.strWide hh I xt tx)
  · exact wpAny_pyIter_ascii ha (key "str_ascii_iterator" fun I => Walks.strAscii hh I xt tx)
theorem CSrc.bytes {b : Array UInt8} {ks : List Int} {tb : Tok} (res : Int → Value → Prop) (hk : KBw.bInts b = ks) (hh : A.handled = none) (F : Fr h₀ L s₁.heap m) (N : News h₀ L s₁.heap news) (hsz : ks.length ≤ 100000)
    (turn : ∀ (c : Int) u g, c ∈ ks → 0 ≤ c → c < 256 → CTurn prog w A h₀ L m env elt x scope cl { s₁ with heap := g } (fun _ => True) news (.int c u) (res c))
    (fin : ∀ ys g, Each res ks ys → Fin { s₁ with heap := g } ys news) : CSrc prog w A h₀ L m env elt x scope cl Fin E (.bytes b tb) s₁ := by
  subst hk
  unfold CSrc
  refine KBw.pyIter_bytes ⟨s₁.heap.objs.size, _, _, _, _, (fun _ => True), news, rfl, KBw.walks hh _ b tb, by rw [sizeLine_eq, ← KBw.ints_length]; omega, ?_, ?_, ⟨_, Heap.get?_push_size _ rfl, rfl, rfl⟩, ?_, F.push _, (fun p hp => ⟨Heap.get?_push_of_some _ (N p hp).1, (N p hp).2⟩), Nat.ne_of_lt F.ns.lt, next_is_new F, (fun p hp => Nat.ne_of_lt (Heap.lt_size (N p hp).1)), trivial, ?_⟩
  · rintro i h ⟨o, ho, _⟩; exact ⟨o, ho⟩
  · rintro i h h' o nw ⟨o', ho', r⟩ e e' _ _ _
    rw [e] at ho'; cases ho'
    exact ⟨o, e', r⟩
  · intro b hb
    rw [List.mem_singleton.mp hb]
    show _ < (s₁.heap.push _).objs.size
    rw [Heap.size_push]; exact Nat.lt_succ_self _
  · refine cr_map res (KBw.ints_length b) ?_ fun ys h => fin ys _ h
    rintro i v _ ⟨n, u, hn, rfl⟩
    have hn' := KBw.ints_get hn
    have hb := KBw.ints_in (List.mem_of_getElem? hn')
    exact ⟨_, hn', turn _ u _ (List.mem_of_getElem? hn') hb.1 hb.2⟩
theorem CSrc.range {r : Addr} {a b c : Int} {t u v : Tok} {n : Nat} (res : Int → Value → Prop) (hh : A.handled = none) (F : Fr h₀ L s₁.heap m) (N : News h₀ L s₁.heap news) (hr : IsRange s₁.heap r a b c t u v) (hsmall : Builtin.Range.small a b c = true) (hn : Builtin.Range.rangeSize a b c = (n : Int)) (hsz : n ≤ 100000)
    (turn : ∀ (i : Nat) u g, i < n → CTurn prog w A h₀ L m env elt x scope cl { s₁ with heap := g } (fun _ => True) news (.int (a + (i : Int) * c) u) (res (a + (i : Int) * c)))
    (fin : ∀ ys g, Each res (stepKs a c n) ys → Fin { s₁ with heap := g } ys news) : CSrc prog w A h₀ L m env elt x scope cl Fin E (.ref r) s₁ := by
  unfold CSrc
  refine wpAny_pyIter_range hr hsmall ⟨s₁.heap.objs.size, _, n, _, _, (fun _ => True), news, rfl, (Walks.range hh _ a c n).bound, by rw [sizeLine_eq]; omega, ?_, ?_, (by show IsRangeIter _ _ _ _ _; rw [hn]; simpa using Heap.get?_push_size _ rfl), ?_, F.push _, (fun p hp => ⟨Heap.get?_push_of_some _ (N p hp).1, (N p hp).2⟩), Nat.ne_of_lt F.ns.lt, next_is_new F, (fun p hp => Nat.ne_of_lt (Heap.lt_size (N p hp).1)), trivial, ?_⟩
  · intro i h st; exact ⟨_, st⟩
  · intro i h h' o nw st e e' _ _ _
    have st' : h.get? _ = some _ := st
    show h'.get? _ = some _
    rw [e', ← e]; exact st'
  · intro b hb
    rw [List.mem_singleton.mp hb]
    show _ < (s₁.heap.push _).objs.size
    rw [Heap.size_push]; exact Nat.lt_succ_self _
  · refine cr_map res (stepKs_length a c n) ?_ fun ys h => fin ys _ h
    rintro i v _ ⟨hi, t', rfl⟩
    exact ⟨a + (i : Int) * c, stepKs_at a c hi, turn i t' _ hi⟩
theorem CSrc.list {l : Addr} {vs : List Value} {ns : List Int} {k : Nat} (res : Int → Value → Prop) (hh : A.handled = none) (F : Fr h₀ L s₁.heap m) (N : News h₀ L s₁.heap news) (hm : (l, listOf vs.toArray k) ∈ news) (hi : IntsAre vs ns) (hsz : ns.length ≤ 100000)
    (turn : ∀ (c : Int) u g, c ∈ ns → CTurn prog w A h₀ L m env elt x scope cl { s₁ with heap := g } (fun nw => (l, listOf vs.toArray k) ∈ nw) news (.int c u) (res c))
    (fin : ∀ ys g, Each res ns ys → Fin { s₁ with heap := g } ys news) : CSrc prog w A h₀ L m env elt x scope cl Fin E (.ref l) s₁ := by
  unfold CSrc
  have hol : s₁.heap.get? l = some (listOf vs.toArray k) := (N _ hm).1
  have hls : s₁.heap.IsList l vs.toArray := ⟨_, hol, rfl, k, rfl⟩
  have hlt : l < s₁.heap.objs.size := Heap.lt_size hol
  refine wpAny_pyIter_list hls ⟨s₁.heap.objs.size, _, vs.toArray.size, _, _, (fun nw => (l, listOf vs.toArray k) ∈ nw), news, rfl, Walks.list hh _ l (Nat.ne_of_lt hlt) vs.toArray, by rw [sizeLine_eq, List.size_toArray, hi.length]; omega, ?_, ?_, ⟨⟨_, Heap.get?_push_size _ rfl, rfl, rfl⟩, hls.at fun o e => Heap.get?_push_of_some _ e⟩, ?_, F.push _, (fun p hp => ⟨Heap.get?_push_of_some _ (N p hp).1, (N p hp).2⟩), Nat.ne_of_lt F.ns.lt, next_is_new F, (fun p hp => Nat.ne_of_lt (Heap.lt_size (N p hp).1)), hm, ?_⟩
  · rintro i h ⟨⟨o, ho, _⟩, _⟩; exact ⟨o, ho⟩
  · rintro i h h' o nw ⟨⟨o', ho', r⟩, hl⟩ e e' _ N' S'
    rw [e] at ho'; cases ho'
    exact ⟨⟨o, e', r⟩, ⟨_, (N' _ S').1, rfl, k, rfl⟩⟩
  · intro b hb
    show b < (s₁.heap.push _).objs.size
    rw [Heap.size_push]
    rcases List.mem_cons.mp hb with rfl | hb
    · exact Nat.lt_succ_self _
    · rw [List.mem_singleton.mp hb]; exact Nat.lt_succ_of_lt hlt
  · refine cr_map res (by rw [List.size_toArray]; exact hi.length.symm) ?_ fun ys h => fin ys _ h
    intro i v _ hv
    obtain ⟨n, t, rfl, hn⟩ := IntsAre.at hi i v (by simpa using hv)
    exact ⟨n, hn, turn n t _ (List.mem_of_getElem? hn)⟩
end

--deps: P11_comp P07_signs P10_read P09_units
def startsB (b c : Array UInt8) : Bool :=
  if ((Builtin.Bytes.window b.size none none).2 - (Builtin.Bytes.window b.size none none).1 < c.size) then false else b.extract (Builtin.Bytes.window b.size none none).1.toNat ((Builtin.Bytes.window b.size none none).1.toNat + c.size) == c
theorem starts_tree (b c : Array UInt8) (t u : Tok) : Builtin.«bytes.startswith» ⟨[.bytes b t, .bytes c u], []⟩ = ret (Value.bool (startsB b c)) := by kernel_rfl
theorem gives_starts (b c : Array UInt8) (t u : Tok) : Gives (Builtin.«bytes.startswith» ⟨[.bytes b t, .bytes c u], []⟩) (.val (.bool (startsB b c))) := .of_eq (starts_tree b c t u)
theorem uints_inj {a b : List UInt8} (h : (a.map fun c => ((c.toNat : Nat) : Int)) = b.map fun c => ((c.toNat : Nat) : Int)) : a = b := by
  induction a generalizing b with
  | nil => cases b with
    | nil => rfl
    | cons y r => simp at h
  | cons x l ih => cases b with
    | nil => simp at h
    | cons y r =>
      simp only [List.map_cons, List.cons.injEq] at h
      have h1 : x.toNat = y.toNat := by omega
      rw [UInt8.toNat_inj.mp h1, ih h.2]
theorem bInts_inj {b c : Array UInt8} (h : KBw.bInts b = KBw.bInts c) : b = c := Array.toList_inj.mp (uints_inj h)
theorem startsB_mark {b : Array UInt8} {ks : List Int} (hk : KBw.bInts b = ks) : startsB b #[254, 255] = decide (ks.take 2 = [254, 255]) := by
  subst hk
  unfold startsB
  have e : Builtin.Bytes.window b.size none none = ((0 : Int), (b.size : Int)) := by
    unfold Builtin.Bytes.window
    simp
    split <;> omega
  rw [e]
  dsimp only
  have e1 : ((#[254, 255] : Array UInt8).size : Int) = 2 := rfl
  have e2 : (#[254, 255] : Array UInt8).size = 2 := rfl
  rw [e1]
  have e3 : KBw.bInts (b.extract 0 2) = (KBw.bInts b).take 2 := by
    unfold KBw.bInts
    simp
  by_cases h : (b.size : Int) - 0 < 2
  · rw [if_pos h]
    symm
    refine decide_eq_false fun q => ?_
    have := congrArg List.length q
    rw [List.length_take, KBw.ints_length] at this
    simp at this
    omega
  · rw [if_neg h, e2]
    show (b.extract 0 2 == #[254, 255]) = _
    by_cases q : (KBw.bInts b).take 2 = [254, 255]
    · rw [decide_eq_true q]
      exact beq_iff_eq.mpr (bInts_inj (by rw [e3, q]; rfl))
    · rw [decide_eq_false q]
      refine beq_eq_false_iff_ne.mpr fun e => q ?_
      rw [← e3, e]; rfl
section
variable {prog : Program} {w : World} {A : Around} {E : Value → Shared → Prop} {s : Shared} {b : Array UInt8} {t u : Tok}
theorem method_starts {M : Model} {pl : Sem Bool} {Q : Value × List Value → Shared → Prop} (h : Q (.builtin "bytes.startswith", [.bytes b t]) s) : wpAny M A (getMethod (.bytes b t) "startswith" pl) Q E s := by
  with_reducible exact KBd.method_of (Value.bytes b t) (typeIs_bytes _ _ _) FB.slot_bytes_startswith FB.type_bytes_startswith KBd.noRef h
theorem call_starts {ks : List Int} {Q : Value → Shared → Prop} (hk : KBw.bInts b = ks) (h : Q (.bool (decide (ks.take 2 = [254, 255]))) s) : wpAny (model prog w) A (call (.builtin "bytes.startswith") [.bytes b t, .bytes #[254, 255] u]) Q E s :=
  call_meets FB.slot_bytes_startswith (typeIs_bytes _ _ _) FB.entry_bytes_startswith (FB.args_bytes_startswith_2 _ _) (gives_starts b _ t u).meets (show (Made.val _).post _ s from by rw [startsB_mark hk]; exact h)
end
/-! ### texts by their codes -/
theorem txt_app (a b : List Int) : KStt.txt a ++ KStt.txt b = KStt.txt (a ++ b) := by
  refine PySem.Str.ext' (Array.toList_inj.mp ?_)
  simp [PySem.Str.cps_append, KStt.txt]
theorem codes_txt {l : List Int} (h : ∀ c ∈ l, 0 ≤ c) : KStt.codes (KStt.txt l) = l := by
  unfold KStt.codes KStt.txt
  simp only [List.map_map]
  exact (List.map_congr_left (g := _root_.id) fun c hc => Int.toNat_of_nonneg (h c hc)).trans (List.map_id _)
theorem txt_cps (l : List Int) : (KStt.txt l).cps = (l.map Int.toNat).toArray := rfl
theorem txt_size (l : List Int) : (KStt.txt l).cps.size = l.length := by rw [txt_cps]; simp
theorem Each.chs {f : Int → Int} {ks : List Int} {ys : List Value} (h : Each (fun c v => ∃ t, v = .str (chS (f c)) t) ks ys) : StrsAre ys ((ks.map f).map chS) := by
  rw [List.map_map]; exact h.strs
/-! ### pairs of octets -/
def pairsU : List Int → List Int
  | a :: b :: r => (a * 256 + b) :: pairsU r
  | _ => []
theorem pairsU_len : ∀ l : List Int, (pairsU l).length = l.length / 2
  | [] => rfl
  | [_] => by simp [pairsU]
  | a :: b :: r => by
    have := pairsU_len r
    simp only [pairsU, List.length_cons, this]
    omega
theorem pairsU_in : ∀ {l : List Int}, (∀ k ∈ l, 0 ≤ k ∧ k < 256) → ∀ u ∈ pairsU l, 0 ≤ u ∧ u < 65536
  | [], _, u, hu => nomatch hu
  | [_], _, u, hu => nomatch hu
  | a :: b :: r, h, u, hu => by
    have ha := h a (.head _)
    have hb := h b (.tail _ (.head _))
    rcases List.mem_cons.mp hu with rfl | hu
    · omega
    · exact pairsU_in (fun k hk => h k (.tail _ (.tail _ hk))) u hu
theorem pairsU_steps (f : Int → Int → Int) (hf : ∀ a b, f a b = a * 256 + b) : ∀ (n : Nat) (l : List Int) (p : List Int), l.length / 2 = n → (List.range n).map (fun (i : Nat) => f ((p ++ l).getD (p.length + 2 * i) 0) ((p ++ l).getD (p.length + 2 * i + 1) 0)) = pairsU l
  | 0, l, p, h => by
    match l, h with
    | [], _ => rfl
    | [_], _ => rfl
    | _ :: _ :: _, h => simp at h; omega
  | n + 1, l, p, h => by
    match l, h with
    | [], h => simp at h
    | [_], h => simp at h
    | a :: b :: r, h =>
      have ih := pairsU_steps f hf n r (p ++ [a, b]) (by simp at h; omega)
      rw [List.range_succ_eq_map, List.map_cons, pairsU, List.map_map]
      congr 1
      · rw [hf]
        simp [List.getD_eq_getElem?_getD]
      · rw [← ih]
        refine List.map_congr_left fun i _ => ?_
        simp only [Function.comp, List.append_assoc, List.length_append, List.length_cons, List.length_nil, List.cons_append, List.nil_append]
        rw [show p.length + 2 * i.succ = p.length + (0 + 1 + 1) + 2 * i by omega]
theorem pairs_of {ks : List Int} (h : 2 ≤ ks.length) : (stepKs 2 2 ((ks.length - 2) / 2)).map (fun at' => ks.getD at'.toNat 0 * 256 + ks.getD (at' + 1).toNat 0) = pairsU (ks.drop 2) := by
  rw [← pairsU_steps (fun a b => a * 256 + b) (fun _ _ => rfl) ((ks.length - 2) / 2) (ks.drop 2) (ks.take 2) (by rw [List.length_drop]), List.take_append_drop, List.length_take]
  unfold stepKs
  rw [List.map_map]
  refine List.map_congr_left fun i _ => ?_
  show ks.getD ((2 : Int) + (i : Int) * 2).toNat 0 * 256 + ks.getD ((2 : Int) + (i : Int) * 2 + 1).toNat 0 = _
  rw [show ((2 : Int) + (i : Int) * 2).toNat = min 2 ks.length + 2 * i by omega, show ((2 : Int) + (i : Int) * 2 + 1).toNat = min 2 ks.length + 2 * i + 1 by omega]
theorem range_pairs {n : Nat} (h : 2 ≤ n) : Builtin.Range.rangeSize 2 ((n : Int) - 1) 2 = (((n - 2) / 2 : Nat) : Int) := by
  unfold Builtin.Range.rangeSize
  rw [if_pos (by decide)]
  split <;> omega
theorem small_pairs {n : Nat} (h2 : 2 ≤ n) (h : n ≤ 1000) : Builtin.Range.small 2 ((n : Int) - 1) 2 = true := by
  unfold Builtin.Range.small
  rw [range_pairs h2]
  simp only [Builtin.Range.rangeFitsLong, Bool.and_eq_true, Bool.or_eq_true, decide_eq_true_eq, beq_iff_eq, show (2 : Int) > 0 by decide, if_true]
  omega
/-- what text_of yields -/
def textC (ks : List Int) : List Int :=
  if ks.take 2 = [254, 255] then readU (pairsU (ks.drop 2)) ++ (if ks.length % 2 = 1 then [65533] else []) else ks.map fun k => sigC.getD k.toNat 0
theorem sigC_len : sigC.length = 256 := by decide +kernel
theorem sigC_in : ∀ k : Nat, k < 256 → 0 ≤ sigC.getD k 0 ∧ sigC.getD k 0 < 65536 := by decide +kernel
theorem mark_len {ks : List Int} (e : ks.take 2 = [254, 255]) : 2 ≤ ks.length := by
  have := congrArg List.length e
  rw [List.length_take] at this
  simp at this
  omega
theorem CSrc.pairs {prog : Program} {w : World} {A : Around} {E : Value → Shared → Prop} {h₀ : Heap} {L : Addr} {m : Str → Option Value} {env : Env} {elt : PySem.Expr} {x : Str} {scope : Scope} {cl : List (Str × Addr)} {news : List (Addr × Obj)} {Fin : Shared → List Value → List (Addr × Obj) → Prop} {s₁ : Shared} {r : Addr} {t u v : Tok} {ks : List Int}
    (hr : IsRange s₁.heap r 2 ((ks.length : Int) - 1) 2 t u v) (hm : ks.take 2 = [254, 255]) (hb : ks.length ≤ 1000) (hh : A.handled = none) (F : Fr h₀ L s₁.heap m) (N : News h₀ L s₁.heap news)
    (turn : ∀ (i : Int) u g, 2 ≤ i → i + 1 < (ks.length : Int) → CTurn prog w A h₀ L m env elt x scope cl { s₁ with heap := g } (fun _ => True) news (.int i u) (fun v => ∃ t, v = .int (ks.getD i.toNat 0 * 256 + ks.getD (i + 1).toNat 0) t))
    (fin : ∀ ys g, IntsAre ys (pairsU (ks.drop 2)) → (pairsU (ks.drop 2)).length ≤ 1000 → Fin { s₁ with heap := g } ys news) : CSrc prog w A h₀ L m env elt x scope cl Fin E (.ref r) s₁ := by
  have h2 := mark_len hm
  refine CSrc.range (n := (ks.length - 2) / 2) (fun c v => ∃ t, v = .int (ks.getD c.toNat 0 * 256 + ks.getD (c + 1).toNat 0) t) hh F N hr (small_pairs h2 hb) (range_pairs h2) (by omega) (fun i u g hi => turn _ u g (by omega) (by omega)) fun ys g h => fin ys g ?_ ?_
  · have h' := h.ints
    rw [pairs_of h2] at h'
    exact h'
  · rw [pairsU_len]
    have : (ks.drop 2).length ≤ ks.length := by rw [List.length_drop]; omega
    omega
theorem textC_a {ks : List Int} (h : ¬ ks.take 2 = [254, 255]) : ks.map (fun k => sigC.getD k.toNat 0) = textC ks := by unfold textC; rw [if_neg h]
theorem readU_len : ∀ l : List Int, (readU l).length ≤ l.length
  | [] => Nat.le_refl _
  | [u] => by simp only [readU]; split <;> exact Nat.le_refl _
  | u :: v :: r => by
    have h1 := readU_len r
    have h2 := readU_len (v :: r)
    rw [readU]
    split
    · simp only [List.length_cons]; omega
    · simp only [List.length_cons] at h2 ⊢; omega
section
variable {prog : Program} {w : World} {A : Around} {E : Value → Shared → Prop} {s : Shared} {t u : Tok} {a : List Int} {Q : Value → Shared → Prop}
theorem add_txt (hb : a.length ≤ 100000) (h : ∀ t' tk, Q (.str (KStt.txt (a ++ [65533])) t') { s with toks := tk }) : wpAny (model prog w) A (binaryOp .Add (.str (KStt.txt a) t) (.str ⟨#[Int.toNat 65533]⟩ u)) Q E s := by
  refine PyProof.Rows.add_str (fun t' tk => ?_) (by rw [KStt.txt_length, sizeLine_eq]; show a.length + 1 ≤ _; omega)
  have := txt_app a [65533]
  rw [show (PySem.Str.mk #[Int.toNat 65533]) = KStt.txt [65533] from rfl, this]
  exact h t' tk
theorem add_none (hb : a.length ≤ 100000) (h : ∀ t' tk, Q (.str (KStt.txt (a ++ [])) t') { s with toks := tk }) : wpAny (model prog w) A (binaryOp .Add (.str (KStt.txt a) t) (.str (PySem.Str.ofString "") u)) Q E s := by
  refine PyProof.Rows.add_str (fun t' tk => ?_) (by rw [KStt.txt_length, sizeLine_eq, show (PySem.Str.ofString "").length = 0 from by decide +kernel]; omega)
  have := txt_app a []
  rw [show (PySem.Str.ofString "") = KStt.txt [] from by decide +kernel, this]
  exact h t' tk
end
theorem textC_b {ks : List Int} (h : ks.take 2 = [254, 255]) (h1 : (ks.length : Int).fmod 2 = 1) : readU (pairsU (ks.drop 2)) ++ [65533] = textC ks := by rw [Int.fmod_eq_emod_of_nonneg _ (by decide)] at h1; unfold textC; rw [if_pos h, if_pos (by omega)]
theorem textC_c {ks : List Int} (h : ks.take 2 = [254, 255]) (h1 : (ks.length : Int).fmod 2 ≠ 1) : readU (pairsU (ks.drop 2)) ++ [] = textC ks := by rw [Int.fmod_eq_emod_of_nonneg _ (by decide)] at h1; unfold textC; rw [if_pos h, if_neg (by omega)]
theorem pairs_fit {ks : List Int} (h : ks.length ≤ 1000) : (readU (pairsU (ks.drop 2))).length ≤ 100000 := by
  have h1 := readU_len (pairsU (ks.drop 2))
  rw [pairsU_len, List.length_drop] at h1
  omega

--deps: P12_bytes Dev
section
local macro_rules | `(tactic| walk_at "call ref") => `(tactic| first
  | (k_here; (with_reducible show wpAny _ _ (call (Value.ref 21) _) _ _ _); k_dflt (refine' Spec.use ?B ?F ?X ?N ?T (signs_ok) ?P ?D ?hk ?hd ?hu ?_; (case B => k_asm); (case F => k_asm); (case X => k_asm); (case N => k_asm); (case T => k_asm);  (case P => (first | exact Picks.nil | (refine' Picks.cons ?pp ?pq; (case pp => first | exact Pick.head | exact Pick.tail (Pick.head) | exact Pick.tail (Pick.tail (Pick.head)) | exact Pick.tail (Pick.tail (Pick.tail (Pick.head))) | exact Pick.tail (Pick.tail (Pick.tail (Pick.tail (Pick.head)))) | exact Pick.tail (Pick.tail (Pick.tail (Pick.tail (Pick.tail (Pick.head))))) | exact Pick.tail (Pick.tail (Pick.tail (Pick.tail (Pick.tail (Pick.tail (Pick.head)))))) | exact Pick.tail (Pick.tail (Pick.tail (Pick.tail (Pick.tail (Pick.tail (Pick.tail (Pick.head)))))))); (case pq => first | exact Picks.nil | (refine' Picks.cons ?pp ?pq; (case pp => first | exact Pick.head | exact Pick.tail (Pick.head) | exact Pick.tail (Pick.tail (Pick.head)) | exact Pick.tail (Pick.tail (Pick.tail (Pick.head))) | exact Pick.tail (Pick.tail (Pick.tail (Pick.tail (Pick.head)))) | exact Pick.tail (Pick.tail (Pick.tail (Pick.tail (Pick.tail (Pick.head))))) | exact Pick.tail (Pick.tail (Pick.tail (Pick.tail (Pick.tail (Pick.tail (Pick.head)))))) | exact Pick.tail (Pick.tail (Pick.tail (Pick.tail (Pick.tail (Pick.tail (Pick.tail (Pick.head)))))))); (case pq => first | exact Picks.nil | (refine' Picks.cons ?pp ?pq; (case pp => first | exact Pick.head | exact Pick.tail (Pick.head) | exact Pick.tail (Pick.tail (Pick.head)) | exact Pick.tail (Pick.tail (Pick.tail (Pick.head))) | exact Pick.tail (Pick.tail (Pick.tail (Pick.tail (Pick.head)))) | exact Pick.tail (Pick.tail (Pick.tail (Pick.tail (Pick.tail (Pick.head))))) | exact Pick.tail (Pick.tail (Pick.tail (Pick.tail (Pick.tail (Pick.tail (Pick.head)))))) | exact Pick.tail (Pick.tail (Pick.tail (Pick.tail (Pick.tail (Pick.tail (Pick.tail (Pick.head)))))))); (case pq => exact Picks.nil)))))))); (case D => (first | exact List.forall_mem_nil _ | (refine' apart_cons ?pa ?pb; (case pa => k_all); (case pb => first | exact List.forall_mem_nil _ | (refine' apart_cons ?pa ?pb; (case pa => k_all); (case pb => first | exact List.forall_mem_nil _ | (refine' apart_cons ?pa ?pb; (case pa => k_all); (case pb => exact List.forall_mem_nil _)))))))); (case hk => first | exact rfl | assumption); (case hd => ktr_room); (case hu => ktr_units)); intro r9 own9 h9 tk9 F9 N9 D9 hp9; ((obtain ⟨Ds, vs9, n9, er9, eo9, hi9⟩ := hp9; subst er9; subst eo9)); (replace D9 := ApartL.of D9); (try simp only [ApartL, OffL, and_true] at D9); (try simp only [List.cons_append, List.nil_append] at N9); (try dsimp only); (try k_sweep); (try k_fold))
  | (k_here; (with_reducible show wpAny _ _ (call (Value.ref 35) _) _ _ _); k_dflt (refine' Spec.use ?B ?F ?X ?N ?T (read_ok ?sa ?sb ?sc) ?P ?D ?hk ?hd ?hu ?_; (case B => k_asm); (case F => k_asm); (case X => k_asm); (case N => k_asm); (case T => k_asm); (case sa => with_reducible assumption); (case sb => with_reducible assumption); (case sc => with_reducible assumption); (case P => (first | exact Picks.nil | (refine' Picks.cons ?pp ?pq; (case pp => first | exact Pick.head | exact Pick.tail (Pick.head) | exact Pick.tail (Pick.tail (Pick.head)) | exact Pick.tail (Pick.tail (Pick.tail (Pick.head))) | exact Pick.tail (Pick.tail (Pick.tail (Pick.tail (Pick.head)))) | exact Pick.tail (Pick.tail (Pick.tail (Pick.tail (Pick.tail (Pick.head))))) | exact Pick.tail (Pick.tail (Pick.tail (Pick.tail (Pick.tail (Pick.tail (Pick.head)))))) | exact Pick.tail (Pick.tail (Pick.tail (Pick.tail (Pick.tail (Pick.tail (Pick.tail (Pick.head)))))))); (case pq => first | exact Picks.nil | (refine' Picks.cons ?pp ?pq; (case pp => first | exact Pick.head | exact Pick.tail (Pick.head) | exact Pick.tail (Pick.tail (Pick.head)) | exact Pick.tail (Pick.tail (Pick.tail (Pick.head))) | exact Pick.tail (Pick.tail (Pick.tail (Pick.tail (Pick.head)))) | exact Pick.tail (Pick.tail (Pick.tail (Pick.tail (Pick.tail (Pick.head))))) | exact Pick.tail (Pick.tail (Pick.tail (Pick.tail (Pick.tail (Pick.tail (Pick.head)))))) | exact Pick.tail (Pick.tail (Pick.tail (Pick.tail (Pick.tail (Pick.tail (Pick.tail (Pick.head)))))))); (case pq => first | exact Picks.nil | (refine' Picks.cons ?pp ?pq; (case pp => first | exact Pick.head | exact Pick.tail (Pick.head) | exact Pick.tail (Pick.tail (Pick.head)) | exact Pick.tail (Pick.tail (Pick.tail (Pick.head))) | exact Pick.tail (Pick.tail (Pick.tail (Pick.tail (Pick.head)))) | exact Pick.tail (Pick.tail (Pick.tail (Pick.tail (Pick.tail (Pick.head))))) | exact Pick.tail (Pick.tail (Pick.tail (Pick.tail (Pick.tail (Pick.tail (Pick.head)))))) | exact Pick.tail (Pick.tail (Pick.tail (Pick.tail (Pick.tail (Pick.tail (Pick.tail (Pick.head)))))))); (case pq => exact Picks.nil)))))))); (case D => (first | exact List.forall_mem_nil _ | (refine' apart_cons ?pa ?pb; (case pa => k_all); (case pb => first | exact List.forall_mem_nil _ | (refine' apart_cons ?pa ?pb; (case pa => k_all); (case pb => first | exact List.forall_mem_nil _ | (refine' apart_cons ?pa ?pb; (case pa => k_all); (case pb => exact List.forall_mem_nil _)))))))); (case hk => first | exact rfl | assumption); (case hd => ktr_room); (case hu => ktr_units)); intro r9 own9 h9 tk9 F9 N9 D9 hp9; ((obtain ⟨⟨t9, er9⟩, eo9⟩ := hp9; subst er9; subst eo9)); (replace D9 := ApartL.of D9); (try simp only [ApartL, OffL, and_true] at D9); (try simp only [List.cons_append, List.nil_append] at N9); (try dsimp only); (try k_sweep); (try k_fold)))
local macro_rules | `(tactic| walk_at "getMethod bytes") => `(tactic| (k_here; (with_reducible refine method_starts ?_)))
local macro_rules | `(tactic| walk_at "call builtin:bytes.startswith") => `(tactic| (k_here; (try dsimp only [List.cons_append, List.nil_append]); k_dflt (refine call_starts (by with_reducible assumption) ?_)))
local macro_rules | `(tactic| walk_at "eval ListComp") => `(tactic| (k_here; k_dflt (refine ListComp_M (F₀ := by k_asm) (by with_unfolding_all rfl) (by decide) (by rfl) (by decide) (by rfl) ?_)))
local macro_rules | `(tactic| walk_at "exec Assign cons ListComp") => `(tactic| (k_here; k_dflt (refine Assign_ListComp_M (F₀ := by k_asm) (by rfl) (by with_unfolding_all rfl) (by with_unfolding_all rfl) (by decide) (by rfl) (by decide) (by rfl) (by rfl) (by rfl) ?_)))
local macro_rules | `(tactic| walk_at "CSrc") => `(tactic| (k_here; first
  | ((with_reducible show CSrc _ _ _ _ _ _ _ _ _ _ _ _ _ (Value.bytes _ _) _); k_dflt (refine' CSrc.bytes (fun c v => ∃ t, v = .str (chS (sigC.getD c.toNat 0)) t) ?k1 rfl ?k2 ?k3 ?k4 ?_ ?_; (case k1 => with_reducible assumption); (case k2 => k_asm); (case k3 => k_asm); (case k4 => omega)); all_goals (first | (intro c9 u9 g9 hc9 hlo9 hhi9; (unfold CTurn; intro I' oI' C' oC' D' m' ys' h' tk' E' hC' hx' F' N' off' ne'; (try (simp only [LCg.Off3, and_true] at off')); (try dsimp only); k_fold)) | (intro ys9 g9 hy9; have hy9 := Each.chs hy9)))
  | ((with_reducible show CSrc _ _ _ _ _ _ _ _ _ _ _ _ _ (Value.ref _) _); (rename IsRange _ _ _ _ _ _ _ _ => rgX); k_dflt (refine' CSrc.pairs rgX ?k2 ?k3 rfl ?k5 ?k6 ?_ ?_; (case k2 => assumption); (case k3 => assumption); (case k5 => k_asm); (case k6 => k_asm)); all_goals (first | (intro i9 u9 g9 hlo9 hhi9; (unfold CTurn; intro I' oI' C' oC' D' m' ys' h' tk' E' hC' hx' F' N' off' ne'; (try (simp only [LCg.Off3, and_true] at off')); (try dsimp only); k_fold)) | (intro ys9 g9 hy9 hyl9)))))
local macro_rules | `(tactic| walk_at "subscriptTail") => `(tactic| (k_here; (with_reducible show wpAny _ _ (subscriptTail _ _ (Value.ref _) (Value.int _ _)) _ _ _); k_dflt (refine' item_ints ?k1 ?k2 ?k3 ?k4 ?k5 ?k6 ?_ ?k7; (case k1 => k_asm); (case k2 => k_mem); (case k3 => with_reducible assumption); (case k4 => omega); (case k5 => rw [sigC_len]; omega); (case k6 => omega); (case k7 => with_unfolding_all rfl); k_whole); intro _))
local macro_rules | `(tactic| walk_at "call builtin:chr") => `(tactic| (k_here; (with_reducible show wpAny _ _ (call (Value.builtin "chr") [Value.int _ _]) _ _ _); k_dflt (refine' chr_of_range ?k1 ?k2 ?_; (case k1 => first | omega | exact (sigC_in _ (by omega)).1); (case k2 => first | omega | exact Int.le_trans (Int.le_of_lt (sigC_in _ (by omega)).2) (by decide)); k_whole)))
local macro_rules | `(tactic| walk_at "call builtin:str.join") => `(tactic| (k_here; (try dsimp only [List.cons_append, List.nil_append]); (with_reducible show wpAny _ _ (call (Value.builtin _) [Value.str _ _, Value.ref _]) _ _ _); k_dflt (refine' join_K ?k1 ?k2 ?k3 ?k4 ?_; (case k1 => k_asm); (case k2 => k_mem); (case k3 => with_reducible assumption); (case k4 => rw [List.length_map]; omega); k_whole); intro _ _))
local macro_rules | `(tactic| walk_at "binaryOp Add str str") => `(tactic| (k_here; (first | ((with_reducible show wpAny _ _ (binaryOp _ _ (Value.str (PySem.Str.ofString _) _)) _ _ _); with_reducible refine' add_none ?k1 ?_; (case k1 => exact pairs_fit (by assumption)); k_whole) | ((with_reducible show wpAny _ _ (binaryOp _ _ (Value.str (PySem.Str.mk _) _)) _ _ _); with_reducible refine' add_txt ?k1 ?_; (case k1 => exact pairs_fit (by assumption)); k_whole)); intro _ _))
local macro_rules | `(tactic| walk_at "CompEnd") => `(tactic| first | k_dflt (exact LCg.CompEnd.intro (by k_asm) (by k_asm) _ (by kcf_all) (by first | assumption | (simp only [LCg.Off3, and_true]; omega)) (by trivial) ⟨rfl, ⟨_, rfl⟩⟩))
theorem text_ok {w : World} {loose : List Str} {mean : ExcName → Option Value} {mg mb : Str → Option Value} {b : Array UInt8} {tb : Tok} {ks : List Int} (hk' : KBw.bInts b = ks) (hb : ks.length ≤ 1000) :
    Spec 16 w loose mean mg mb 45 [] [.bytes b tb] (fun r own' => (∃ t, r = .str (KStt.txt (textC ks)) t) ∧ own' = []) := by
  have hS : ∀ k : Nat, k < 256 → 0 ≤ sigC.getD k 0 ∧ sigC.getD k 0 < 65536 := sigC_in
  have hpr : ∀ x ∈ pairsU (ks.drop 2), 0 ≤ x ∧ x < 65536 := pairsU_in fun k hk => by subst hk'; exact KBw.ints_in (List.mem_of_mem_drop hk)
  have hlen2 : ks.take 2 = [254, 255] → 2 ≤ ks.length := fun e => by have := congrArg List.length e; rw [List.length_take] at this; simp at this; omega
  w_on
  w_strict (refine' spec_ofC (binds := [(Str.ofString "octets", .bytes b tb)]) (by k_is) (by k_is) (fun s => BindsTo.of_eq rfl) (by rfl) (by decide +kernel) rfl rfl rfl (by decide) ?_; intro dp un gd cn cs L a ccd cl outer base g L' h₁ cells s tk Q E B hk F N Y l1 X T hd hu hret; k_cells Y; (try simp only [List.cons_append, List.nil_append] at N); (try dsimp only); (try k_fold); k_steps; all_goals ((try dsimp only); refine' hret _ _ _ _ _ ?ha News.nil ⟨⟨_, congrArg (fun c => Value.str (KStt.txt c) _) ?hc⟩, rfl⟩; (case ha => with_reducible assumption); (case hc => first | with_reducible exact textC_a (by assumption) | with_reducible exact textC_b (by assumption) (by assumption) | with_reducible exact textC_c (by assumption) (by assumption))))
end

--deps: P12_bytes P04_loops
/-- a loop over a range from 0 that turns a dict of ints; `rest` of the ledger stands by -/
theorem dlp {prog : Program} {w : World} {A : Around} {E : Value → Shared → Prop} {s : Shared} {env : Env} {h₀ : Heap} {x : Str} {body : List Stmt} {Q : Flow → Shared → Prop} {d r : Addr} {n : Nat} {b₀ : Int} {t₀ u₀ v₀ : Tok} {m₀ : Str → Option Value} {led rest : List (Addr × Obj)} {o₀ : Obj} {kvs₀ : List (Int × Value)} (g : List (Int × Int) → Int → List (Int × Int))
    (F : Fr h₀ env.locals s.heap m₀) (N : News h₀ env.locals s.heap led) (hr : IsRange s.heap r 0 b₀ 1 t₀ u₀ v₀) (hb : b₀ = (n : Int)) (hd₀ : o₀.IsDictOf (PySem.intKind prog w) kvs₀) (hf₀ : PyProof.V.FlatPairs PyData.int kvs₀ (kdfD [])) (P : Pick (d, o₀) led rest)
    (hn : n ≤ 1000) (hg : ∀ c k, (g c k).length ≤ c.length + 1) (hh : A.handled = none := by rfl)
    (turn : ∀ k t c o kvs I oI h tk, 0 ≤ k → k < (n : Int) → o.IsDictOf (PySem.intKind prog w) kvs → PyProof.V.FlatPairs PyData.int kvs (kdfD c) → c.length ≤ 1000 → OffL I ((d, o) :: rest) →
      Fr h₀ env.locals h (fun z => if z = x then some (.int k t) else m₀ z) → News h₀ env.locals h ((I, oI) :: (d, o) :: rest) →
      wpAny (model prog w) A (execs body env) (LpPost h₀ env.locals I oI [] (fun m' nx => (∃ o' kvs', nx = (d, o') :: rest ∧ o'.IsDictOf (PySem.intKind prog w) kvs' ∧ PyProof.V.FlatPairs PyData.int kvs' (kdfD (g c k))) ∧ ∀ z, z ≠ x → m' z = m₀ z) { s with heap := h, toks := tk } Q) E { s with heap := h, toks := tk })
    (done : ∀ (q : Str → Option Value) o kvs h tk, o.IsDictOf (PySem.intKind prog w) kvs → PyProof.V.FlatPairs PyData.int kvs (kdfD ((rangeKs 0 n).foldl g [])) →
      Fr h₀ env.locals h (fun z => if z = x then q z else m₀ z) → News h₀ env.locals h ((d, o) :: rest) → Q .next { s with heap := h, toks := tk }) :
    wpAny (model prog w) A (pyIter (.ref r)) (fun it s₂ => LoopAtV prog w A h₀ env x body Q E it s₂) E s := by
  subst hb
  have grow : ∀ (l' : List Int) (c : List (Int × Int)), (l'.foldl g c).length ≤ c.length + l'.length := by
    intro l'
    induction l' with
    | nil => intro c; exact Nat.le_refl _
    | cons a r ih =>
      intro c
      have h1 := ih (g c a)
      have h2 := hg c a
      simp only [List.foldl_cons, List.length_cons]
      omega
  have N1 : News h₀ env.locals s.heap ((d, o₀) :: rest) := fun p hp => by
    rcases List.mem_cons.mp hp with e | hp
    · exact e ▸ N _ P.mem.1
    · exact N _ (P.mem.2 _ hp)
  have hK : ∀ i, i < n → (rangeKs 0 n).take (i + 1) = (rangeKs 0 n).take i ++ [(i : Int)] := by
    intro i hi
    have : (rangeKs 0 n)[i]? = some ((0 : Int) + (i : Int)) := by simp [rangeKs, hi]
    rw [List.take_add_one, this, Option.toList_some, Int.zero_add]
  refine lp_range (n := n) (fun i m' nx => (∃ o kvs, nx = (d, o) :: rest ∧ o.IsDictOf (PySem.intKind prog w) kvs ∧ PyProof.V.FlatPairs PyData.int kvs (kdfD (((rangeKs 0 n).take i).foldl g []))) ∧ ∀ z, z ≠ x → m' z = m₀ z) hr
    (small_one (by decide) (by decide) (by omega) (by omega)) (by rw [rangeSize_nat]; omega) hh F N1 ⟨⟨o₀, kvs₀, rfl, hd₀, hf₀⟩, fun _ _ => rfl⟩ ?_ ?_
  · rintro i t I oI m₁ nx h tk hi ⟨⟨o, kvs, rfl, hd, hf⟩, hm₁⟩ hoff F₁ N₁
    have e1 : (fun z => if z = x then some (Value.int ((0 : Int) + (i : Int)) t) else m₁ z) = fun z => if z = x then some (Value.int (i : Int) t) else m₀ z := by
      funext z
      by_cases h1 : z = x
      · simp only [if_pos h1, Int.zero_add]
      · simp only [if_neg h1]; exact hm₁ z h1
    have e3 := grow ((rangeKs 0 n).take i) []
    have e4 : ((rangeKs 0 n).take i).length ≤ i := by rw [List.length_take]; omega
    have e5 : ([] : List (Int × Int)).length = 0 := rfl
    rw [e1] at F₁
    rw [hK i hi, List.foldl_append]
    exact turn (i : Int) t _ o kvs I oI h tk (by omega) (by omega) hd hf (by omega) (OffL.of fun q hq e => hoff q hq e.symm) F₁ N₁
  · rintro m₁ nx h tk ⟨⟨o, kvs, rfl, hd, hf⟩, hm₁⟩ F₁ N₁
    have e5 : (rangeKs 0 n).take n = rangeKs 0 n := List.take_of_length_le (Nat.le_of_eq (rangeKs_length _ _))
    rw [e5] at hf
    refine done m₁ o kvs h tk hd hf ?_ N₁
    have e1 : (fun z => if z = x then m₁ z else m₀ z) = m₁ := by
      funext z
      by_cases h1 : z = x
      · simp only [if_pos h1]
      · simp only [if_neg h1]; exact (hm₁ z h1).symm
    rw [e1]; exact F₁
/-- a loop over a list of the ledger that fills another by f of each int -/
theorem lfill {prog : Program} {w : World} {A : Around} {E : Value → Shared → Prop} {s : Shared} {env : Env} {h₀ : Heap} {x : Str} {body : List Stmt} {Q : Flow → Shared → Prop} {l D : Addr} {vs : List Value} {ns : List Int} {nn n₀ : Nat} {m₀ : Str → Option Value} {led : List (Addr × Obj)} (f : Int → List Int)
    (F : Fr h₀ env.locals s.heap m₀) (N : News h₀ env.locals s.heap led) (hl : (l, listOf vs.toArray nn) ∈ led) (hm : (D, listOf #[] n₀) ∈ led) (hi : IntsAre vs ns) (hne : @Ne Nat l D) (hlen : ∀ i, ((ns.take i).flatMap f).length ≤ 1000) (hh : A.handled = none := by rfl)
    (turn : ∀ n t us xs k I oI h tk, n ∈ ns → IntsAre us xs → xs.length ≤ 1000 → (@Ne Nat l D) ∧ (@Ne Nat D I) ∧ (@Ne Nat l I) →
      Fr h₀ env.locals h (fun z => if z = x then some (.int n t) else m₀ z) → News h₀ env.locals h [(I, oI), (D, listOf us.toArray k), (l, listOf vs.toArray nn)] →
      wpAny (model prog w) A (execs body env) (LpPost h₀ env.locals I oI [(l, listOf vs.toArray nn)] (fun m' nx => (∃ us' k', nx = [(D, listOf us'.toArray k'), (l, listOf vs.toArray nn)] ∧ IntsAre us' (xs ++ f n)) ∧ ∀ z, z ≠ x → m' z = m₀ z) { s with heap := h, toks := tk } Q) E { s with heap := h, toks := tk })
    (done : ∀ (q : Str → Option Value) us k h tk, IntsAre us (ns.flatMap f) → (ns.flatMap f).length ≤ 1000 →
      Fr h₀ env.locals h (fun z => if z = x then q z else m₀ z) → News h₀ env.locals h [(D, listOf us.toArray k), (l, listOf vs.toArray nn)] → Q .next { s with heap := h, toks := tk }) :
    wpAny (model prog w) A (pyIter (.ref l)) (fun it s₂ => LoopAtV prog w A h₀ env x body Q E it s₂) E s := by
  have N1 : News h₀ env.locals s.heap [(D, listOf #[] n₀), (l, listOf vs.toArray nn)] := fun p hp => by
    rcases List.mem_cons.mp hp with e | hp
    · exact e ▸ N _ hm
    · exact (List.mem_singleton.mp hp) ▸ N _ hl
  refine lp_list (fun i m' nx => (∃ us k, nx = [(D, listOf us.toArray k), (l, listOf vs.toArray nn)] ∧ IntsAre us ((ns.take i).flatMap f)) ∧ ∀ z, z ≠ x → m' z = m₀ z) (List.Mem.tail _ (.head _)) hi hh F N1 ⟨⟨[], n₀, rfl, by simpa using IntsAre.nil⟩, fun _ _ => rfl⟩ ?_ ?_
  · rintro i n t I oI m₁ nx h tk hn ⟨⟨us, k, rfl, hus⟩, hm₁⟩ hoff _ F₁ N₁
    have e1 : (fun z => if z = x then some (Value.int n t) else m₁ z) = fun z => if z = x then some (Value.int n t) else m₀ z := by
      funext z
      by_cases h1 : z = x
      · simp only [if_pos h1]
      · simp only [if_neg h1]; exact hm₁ z h1
    rw [e1] at F₁
    have e2 : (ns.take (i + 1)).flatMap f = (ns.take i).flatMap f ++ f n := by
      rw [List.take_add_one, hn, Option.toList_some, List.flatMap_append]; simp
    rw [e2]
    exact turn n t us _ k I oI h tk (List.mem_of_getElem? hn) hus (hlen i) ⟨hne, hoff _ (.head _), hoff _ (.tail _ (.head _))⟩ F₁ N₁
  · rintro m₁ nx h tk ⟨⟨us, k, rfl, hus⟩, hm₁⟩ F₁ N₁
    rw [List.take_length] at hus
    refine done m₁ us k h tk hus (by have := hlen ns.length; rwa [List.take_length] at this) ?_ N₁
    have e1 : (fun z => if z = x then m₁ z else m₀ z) = m₁ := by
      funext z
      by_cases h1 : z = x
      · simp only [if_pos h1]
      · simp only [if_neg h1]; exact (hm₁ z h1).symm
    rw [e1]; exact F₁
/-! ### places -/
def plStep (c : List (Int × Int)) (k : Int) : List (Int × Int) := if sigC.getD k.toNat 0 ≠ 65533 then kdfPut c (sigC.getD k.toNat 0) k else c
theorem plStep_put {c : List (Int × Int)} {k : Int} (h : sigC.getD k.toNat 0 ≠ 65533) : kdfPut c (sigC.getD k.toNat 0) k = plStep c k := by unfold plStep; rw [if_pos h]
theorem plStep_skip {c : List (Int × Int)} {k : Int} (h : sigC.getD k.toNat 0 = 65533) : c = plStep c k := by unfold plStep; rw [if_neg (fun q => q h)]
theorem plStep_len (c : List (Int × Int)) (k : Int) : (plStep c k).length ≤ c.length + 1 := by
  unfold plStep
  split
  · exact kdfPut_len _ _ _
  · omega
def plC : List (Int × Int) := (rangeKs 0 256).foldl plStep []
def hiLo (u : Int) : List Int := [u.fdiv 256, u.fmod 256]
/-- what octets_of yields -/
def octC (cs : List Int) : List Int :=
  if (cs.map (kdfHas plC)).all id = true ∧ ¬ (cs.map fun c => kdfLook plC c 0).take 2 = [254, 255] then cs.map fun c => kdfLook plC c 0
  else [254, 255] ++ (cs.flatMap unitsOf).flatMap hiLo
theorem octC_a {cs : List Int} (h : (cs.map (kdfHas plC)).all id = true) (h2 : ¬ (cs.map fun c => kdfLook plC c 0).take 2 = [254, 255]) : (cs.map fun c => kdfLook plC c 0) = octC cs := by unfold octC; rw [if_pos ⟨h, h2⟩]
theorem octC_b {cs : List Int} (h2 : (cs.map fun c => kdfLook plC c 0).take 2 = [254, 255]) : [254, 255] ++ (cs.flatMap unitsOf).flatMap hiLo = octC cs := by unfold octC; rw [if_neg fun q => q.2 h2]
theorem octC_c {cs : List Int} (h : (cs.map (kdfHas plC)).all id = false) : [254, 255] ++ (cs.flatMap unitsOf).flatMap hiLo = octC cs := by unfold octC; rw [if_neg fun q => by rw [h] at q; exact Bool.false_ne_true q.1]
theorem plC_in : ∀ p ∈ plC, 0 ≤ p.2 ∧ p.2 < 256 := by decide +kernel
theorem look_in (c : Int) : 0 ≤ kdfLook plC c 0 ∧ kdfLook plC c 0 < 256 := by
  unfold kdfLook
  cases h : plC.find? fun p => decide (p.1 = c) with
  | none => decide
  | some p => exact plC_in p (List.mem_of_find?_eq_some h)
theorem unit_in {c : Int} (h0 : 0 ≤ c) (h1 : c < 1114112) : ∀ u ∈ unitsOf c, 0 ≤ u ∧ u < 65536 := by
  unfold unitsOf
  intro u hu
  split at hu
  · rcases List.mem_cons.mp hu with rfl | hu
    · omega
    · rw [List.mem_singleton.mp hu]; omega
  · rw [List.mem_singleton.mp hu]; omega
theorem hiLo_in {us : List Int} (h : ∀ u ∈ us, 0 ≤ u ∧ u < 65536) : KBa.In (us.flatMap hiLo) := by
  intro b hb
  obtain ⟨u, hu, hb⟩ := List.mem_flatMap.mp hb
  have := h u hu
  unfold hiLo at hb
  rw [Int.fdiv_eq_ediv_of_nonneg _ (by decide), Int.fmod_eq_emod_of_nonneg _ (by decide)] at hb
  rcases List.mem_cons.mp hb with rfl | hb
  · omega
  · rw [List.mem_singleton.mp hb]; omega
theorem hiLo_len (l : List Int) : (l.flatMap hiLo).length = 2 * l.length := by
  induction l with
  | nil => rfl
  | cons a r ih => rw [List.flatMap_cons, List.length_append, ih, List.length_cons]; show 2 + _ = _; omega
theorem hiLo_fit {us : List Int} (h : us.length ≤ 400) (i : Nat) : ((us.take i).flatMap hiLo).length ≤ 1000 := by
  rw [hiLo_len, List.length_take]; omega
theorem Each.boolsAre {α : Type} {g : α → Bool} {as : List α} {vs : List Value} (h : Each (fun a v => v = .bool (g a)) as vs) : LSm.BoolsAre vs (as.map g) := by
  induction h with
  | nil => exact .nil
  | cons r _ ih => subst r; exact .cons _ ih
theorem has_of_all {cs : List Int} {c : Int} (h : (cs.map (kdfHas plC)).all id = true) (hc : c ∈ cs) : kdfHas plC c = true := by
  have := List.all_eq_true.mp h _ (List.mem_map_of_mem hc)
  exact this
theorem look_ins (cs : List Int) : KBa.In (cs.map fun c => kdfLook plC c 0) := by
  intro b hb
  obtain ⟨c, _, rfl⟩ := List.mem_map.mp hb
  exact look_in c
theorem units_in {cs : List Int} (h : ∀ c ∈ cs, 0 ≤ c ∧ c < 1114112) : ∀ u ∈ cs.flatMap unitsOf, 0 ≤ u ∧ u < 65536 := by
  intro u hu
  obtain ⟨c, hc, hu⟩ := List.mem_flatMap.mp hu
  exact unit_in (h c hc).1 (h c hc).2 u hu
theorem units_fit {x : Str} (h : x.cps.size ≤ 100) : ((KStt.codes x).flatMap unitsOf).length ≤ 400 := by
  have h1 := flat_len (KStt.codes x)
  have h2 := KStt.codes_length x
  unfold PySem.Str.length at h2
  omega
theorem fill_two {us : List Value} {xs : List Int} {n : Int} (h : IntsAre us (xs ++ [n.fdiv 256] ++ [n.fmod 256])) : IntsAre us (xs ++ hiLo n) := by
  rw [List.append_assoc] at h; exact h
theorem plEnd_put {kvs : List (Int × Value)} {c : List (Int × Int)} {k : Int} (h : sigC.getD k.toNat 0 ≠ 65533) (hf : PyProof.V.FlatPairs PyData.int kvs (kdfD (kdfPut c (sigC.getD k.toNat 0) k))) : PyProof.V.FlatPairs PyData.int kvs (kdfD (plStep c k)) := plStep_put h ▸ hf
theorem plEnd_skip {kvs : List (Int × Value)} {c : List (Int × Int)} {k : Int} (h : sigC.getD k.toNat 0 = 65533) (hf : PyProof.V.FlatPairs PyData.int kvs (kdfD c)) : PyProof.V.FlatPairs PyData.int kvs (kdfD (plStep c k)) := plStep_skip h ▸ hf

--deps: P14_oct Dev
section
local macro_rules | `(tactic| walk_at "call ref") => `(tactic| first
  | (k_here; (with_reducible show wpAny _ _ (call (Value.ref 21) _) _ _ _); k_dflt (refine' Spec.use ?B ?F ?X ?N ?T (signs_ok) ?P ?D ?hk ?hd ?hu ?_; (case B => k_asm); (case F => k_asm); (case X => k_asm); (case N => k_asm); (case T => k_asm);  (case P => (first | exact Picks.nil | (refine' Picks.cons ?pp ?pq; (case pp => first | exact Pick.head | exact Pick.tail (Pick.head) | exact Pick.tail (Pick.tail (Pick.head)) | exact Pick.tail (Pick.tail (Pick.tail (Pick.head))) | exact Pick.tail (Pick.tail (Pick.tail (Pick.tail (Pick.head)))) | exact Pick.tail (Pick.tail (Pick.tail (Pick.tail (Pick.tail (Pick.head))))) | exact Pick.tail (Pick.tail (Pick.tail (Pick.tail (Pick.tail (Pick.tail (Pick.head)))))) | exact Pick.tail (Pick.tail (Pick.tail (Pick.tail (Pick.tail (Pick.tail (Pick.tail (Pick.head)))))))); (case pq => first | exact Picks.nil | (refine' Picks.cons ?pp ?pq; (case pp => first | exact Pick.head | exact Pick.tail (Pick.head) | exact Pick.tail (Pick.tail (Pick.head)) | exact Pick.tail (Pick.tail (Pick.tail (Pick.head))) | exact Pick.tail (Pick.tail (Pick.tail (Pick.tail (Pick.head)))) | exact Pick.tail (Pick.tail (Pick.tail (Pick.tail (Pick.tail (Pick.head))))) | exact Pick.tail (Pick.tail (Pick.tail (Pick.tail (Pick.tail (Pick.tail (Pick.head)))))) | exact Pick.tail (Pick.tail (Pick.tail (Pick.tail (Pick.tail (Pick.tail (Pick.tail (Pick.head)))))))); (case pq => first | exact Picks.nil | (refine' Picks.cons ?pp ?pq; (case pp => first | exact Pick.head | exact Pick.tail (Pick.head) | exact Pick.tail (Pick.tail (Pick.head)) | exact Pick.tail (Pick.tail (Pick.tail (Pick.head))) | exact Pick.tail (Pick.tail (Pick.tail (Pick.tail (Pick.head)))) | exact Pick.tail (Pick.tail (Pick.tail (Pick.tail (Pick.tail (Pick.head))))) | exact Pick.tail (Pick.tail (Pick.tail (Pick.tail (Pick.tail (Pick.tail (Pick.head)))))) | exact Pick.tail (Pick.tail (Pick.tail (Pick.tail (Pick.tail (Pick.tail (Pick.tail (Pick.head)))))))); (case pq => exact Picks.nil)))))))); (case D => (first | exact List.forall_mem_nil _ | (refine' apart_cons ?pa ?pb; (case pa => k_all); (case pb => first | exact List.forall_mem_nil _ | (refine' apart_cons ?pa ?pb; (case pa => k_all); (case pb => first | exact List.forall_mem_nil _ | (refine' apart_cons ?pa ?pb; (case pa => k_all); (case pb => exact List.forall_mem_nil _)))))))); (case hk => first | exact rfl | assumption); (case hd => ktr_room); (case hu => ktr_units)); intro r9 own9 h9 tk9 F9 N9 D9 hp9; ((obtain ⟨Ds, vs9, n9, er9, eo9, hi9⟩ := hp9; subst er9; subst eo9)); (replace D9 := ApartL.of D9); (try simp only [ApartL, OffL, and_true] at D9); (try simp only [List.cons_append, List.nil_append] at N9); (try dsimp only); (try k_sweep); (try k_fold))
  | (k_here; (with_reducible show wpAny _ _ (call (Value.ref 28) _) _ _ _); k_dflt (refine' Spec.use ?B ?F ?X ?N ?T (units_ok ?sa) ?P ?D ?hk ?hd ?hu ?_; (case B => k_asm); (case F => k_asm); (case X => k_asm); (case N => k_asm); (case T => k_asm); (case sa => with_reducible assumption); (case P => (first | exact Picks.nil | (refine' Picks.cons ?pp ?pq; (case pp => first | exact Pick.head | exact Pick.tail (Pick.head) | exact Pick.tail (Pick.tail (Pick.head)) | exact Pick.tail (Pick.tail (Pick.tail (Pick.head))) | exact Pick.tail (Pick.tail (Pick.tail (Pick.tail (Pick.head)))) | exact Pick.tail (Pick.tail (Pick.tail (Pick.tail (Pick.tail (Pick.head))))) | exact Pick.tail (Pick.tail (Pick.tail (Pick.tail (Pick.tail (Pick.tail (Pick.head)))))) | exact Pick.tail (Pick.tail (Pick.tail (Pick.tail (Pick.tail (Pick.tail (Pick.tail (Pick.head)))))))); (case pq => first | exact Picks.nil | (refine' Picks.cons ?pp ?pq; (case pp => first | exact Pick.head | exact Pick.tail (Pick.head) | exact Pick.tail (Pick.tail (Pick.head)) | exact Pick.tail (Pick.tail (Pick.tail (Pick.head))) | exact Pick.tail (Pick.tail (Pick.tail (Pick.tail (Pick.head)))) | exact Pick.tail (Pick.tail (Pick.tail (Pick.tail (Pick.tail (Pick.head))))) | exact Pick.tail (Pick.tail (Pick.tail (Pick.tail (Pick.tail (Pick.tail (Pick.head)))))) | exact Pick.tail (Pick.tail (Pick.tail (Pick.tail (Pick.tail (Pick.tail (Pick.tail (Pick.head)))))))); (case pq => first | exact Picks.nil | (refine' Picks.cons ?pp ?pq; (case pp => first | exact Pick.head | exact Pick.tail (Pick.head) | exact Pick.tail (Pick.tail (Pick.head)) | exact Pick.tail (Pick.tail (Pick.tail (Pick.head))) | exact Pick.tail (Pick.tail (Pick.tail (Pick.tail (Pick.head)))) | exact Pick.tail (Pick.tail (Pick.tail (Pick.tail (Pick.tail (Pick.head))))) | exact Pick.tail (Pick.tail (Pick.tail (Pick.tail (Pick.tail (Pick.tail (Pick.head)))))) | exact Pick.tail (Pick.tail (Pick.tail (Pick.tail (Pick.tail (Pick.tail (Pick.tail (Pick.head)))))))); (case pq => exact Picks.nil)))))))); (case D => (first | exact List.forall_mem_nil _ | (refine' apart_cons ?pa ?pb; (case pa => k_all); (case pb => first | exact List.forall_mem_nil _ | (refine' apart_cons ?pa ?pb; (case pa => k_all); (case pb => first | exact List.forall_mem_nil _ | (refine' apart_cons ?pa ?pb; (case pa => k_all); (case pb => exact List.forall_mem_nil _)))))))); (case hk => first | exact rfl | assumption); (case hd => ktr_room); (case hu => ktr_units)); intro r9 own9 h9 tk9 F9 N9 D9 hp9; ((obtain ⟨Ds, vs9, n9, er9, eo9, hi9⟩ := hp9; subst er9; subst eo9)); (replace D9 := ApartL.of D9); (try simp only [ApartL, OffL, and_true] at D9); (try simp only [List.cons_append, List.nil_append] at N9); (try dsimp only); (try k_sweep); (try k_fold)))
local macro_rules | `(tactic| walk_at "getMethod bytes") => `(tactic| (k_here; (with_reducible refine method_starts ?_)))
local macro_rules | `(tactic| walk_at "call builtin:bytes.startswith") => `(tactic| (k_here; (try dsimp only [List.cons_append, List.nil_append]); k_dflt (refine call_starts (by with_reducible assumption) ?_)))
local macro_rules | `(tactic| walk_at "eval ListComp") => `(tactic| (k_here; k_dflt (refine ListComp_M (F₀ := by k_asm) (by with_unfolding_all rfl) (by decide) (by rfl) (by decide) (by rfl) ?_)))
local macro_rules | `(tactic| walk_at "exec For Name Call cons nil") => `(tactic| (k_here; (with_reducible rename Fr _ _ _ _ => lF'); (with_unfolding_all refine' For_invVF lF' ?k1 ?k2 ?_; (case k1 => exact rfl); (case k2 => exact rfl); k_whole)))
local macro_rules | `(tactic| walk_at "pyIter ref") => `(tactic| (k_here; first
  | ((with_unfolding_all refine' dlp (n := 256) plStep ?F ?N ?r ?z ?d ?f ?P ?nn ?g rfl ?_ ?_; (case F => k_asm); (case N => k_asm); (case r => assumption); (case z => first | rfl | decide); (case d => k_asm); (case f => k_asm); (case P => first | exact Pick.head | exact Pick.tail (Pick.head) | exact Pick.tail (Pick.tail (Pick.head)) | exact Pick.tail (Pick.tail (Pick.tail (Pick.head))) | exact Pick.tail (Pick.tail (Pick.tail (Pick.tail (Pick.head)))) | exact Pick.tail (Pick.tail (Pick.tail (Pick.tail (Pick.tail (Pick.head))))) | exact Pick.tail (Pick.tail (Pick.tail (Pick.tail (Pick.tail (Pick.tail (Pick.head)))))) | exact Pick.tail (Pick.tail (Pick.tail (Pick.tail (Pick.tail (Pick.tail (Pick.tail (Pick.head)))))))); (case nn => decide); (case g => exact plStep_len)); all_goals (first
    | (intro k9 t9 c9 o9 kvs9 I9 oI9 h9 tk9 hlo9 hhi9 hd9 hf9 hc9 hoff9 F9 N9; (try simp only [OffL, and_true] at hoff9); (have hhi8 := Int.toNat_of_nonneg hlo9); (try k_unmd); k_fold)
    | (intro q9 o9 kvs9 h9 tk9 hd9 hf9 F9 N9; k_dflt (replace hf9 : PyProof.V.FlatPairs PyData.int kvs9 (kdfD plC) := hf9); (try dsimp only))))
  | ((with_unfolding_all refine' lfill hiLo ?F ?N ?l ?m ?i ?ne ?len rfl ?_ ?_; (case F => k_asm); (case N => k_asm); (case l => k_mem); (case i => with_reducible assumption); (case m => k_mem); (case ne => first | omega | k_ne); (case len => exact hiLo_fit (units_fit (by assumption)))); all_goals (first
    | (intro n9 t9 us9 xs9 k9 I9 oI9 h9 tk9 hm9 hi9 hl9 hne9 F9 N9; k_fold)
    | (intro q9 us9 k9 h9 tk9 hi9 hl9 F9 N9; (try dsimp only))))))
local macro_rules | `(tactic| walk_at "LpPost") => `(tactic| dsimp only [LpPost])
local macro_rules | `(tactic| walk_at "subscriptTail") => `(tactic| (k_here; (with_reducible show wpAny _ _ (subscriptTail _ _ (Value.ref _) (Value.int _ _)) _ _ _); first
  | (k_dflt (refine' kdf_item ?k1 ?k2 ?_; (case k1 => k_tabat); (case k2 => exact has_of_all (by with_reducible assumption) (by with_reducible assumption))); intro _)
  | (k_dflt (refine' item_ints ?k1 ?k2 ?k3 ?k4 ?k5 ?k6 ?_ ?k7; (case k1 => k_asm); (case k2 => k_mem); (case k3 => with_reducible assumption); (case k4 => omega); (case k5 => rw [sigC_len]; omega); (case k6 => omega); (case k7 => with_unfolding_all rfl); k_whole); intro _)))
local macro_rules | `(tactic| walk_at "setItem ref int") => `(tactic| (k_here; (with_reducible show wpAny _ _ (setItem (Value.ref _) (Value.int _ _) (Value.int _ _)) _ _ _); k_dflt (refine' kdf_setItem ?F ?N ?U ?d ?f ?z ?_; (case F => k_asm); (case N => k_asm); (case U => k_updF); (case d => k_asm); (case f => k_asm); (case z => omega)); intro h' o' kvs' F' N' hd' hf'; (try dsimp only at N'); (try k_sweep)))
local macro_rules | `(tactic| walk_at "call builtin:list.append") => `(tactic| (k_here; (try dsimp only [List.cons_append, List.nil_append]); (with_reducible show wpAny _ _ (call (Value.builtin _) [Value.ref _, Value.int _ _]) _ _ _); k_dflt (refine' app_ints ?k1 ?k2 ?k3 ?k4 ?k5 ?k6 ?_; (case k1 => k_asm); (case k2 => k_asm); (case k3 => k_updF); (case k4 => with_reducible assumption); (case k5 => with_reducible assumption); (case k6 => omega); k_whole); intro us' h' hi' hl' F' N'; (try dsimp only at N'); (try k_sweep)))
local macro_rules | `(tactic| walk_at "CSrc") => `(tactic| (k_here; (with_reducible show CSrc _ _ _ _ _ _ _ _ _ _ _ _ _ (Value.str _ _) _); first
  | ((with_reducible rename (List.all _ _ = true) => hAll9); k_dflt (refine' CSrc.text (fun c v => ∃ t, v = .int (kdfLook plC c 0) t) rfl ?k2 ?k3 ?k4 ?_ ?_; (case k2 => k_asm); (case k3 => k_asm); (case k4 => omega)); all_goals (first | (intro c9 u9 g9 hc9; (unfold CTurn; intro I' oI' C' oC' D' m' ys' h' tk' E' hC' hx' F' N' off' ne'; (try (simp only [LCg.Off3, and_true] at off')); (try dsimp only); k_fold)) | (intro ys9 g9 hy9; have hy9 := Each.ints hy9)))
  | (k_dflt (refine' CSrc.text (fun c v => v = .bool (kdfHas plC c)) rfl ?k2 ?k3 ?k4 ?_ ?_; (case k2 => k_asm); (case k3 => k_asm); (case k4 => omega)); all_goals (first | (intro c9 u9 g9 hc9; (unfold CTurn; intro I' oI' C' oC' D' m' ys' h' tk' E' hC' hx' F' N' off' ne'; (try (simp only [LCg.Off3, and_true] at off')); (try dsimp only); k_fold)) | (intro ys9 g9 hy9; have hy9 := Each.boolsAre hy9)))))
local macro_rules | `(tactic| walk_at "CompEnd") => `(tactic| first | k_dflt (exact LCg.CompEnd.intro (by k_asm) (by k_asm) _ (by kcf_all) (by first | assumption | (simp only [LCg.Off3, and_true]; omega)) (by trivial) ⟨rfl, ⟨_, rfl⟩⟩) | k_dflt (exact LCg.CompEnd.intro (by k_asm) (by k_asm) _ (by kcf_all) (by first | assumption | (simp only [LCg.Off3, and_true]; omega)) (by trivial) ⟨rfl, rfl⟩))
local macro_rules | `(tactic| walk_at "compareOp In int ref") => `(tactic| (k_here; k_dflt (refine kdf_in (by k_tabat) ?_)))
local macro_rules | `(tactic| walk_at "call builtin:all") => `(tactic| (k_here; (with_reducible show wpAny _ _ (call (Value.builtin "all") [Value.ref _]) _ _ _); k_dflt (refine LSm.all_bools (by k_asm) (by k_asm) (by rfl) (News.isList (by k_asm) (by k_mem)) (by with_reducible assumption) ?_); intro h' tk' F' N'))
local macro_rules | `(tactic| walk_at "call type:bytes") => `(tactic| (k_here; (with_reducible show wpAny _ _ (call (Value.type "bytes") [Value.ref _]) _ _ _); k_dflt (refine' KBa.make_K ?kbaF ?kbaN ?kbah ?kbal ?kbai ?kbar ?kban ?_; (case kbaF => k_asm); (case kbaN => k_asm); (case kbah => rfl); (case kbal => exact News.isList (by k_asm) (by k_mem)); (case kbai => with_reducible assumption); (case kbar => first | exact look_ins _ | exact hiLo_in (units_in (by with_reducible assumption))); (case kban => first | omega | (rw [List.length_map, KStt.codes_length]; unfold PySem.Str.length; omega))); intro h' t' k' F' N' hIn9; have hIn9 := KBa.ints_make hIn9))
local macro_rules | `(tactic| walk_at "binaryOp Add bytes bytes") => `(tactic| (k_here; k_dflt (refine' KBa.add_K (ks := [254, 255]) ?k1 ?k2 ?k3 ?_; (case k1 => rfl); (case k2 => with_reducible assumption); (case k3 => simp only [List.length_cons, List.length_nil]; omega)); intro _ _ _))
local macro_rules | `(tactic| walk_at "LpEnd") => `(tactic| first
  | k_dflt (exact LpEnd.intro _ (by k_asm) ⟨⟨_, _, rfl, (by with_reducible assumption), plEnd_put (by with_reducible assumption) (by with_reducible assumption)⟩, (by (intro z h1; first | rfl | (simp [h1]; done) | (simp_all; done)))⟩ (by k_asm) (by k_memK) (by (with_unfolding_all ((try simp only [List.nil_append, List.cons_append]); k_allIn))) (by k_all) (by (first | exact List.forall_mem_nil _ | (with_unfolding_all ((try simp only [List.nil_append, List.cons_append]); k_allIn)))))
  | k_dflt (exact LpEnd.intro _ (by k_asm) ⟨⟨_, _, rfl, (by with_reducible assumption), plEnd_skip (by with_reducible assumption) (by with_reducible assumption)⟩, (by (intro z h1; first | rfl | (simp [h1]; done) | (simp_all; done)))⟩ (by k_asm) (by k_memK) (by (with_unfolding_all ((try simp only [List.nil_append, List.cons_append]); k_allIn))) (by k_all) (by (first | exact List.forall_mem_nil _ | (with_unfolding_all ((try simp only [List.nil_append, List.cons_append]); k_allIn)))))
  | k_dflt (exact LpEnd.intro _ (by k_asm) ⟨⟨_, _, rfl, fill_two (by with_reducible assumption)⟩, (by (intro z h1; first | rfl | (simp [h1]; done) | (simp_all; done)))⟩ (by k_asm) (by k_memK) (by (with_unfolding_all ((try simp only [List.nil_append, List.cons_append]); k_allIn))) (by k_all) (by (first | exact List.forall_mem_nil _ | (with_unfolding_all ((try simp only [List.nil_append, List.cons_append]); k_allIn))))))
theorem octets_ok {w : World} {loose : List Str} {mean : ExcName → Option Value} {mg mb : Str → Option Value} {x : Str} {t : Tok} (hx : x.cps.size ≤ 100) (hcs : ∀ c ∈ KStt.codes x, 0 ≤ c ∧ c < 1114112) :
    Spec 16 w loose mean mg mb 40 [] [.str x t] (fun r own' => (∃ b t, r = .bytes b t ∧ KBw.bInts b = octC (KStt.codes x)) ∧ own' = []) := by
  w_on
  w_strict (refine' spec_ofC (binds := [(Str.ofString "text", .str x t)]) (by k_is) (by k_is) (fun s => BindsTo.of_eq rfl) (by rfl) (by decide +kernel) rfl rfl rfl (by decide) ?_; intro dp un gd cn cs L a ccd cl outer base g L' h₁ cells s tk Q E B hk F N Y l1 X T hd hu hret; k_cells Y; (try simp only [List.cons_append, List.nil_append] at N); (try dsimp only); (try k_fold); k_steps; all_goals ((try dsimp only); (refine' hret _ _ _ _ _ ?ha News.nil ⟨⟨_, _, rfl, ?hc⟩, rfl⟩; (case ha => k_asm); (case hc => first | with_reducible exact (Eq.trans (by assumption) (octC_a (by assumption) (by assumption))) | with_reducible exact (Eq.trans (by assumption) (octC_b (by assumption))) | with_reducible exact (Eq.trans (by assumption) (octC_c (by assumption)))))))
end

--deps: P14_oct
abbrev gallop' : Bool → Keyed → Array Keyed → Nat → Nat → Nat → StateT SortSt Sem (Option Nat) := sortPriv% PySem.Builtin.gallop
abbrev mergeLo' : Array Keyed → Array Keyed → StateT SortSt Sem (Array Keyed) := sortPriv% PySem.Builtin.mergeLo
abbrev mergeHi' : Array Keyed → Array Keyed → StateT SortSt Sem (Array Keyed) := sortPriv% PySem.Builtin.mergeHi
def KIn (ks : List Int) (p : Keyed) : Prop := ∃ n t, p = (.int n t, .int n t) ∧ n ∈ ks
def Good (ks : List Int) (xs : Array Keyed) : Prop := ∀ p ∈ xs, KIn ks p
structure SI (ks : List Int) (N : Nat) (P : Array (Nat × Nat × Nat)) (st : SortSt) : Prop where
  kind : kindOf st = oneType'
  failed : failedOf st = none
  pend : pendingOf st = P
  size : (arrOf st).size = N
  good : ∀ p ∈ arrOf st, KIn ks p
section
variable {prog : Program} {w : World} {A : Around} {E : Value → Shared → Prop} {s : Shared} {ks : List Int} {N : Nat} {P : Array (Nat × Nat × Nat)}
theorem wpS_elem {xs : Array Keyed} {i : Nat} {st : SortSt} {Q : Keyed → SortSt → Prop} (hi : i < xs.size) (h : ∀ p, p ∈ xs → Q p st) : wpS (model prog w) A E s (elem' xs i) Q st := by
  rw [elem'_eq, getElem?_pos xs i hi]
  exact wpS_pure (h _ (by simp))
theorem wpS_lt {p q : Keyed} {st : SortSt} {Q : Option Bool → SortSt → Prop} (hI : SI ks N P st) (hp : KIn ks p) (hq : KIn ks q) (h : ∀ b, Q (some b) st) : wpS (model prog w) A E s (lt' p q) Q st := by
  obtain ⟨a, t, rfl, _⟩ := hp
  obtain ⟨b, u, rfl, _⟩ := hq
  rw [lt'_eq]
  refine wpS_bind (wpS_get ?_)
  rw [hI.kind, keyLt'_oneType]
  refine wpS_bind (wpS_lift (wpAny_attempt (oneLt_int ⟨rfl, ?_⟩)))
  exact wpS_pure (h _)
theorem wpS_ltAtI {i j : Nat} {st : SortSt} {Q : Option Bool → SortSt → Prop} (hI : SI ks N P st) (hi : i < N) (hj : j < N) (h : ∀ b, Q (some b) st) : wpS (model prog w) A E s (ltAt' i j) Q st := by
  rw [ltAt'_eq]
  refine wpS_bind (wpS_get (wpS_bind (wpS_elem (by rw [hI.size]; exact hi) fun p hp => wpS_bind (wpS_elem (by rw [hI.size]; exact hj) fun q hq => ?_))))
  exact wpS_lt hI (hI.good p hp) (hI.good q hq) h
theorem wpS_gallop {left : Bool} {key : Keyed} {arr : Array Keyed} {base n hint : Nat} {st : SortSt} {Q : Option Nat → SortSt → Prop} (hI : SI ks N P st) (hk : KIn ks key) (ha : Good ks arr)
    (hb : base + n ≤ arr.size) (hh : hint < n) (h : ∀ k, k ≤ n → Q (some k) st) : wpS (model prog w) A E s (gallop' left key arr base n hint) Q st := by
  have beyond : ∀ {Q' : Option Bool → SortSt → Prop} (i : Nat), i < n → (∀ b, Q' (some b) st) → wpS (model prog w) A E s (do let x ← elem' arr (base + i); if left then lt' x key else return (← lt' key x).map (!·)) Q' st := by
    intro Q' i hi h'
    refine wpS_bind (wpS_elem (by omega) fun p hp => ?_)
    cases left with
    | true => exact wpS_lt hI (ha p hp) hk h'
    | false => exact wpS_bind (wpS_lt hI hk (ha p hp) fun b => wpS_pure (h' _))
  refine wpS_bind (beyond hint hh fun b => ?_)
  dsimp only
  split
  all_goals
    refine wpS_bind (wpS_mono (wpS_forRange (I := fun _ c st' => st' = st ∧ ∃ a b, c = (none, a, b)) (Q := fun c st' => st' = st ∧ ∃ a b, c = (none, a, b)) ?_ (fun _ _ h => h) ⟨rfl, _, _, rfl⟩) ?_)
    · rintro x c st' _ hx ⟨rfl, a, b, rfl⟩
      dsimp only
      split
      · exact wpS_pure ⟨rfl, _, _, rfl⟩
      · refine wpS_bind (beyond _ (by omega) fun b => ?_)
        dsimp only
        split <;> exact wpS_pure ⟨rfl, _, _, rfl⟩
    · rintro c st' ⟨rfl, a, b, rfl⟩
      dsimp only
      refine wpS_bind (wpS_mono (wpS_forRange (I := fun _ c st'' => st'' = st' ∧ ∃ lo hi, c = (none, lo, hi) ∧ hi ≤ n) (Q := fun c st'' => st'' = st' ∧ ∃ lo hi, c = (none, lo, hi) ∧ hi ≤ n) ?_ (fun _ _ h => h) ⟨rfl, _, _, rfl, by omega⟩) ?_)
      · rintro x c st'' _ hx ⟨rfl, lo, hi, rfl, hl⟩
        dsimp only
        split
        · exact wpS_pure ⟨rfl, _, _, rfl, hl⟩
        · refine wpS_bind (beyond _ (by omega) fun b => ?_)
          dsimp only
          split <;> exact wpS_pure ⟨rfl, _, _, rfl, by omega⟩
      · rintro c st'' ⟨rfl, lo, hi, rfl, hl⟩
        exact wpS_pure (h _ hl)
theorem Good.one {p : Keyed} (h : KIn ks p) : Good ks #[p] := by intro q hq; simp at hq; rw [hq]; exact h
theorem Good.push {xs : Array Keyed} {p : Keyed} (h : Good ks xs) (hp : KIn ks p) : Good ks (xs.push p) := by
  intro q hq; rcases Array.mem_push.mp hq with h1 | h1
  · exact h q h1
  · rw [h1]; exact hp
theorem Good.app {xs ys : Array Keyed} (h : Good ks xs) (h' : Good ks ys) : Good ks (xs ++ ys) := by
  intro q hq; rcases Array.mem_append.mp hq with h1 | h1
  · exact h q h1
  · exact h' q h1
theorem Good.ext {xs : Array Keyed} {i j : Nat} (h : Good ks xs) : Good ks (xs.extract i j) := by
  intro q hq
  obtain ⟨k, hk, e⟩ := Array.mem_extract_iff_getElem.mp hq
  exact h q (by rw [← e]; simp)
theorem Good.rev {xs : Array Keyed} (h : Good ks xs) : Good ks xs.reverse := by
  intro q hq; exact h q (by simpa using hq)
theorem Good.at {xs : Array Keyed} {p : Keyed} (hp : p ∈ xs) (h : Good ks xs) : KIn ks p := h p hp
abbrev setMinGallop' : Nat → StateT SortSt Sem Unit := sortPriv% PySem.Builtin.setMinGallop
theorem wpS_gal {g : Nat} {st : SortSt} {Q : Unit → SortSt → Prop} (hI : SI ks N P st) (h : ∀ st', SI ks N P st' → Q () st') : wpS (model prog w) A E s (setMinGallop' g) Q st :=
  wpS_modify (h _ ⟨hI.kind, hI.failed, hI.pend, hI.size, hI.good⟩)
theorem wpS_ite {α : Type} {c : Prop} [Decidable c] {x y : StateT SortSt Sem α} {st : SortSt} {Q : α → SortSt → Prop} (hx : c → wpS (model prog w) A E s x Q st) (hy : ¬ c → wpS (model prog w) A E s y Q st) :
    wpS (model prog w) A E s (if c then x else y) Q st := by
  by_cases h : c
  · rw [if_pos h]; exact hx h
  · rw [if_neg h]; exact hy h
theorem wpS_iteb {α : Type} {a b : Nat} {x y : StateT SortSt Sem α} {st : SortSt} {Q : α → SortSt → Prop} (hx : a = b → wpS (model prog w) A E s x Q st) (hy : a ≠ b → wpS (model prog w) A E s y Q st) :
    wpS (model prog w) A E s (if (a == b) = true then x else y) Q st :=
  wpS_ite (fun h => hx (by simpa using h)) (fun h => hy (by simpa using h))
abbrev elem2 : Array Keyed → Nat → StateT SortSt Sem Keyed := sortPriv% PySem.Builtin.elem
abbrev lt2 : Keyed → Keyed → StateT SortSt Sem (Option Bool) := sortPriv% PySem.Builtin.lt
theorem wpS_elem2 {xs : Array Keyed} {i : Nat} {st : SortSt} {Q : Keyed → SortSt → Prop} (hi : i < xs.size) (h : ∀ p, p ∈ xs → Q p st) : wpS (model prog w) A E s (elem2 xs i) Q st := wpS_elem hi h
theorem wpS_lt2 {p q : Keyed} {st : SortSt} {Q : Option Bool → SortSt → Prop} (hI : SI ks N P st) (hp : KIn ks p) (hq : KIn ks q) (h : ∀ b, Q (some b) st) : wpS (model prog w) A E s (lt2 p q) Q st := wpS_lt hI hp hq h
local macro_rules | `(tactic| walk_at "good") => `(tactic| (with_reducible (repeat' first | assumption | refine Good.app ?_ ?_ | refine Good.push ?_ ?_ | refine Good.ext ?_ | refine Good.rev ?_ | refine Good.one ?_ | exact Good.at (by assumption) (by assumption))))
local macro_rules | `(tactic| walk_at "sx") => `(tactic| repeat' (first
  | (with_reducible refine wpS_pure ?_)
  | (with_reducible refine wpS_iteb (fun _ => ?_) (fun _ => ?_))
  | (with_reducible refine wpS_ite (fun _ => ?_) (fun _ => ?_))
  | ((with_reducible refine wpS_bind (wpS_elem2 ?_ fun _ _ => ?_)); (focus omega))
  | ((with_reducible refine wpS_bind (wpS_lt2 (by assumption) ?_ ?_ fun _ => ?_)); (focus walk_at "good"); (focus walk_at "good"))
  | ((with_reducible refine wpS_bind (wpS_gallop (by assumption) ?_ ?_ ?_ ?_ fun _ _ => ?_)); (focus walk_at "good"); (focus (with_reducible assumption)); (focus omega); (focus omega))
  | (with_reducible refine wpS_bind (wpS_gal (by assumption) fun _ _ => ?_))
  | (with_reducible refine wpS_bind (wpS_lift (wpAny_rule ⟨rfl, ?_⟩)))))
theorem wpS_mergeLo {a b : Array Keyed} {st : SortSt} {Q : Array Keyed → SortSt → Prop} (hI : SI ks N P st) (ha : Good ks a) (hb : Good ks b) (h1 : 1 ≤ a.size) (h2 : 1 ≤ b.size)
    (h : ∀ out st', SI ks N P st' → Good ks out → Q out st') : wpS (model prog w) A E s (mergeLo' a b) Q st := by
  refine wpS_bind (wpS_lift (wpAny_rule ⟨rfl, ?_⟩))
  refine wpS_bind (wpS_elem (by omega) fun p hp => ?_)
  dsimp only
  refine wpS_iteb (fun _ => wpS_pure (h _ _ hI (by walk_at "good"))) (fun _ => ?_)
  refine wpS_iteb (fun _ => wpS_pure (h _ _ hI (by walk_at "good"))) (fun _ => ?_)
  refine wpS_bind (wpS_get ?_)
  refine wpS_bind (wpS_mono (wpS_forRange
    (I := fun z c st' => SI ks N P st' ∧ ∃ out ia ib g, c = (none, out, ia, ib, g) ∧ Good ks out ∧ ia + 1 < a.size ∧ ib < b.size ∧ z < ia + ib)
    (Q := fun c st' => SI ks N P st' ∧ ∃ o t, c = (some o, t) ∧ Good ks o) ?_ ?_ ⟨hI, _, _, _, _, rfl, by walk_at "good", by omega, by omega, by omega⟩) ?_)
  · rintro z c st' _ hz ⟨hI', out, ia, ib, g, rfl, hg, hia, hib, hzi⟩
    dsimp only
    refine wpS_bind (wpS_mono (wpS_forRange
      (I := fun x c st' => SI ks N P st' ∧ ∃ out ia ib ac bc, c = (none, out, ia, ib, ac, bc) ∧ Good ks out ∧ ia + 1 < a.size ∧ ib < b.size ∧ z < ia + ib)
      (Q := fun c st' => SI ks N P st' ∧ ((∃ o t, c = (some o, t) ∧ Good ks o) ∨ ∃ out ia ib ac bc, c = (none, out, ia, ib, ac, bc) ∧ Good ks out ∧ ia + 1 < a.size ∧ ib < b.size ∧ z < ia + ib)) ?_ (fun c st h => ⟨h.1, .inr h.2⟩) ⟨hI', _, _, _, _, _, rfl, hg, hia, hib, hzi⟩) ?_)
    · rintro x c st' _ hx ⟨hI', out, ia, ib, ac, bc, rfl, hg, hia, hib, hzi⟩
      dsimp only
      walk_at "sx"
      all_goals first
        | exact ⟨by assumption, .inl ⟨_, _, rfl, by walk_at "good"⟩⟩
        | exact ⟨by assumption, .inr ⟨_, _, _, _, _, rfl, by walk_at "good", by omega, by omega, by omega⟩⟩
        | exact ⟨by assumption, _, _, _, _, _, rfl, by walk_at "good", by omega, by omega, by omega⟩
    · rintro c st' ⟨hI', ⟨o, t, rfl, hg⟩ | ⟨out, ia, ib, ac, bc, rfl, hg, hia, hib, hzi⟩⟩
      · exact wpS_pure ⟨hI', _, _, rfl, hg⟩
      dsimp only
      refine wpS_bind (wpS_lift (wpAny_rule ⟨rfl, ?_⟩))
      refine wpS_bind (wpS_mono (wpS_forRange
        (I := fun x c st' => SI ks N P st' ∧ ∃ out ia ib g ac bc, c = (none, out, ia, ib, g, ac, bc) ∧ Good ks out ∧ ia + 1 < a.size ∧ ib < b.size ∧ z + min x 1 < ia + ib)
        (Q := fun c st' => SI ks N P st' ∧ ((∃ o t, c = (some o, t) ∧ Good ks o) ∨ ∃ out ia ib g ac bc, c = (none, out, ia, ib, g, ac, bc) ∧ Good ks out ∧ ia + 1 < a.size ∧ ib < b.size ∧ z + 1 < ia + ib)) ?_ ?_ ⟨hI', _, _, _, _, _, _, rfl, hg, hia, hib, by omega⟩) ?_)
      · rintro x c st' _ hx ⟨hI', out, ia, ib, g, ac, bc, rfl, hg, hia, hib, hzi⟩
        dsimp only
        walk_at "sx"
        all_goals first
          | exact ⟨by assumption, .inl ⟨_, _, rfl, by walk_at "good"⟩⟩
          | exact ⟨by assumption, .inr ⟨_, _, _, _, _, _, rfl, by walk_at "good", by omega, by omega, by omega⟩⟩
          | exact ⟨by assumption, _, _, _, _, _, _, rfl, by walk_at "good", by omega, by omega, by omega⟩
      · rintro c st' ⟨hI', out, ia, ib, g, ac, bc, rfl, hg, hia, hib, hzi⟩
        exact ⟨hI', .inr ⟨_, _, _, _, _, _, rfl, hg, hia, hib, by omega⟩⟩
      · rintro c st' ⟨hI', ⟨o, t, rfl, hg⟩ | ⟨out, ia, ib, g, ac, bc, rfl, hg, hia, hib, hzi⟩⟩
        · exact wpS_pure ⟨hI', _, _, rfl, hg⟩
        dsimp only
        walk_at "sx"
        exact ⟨by assumption, _, _, _, _, rfl, hg, hia, hib, hzi⟩
  · rintro c st' ⟨hI', out, ia, ib, g, rfl, hg, hia, hib, hzi⟩
    omega
  · rintro c st' ⟨hI', o, t, rfl, hg⟩
    exact wpS_pure (h _ _ hI' hg)
theorem wpS_mergeHi {a b : Array Keyed} {st : SortSt} {Q : Array Keyed → SortSt → Prop} (hI : SI ks N P st) (ha : Good ks a) (hb : Good ks b) (h1 : 1 ≤ a.size) (h2 : 1 ≤ b.size)
    (h : ∀ out st', SI ks N P st' → Good ks out → Q out st') : wpS (model prog w) A E s (mergeHi' a b) Q st := by
  refine wpS_bind (wpS_lift (wpAny_rule ⟨rfl, ?_⟩))
  refine wpS_bind (wpS_elem (by omega) fun p hp => ?_)
  dsimp only
  refine wpS_iteb (fun _ => wpS_pure (h _ _ hI (by walk_at "good"))) (fun _ => ?_)
  refine wpS_iteb (fun _ => wpS_pure (h _ _ hI (by walk_at "good"))) (fun _ => ?_)
  refine wpS_bind (wpS_get ?_)
  refine wpS_bind (wpS_mono (wpS_forRange
    (I := fun z c st' => SI ks N P st' ∧ ∃ ia ib out g, c = (none, ia, ib, out, g) ∧ Good ks out ∧ 1 ≤ ia ∧ ia ≤ a.size ∧ 2 ≤ ib ∧ ib ≤ b.size ∧ ia + ib + z < a.size + b.size)
    (Q := fun c st' => SI ks N P st' ∧ ∃ o t, c = (some o, t) ∧ Good ks o) ?_ ?_ ⟨hI, _, _, _, _, rfl, by walk_at "good", by omega, by omega, by omega, by omega, by omega⟩) ?_)
  · rintro z c st' _ hz ⟨hI', ia, ib, out, g, rfl, hg, hia, hia2, hib, hib2, hzi⟩
    dsimp only
    refine wpS_bind (wpS_mono (wpS_forRange
      (I := fun x c st' => SI ks N P st' ∧ ∃ ia ib out ac bc, c = (none, ia, ib, out, ac, bc) ∧ Good ks out ∧ 1 ≤ ia ∧ ia ≤ a.size ∧ 2 ≤ ib ∧ ib ≤ b.size ∧ ia + ib + z < a.size + b.size)
      (Q := fun c st' => SI ks N P st' ∧ ((∃ o t, c = (some o, t) ∧ Good ks o) ∨ ∃ ia ib out ac bc, c = (none, ia, ib, out, ac, bc) ∧ Good ks out ∧ 1 ≤ ia ∧ ia ≤ a.size ∧ 2 ≤ ib ∧ ib ≤ b.size ∧ ia + ib + z < a.size + b.size)) ?_ (fun c st h => ⟨h.1, .inr h.2⟩) ⟨hI', _, _, _, _, _, rfl, hg, hia, hia2, hib, hib2, hzi⟩) ?_)
    · rintro x c st' _ hx ⟨hI', ia, ib, out, ac, bc, rfl, hg, hia, hia2, hib, hib2, hzi⟩
      dsimp only
      walk_at "sx"
      all_goals first
        | exact ⟨by assumption, .inl ⟨_, _, rfl, by walk_at "good"⟩⟩
        | exact ⟨by assumption, .inr ⟨_, _, _, _, _, rfl, by walk_at "good", by omega, by omega, by omega, by omega, by omega⟩⟩
        | exact ⟨by assumption, _, _, _, _, _, rfl, by walk_at "good", by omega, by omega, by omega, by omega, by omega⟩
    · rintro c st' ⟨hI', ⟨o, t, rfl, hg⟩ | ⟨ia, ib, out, ac, bc, rfl, hg, hia, hia2, hib, hib2, hzi⟩⟩
      · exact wpS_pure ⟨hI', _, _, rfl, hg⟩
      dsimp only
      refine wpS_bind (wpS_lift (wpAny_rule ⟨rfl, ?_⟩))
      refine wpS_bind (wpS_mono (wpS_forRange
        (I := fun x c st' => SI ks N P st' ∧ ∃ ia ib out g ac bc, c = (none, ia, ib, out, g, ac, bc) ∧ Good ks out ∧ 1 ≤ ia ∧ ia ≤ a.size ∧ 2 ≤ ib ∧ ib ≤ b.size ∧ ia + ib + z + min x 1 < a.size + b.size)
        (Q := fun c st' => SI ks N P st' ∧ ((∃ o t, c = (some o, t) ∧ Good ks o) ∨ ∃ ia ib out g ac bc, c = (none, ia, ib, out, g, ac, bc) ∧ Good ks out ∧ 1 ≤ ia ∧ ia ≤ a.size ∧ 2 ≤ ib ∧ ib ≤ b.size ∧ ia + ib + z + 1 < a.size + b.size)) ?_ ?_ ⟨hI', _, _, _, _, _, _, rfl, hg, hia, hia2, hib, hib2, by omega⟩) ?_)
      · rintro x c st' _ hx ⟨hI', ia, ib, out, g, ac, bc, rfl, hg, hia, hia2, hib, hib2, hzi⟩
        dsimp only
        walk_at "sx"
        all_goals first
          | exact ⟨by assumption, .inl ⟨_, _, rfl, by walk_at "good"⟩⟩
          | exact ⟨by assumption, .inr ⟨_, _, _, _, _, _, rfl, by walk_at "good", by omega, by omega, by omega, by omega, by omega⟩⟩
          | exact ⟨by assumption, _, _, _, _, _, _, rfl, by walk_at "good", by omega, by omega, by omega, by omega, by omega⟩
      · rintro c st' ⟨hI', ia, ib, out, g, ac, bc, rfl, hg, hia, hia2, hib, hib2, hzi⟩
        exact ⟨hI', .inr ⟨_, _, _, _, _, _, rfl, hg, hia, hia2, hib, hib2, by omega⟩⟩
      · rintro c st' ⟨hI', ⟨o, t, rfl, hg⟩ | ⟨ia, ib, out, g, ac, bc, rfl, hg, hia, hia2, hib, hib2, hzi⟩⟩
        · exact wpS_pure ⟨hI', _, _, rfl, hg⟩
        dsimp only
        walk_at "sx"
        exact ⟨by assumption, _, _, _, _, rfl, hg, hia, hia2, hib, hib2, hzi⟩
  · rintro c st' ⟨hI', ia, ib, out, g, rfl, hg, hia, hia2, hib, hib2, hzi⟩
    omega
  · rintro c st' ⟨hI', o, t, rfl, hg⟩
    exact wpS_pure (h _ _ hI' hg)
end
section
variable {prog : Program} {w : World} {A : Around} {E : Value → Shared → Prop} {s : Shared} {ks : List Int} {N : Nat} {P : Array (Nat × Nat × Nat)}
abbrev ltAt2 : Nat → Nat → StateT SortSt Sem (Option Bool) := sortPriv% PySem.Builtin.ltAt
abbrev rev2 : Nat → Nat → StateT SortSt Sem Unit := sortPriv% PySem.Builtin.reverseSlice
abbrev move2 : Nat → Nat → StateT SortSt Sem Unit := sortPriv% PySem.Builtin.moveDown
abbrev countRun2 : Nat → Nat → StateT SortSt Sem (Option Nat) := sortPriv% PySem.Builtin.countRun
abbrev binarySort2 : Nat → Nat → Nat → StateT SortSt Sem Bool := sortPriv% PySem.Builtin.binarySort
theorem SI.set {st : SortSt} (hI : SI ks N P st) {xs : Array Keyed} (hp : xs.Perm (arrOf st)) : SI ks N P (setArr st xs) :=
  ⟨hI.kind, hI.failed, hI.pend, hp.size_eq.trans hI.size, fun p h => hI.good p (by
    have := (Array.perm_iff_toList_perm.mp hp).mem_iff (a := p)
    exact Array.mem_toList_iff.mp (this.mp (Array.mem_toList_iff.mpr h)))⟩
theorem wpS_ltAt2 {i j : Nat} {st : SortSt} {Q : Option Bool → SortSt → Prop} (hI : SI ks N P st) (hi : i < N) (hj : j < N) (h : ∀ b, Q (some b) st) : wpS (model prog w) A E s (ltAt2 i j) Q st := wpS_ltAtI hI hi hj h
theorem wpS_rev2 {i j : Nat} {st : SortSt} {Q : Unit → SortSt → Prop} (hI : SI ks N P st) (h : ∀ st', SI ks N P st' → Q () st') : wpS (model prog w) A E s (rev2 i j) Q st :=
  wpS_modify (h _ (hI.set (mirror_perm _ _ _ _)))
theorem wpS_move2 {i j : Nat} {st : SortSt} {Q : Unit → SortSt → Prop} (hI : SI ks N P st) (h : ∀ st', SI ks N P st' → Q () st') : wpS (model prog w) A E s (move2 i j) Q st :=
  wpS_modify (h _ (hI.set (bubble_perm _ _ _)))
local macro_rules | `(tactic| walk_at "sy") => `(tactic| repeat' (first
  | (with_reducible refine wpS_pure ?_)
  | (with_reducible refine wpS_iteb (fun _ => ?_) (fun _ => ?_))
  | (with_reducible refine wpS_ite (fun _ => ?_) (fun _ => ?_))
  | ((with_reducible refine wpS_bind (wpS_ltAt2 (by assumption) ?_ ?_ fun _ => ?_)); (focus omega); (focus omega))
  | (with_reducible refine wpS_bind (wpS_rev2 (by assumption) fun _ _ => ?_))
  | (with_reducible refine wpS_bind (wpS_move2 (by assumption) fun _ _ => ?_))
  | (with_reducible refine wpS_bind (wpS_lift (wpAny_rule ⟨rfl, ?_⟩)))))
theorem wpS_countRunI {lo nrem : Nat} {st : SortSt} {Q : Option Nat → SortSt → Prop} (hI : SI ks N P st) (hb : lo + nrem ≤ N) (h1 : 1 ≤ nrem)
    (h : ∀ n st', SI ks N P st' → 1 ≤ n → n ≤ nrem → Q (some n) st') : wpS (model prog w) A E s (countRun2 lo nrem) Q st := by
  refine wpS_bind (wpS_mono (wpS_forRange (I := fun x c st' => SI ks N P st' ∧ c = (none, x)) (Q := fun c st' => SI ks N P st' ∧ ∃ n, c = (none, n) ∧ 1 ≤ n ∧ n ≤ nrem) ?_ ?_ ⟨hI, rfl⟩) ?_)
  · rintro x c st' hx1 hx ⟨hI', rfl⟩
    dsimp only
    walk_at "sy"
    all_goals first
      | exact ⟨by assumption, _, rfl, by omega, by omega⟩
      | exact ⟨by assumption, rfl⟩
  · rintro c st' ⟨hI', rfl⟩
    exact ⟨hI', _, rfl, by omega, by omega⟩
  rintro c st' ⟨hI', n, rfl, hn1, hn2⟩
  dsimp only
  walk_at "sy"
  all_goals first
    | exact h _ _ (by assumption) (by omega) (by omega)
    | skip
  all_goals (refine wpS_bind (wpS_mono (wpS_forRange (I := fun x c st' => SI ks N P st' ∧ ∃ q, c = (none, x, q)) (Q := fun c st' => SI ks N P st' ∧ ∃ n q, c = (none, n, q) ∧ 1 ≤ n ∧ n ≤ nrem) ?_ ?_ ⟨by assumption, _, rfl⟩) ?_))
  all_goals first
    | (rintro x c st' hx1 hx ⟨hI', q, rfl⟩
       dsimp only
       walk_at "sy"
       all_goals first
         | exact ⟨by assumption, _, _, rfl, by omega, by omega⟩
         | exact ⟨by assumption, _, rfl⟩)
    | (rintro c st' ⟨hI', q, rfl⟩
       exact ⟨hI', _, _, rfl, by omega, by omega⟩)
    | skip
  all_goals (rintro c st' ⟨hI', n', q, rfl, hn1', hn2'⟩; dsimp only; walk_at "sy")
  all_goals (refine wpS_bind (wpS_mono (wpS_forRange (I := fun x c st' => SI ks N P st' ∧ c = (none, x)) (Q := fun c st' => SI ks N P st' ∧ ∃ n, c = (none, n) ∧ 1 ≤ n ∧ n ≤ nrem) ?_ ?_ ⟨by assumption, rfl⟩) ?_))
  all_goals first
    | (rintro x c st' hx1 hx ⟨hI', rfl⟩
       dsimp only
       walk_at "sy"
       all_goals first
         | exact ⟨by assumption, _, rfl, by omega, by omega⟩
         | exact ⟨by assumption, rfl⟩)
    | (rintro c st' ⟨hI', rfl⟩
       exact ⟨hI', _, rfl, by omega, by omega⟩)
    | (rintro c st' ⟨hI', n', rfl, hn1', hn2'⟩
       exact wpS_pure (h _ _ hI' hn1' hn2'))
theorem wpS_binarySortI {lo n ok : Nat} {st : SortSt} {Q : Bool → SortSt → Prop} (hI : SI ks N P st) (hb : lo + n ≤ N)
    (h : ∀ st', SI ks N P st' → Q true st') : wpS (model prog w) A E s (binarySort2 lo n ok) Q st := by
  refine wpS_bind (wpS_mono (wpS_forRange (I := fun x c st' => SI ks N P st' ∧ c = (none, ())) (Q := fun c st' => SI ks N P st' ∧ c = (none, ())) ?_ (fun _ _ h => h) ⟨hI, rfl⟩) ?_)
  · rintro x c st' hx1 hx ⟨hI', rfl⟩
    dsimp only
    refine wpS_bind (wpS_mono (wpS_forRange (I := fun _ c st' => SI ks N P st' ∧ ∃ l r, c = (none, l, r) ∧ r ≤ x) (Q := fun c st' => SI ks N P st' ∧ ∃ l r, c = (none, l, r) ∧ r ≤ x) ?_ (fun _ _ h => h) ⟨hI', _, _, rfl, by omega⟩) ?_)
    · rintro y c st' _ hy ⟨hI', l, r, rfl, hr⟩
      dsimp only
      walk_at "sy"
      all_goals exact ⟨by assumption, _, _, rfl, by omega⟩
    · rintro c st' ⟨hI', l, r, rfl, hr⟩
      dsimp only
      walk_at "sy"
      all_goals exact ⟨by assumption, rfl⟩
  · rintro c st' ⟨hI', rfl⟩
    exact wpS_pure (h _ hI')
end
def Chain : Nat → List (Nat × Nat × Nat) → Nat → Prop
  | a, [], b => a = b
  | a, p :: t, b => p.1 = a ∧ 1 ≤ p.2.1 ∧ Chain (a + p.2.1) t b
theorem chain_le : ∀ {l : List (Nat × Nat × Nat)} {a b : Nat}, Chain a l b → a ≤ b
  | [], _, _, h => Nat.le_of_eq h
  | _ :: _, _, _, h => Nat.le_trans (Nat.le_add_right _ _) (chain_le h.2.2)
theorem chain_merge : ∀ {l : List (Nat × Nat × Nat)} {i a b : Nat}, Chain a l b → i + 1 < l.length → ∃ x y, l[i]? = some x ∧ l[i + 1]? = some y ∧ x.1 + x.2.1 = y.1 ∧ 1 ≤ x.2.1 ∧ 1 ≤ y.2.1 ∧ y.1 + y.2.1 ≤ b ∧
    Chain a ((l.set i (x.1, x.2.1 + y.2.1, x.2.2)).eraseIdx (i + 1)) b
  | x :: y :: t, 0, a, b, ⟨h1, h2, h3, h4, h5⟩, _ => ⟨x, y, rfl, rfl, by omega, h2, h4, by have := chain_le h5; omega, h1, by (show 1 ≤ x.2.1 + y.2.1; omega), by (show Chain (a + (x.2.1 + y.2.1)) t b; rwa [← Nat.add_assoc])⟩
  | x :: t, i + 1, a, b, ⟨h1, h2, h3⟩, hi => by
    obtain ⟨u, v, e1, e2, e3, e4, e5, e6, e7⟩ := chain_merge (i := i) h3 (by simpa using hi)
    exact ⟨u, v, e1, e2, e3, e4, e5, e6, h1, h2, e7⟩
  | [_], 0, _, _, _, hi => by simp at hi
  | [], _, _, _, _, hi => by simp at hi
theorem chain_push : ∀ {l : List (Nat × Nat × Nat)} {a b n p : Nat}, Chain a l b → 1 ≤ n → Chain a (l ++ [(b, n, p)]) (b + n)
  | [], _, _, _, _, h, hn => ⟨Eq.symm h, hn, by rw [h]; rfl⟩
  | _ :: _, _, _, _, _, h, hn => ⟨h.1, h.2.1, chain_push h.2.2 hn⟩
theorem chain_modify : ∀ {l : List (Nat × Nat × Nat)} {a b i p : Nat}, Chain a l b → Chain a (l.modify i fun x => (x.1, x.2.1, p)) b
  | [], _, _, _, _, h => by simpa using h
  | x :: t, a, b, 0, p, h => h
  | x :: t, a, b, i + 1, p, h => ⟨h.1, h.2.1, chain_modify (i := i) h.2.2⟩
section
variable {prog : Program} {w : World} {A : Around} {E : Value → Shared → Prop} {s : Shared} {ks : List Int} {N : Nat} {P : Array (Nat × Nat × Nat)}
structure SC (ks : List Int) (N e : Nat) (st : SortSt) : Prop where
  base : SI ks N (pendingOf st) st
  chain : Chain 0 (pendingOf st).toList e
abbrev mergeAt2 : Nat → StateT SortSt Sem Bool := sortPriv% PySem.Builtin.mergeAt
theorem wpS_set {σ : Type} {M : Model} {st st' : σ} {Q : PUnit → σ → Prop} (h : Q ⟨⟩ st') : wpS M A E s (set st' : StateT σ Sem PUnit) Q st := by
  unfold wpS; rw [StateT.run_set]; exact wpAny_pure ⟨rfl, h⟩
theorem fold_set_size {l : List (Keyed × Nat)} {f : Nat → Nat} : ∀ {xs : Array Keyed}, (l.foldl (fun a p => a.setIfInBounds (f p.2) p.1) xs).size = xs.size := by
  induction l with
  | nil => intro xs; rfl
  | cons p t ih => intro xs; rw [List.foldl_cons, ih, Array.size_setIfInBounds]
theorem fold_set_good {l : List (Keyed × Nat)} {f : Nat → Nat} : ∀ {xs : Array Keyed}, Good ks xs → (∀ p ∈ l, KIn ks p.1) → Good ks (l.foldl (fun a p => a.setIfInBounds (f p.2) p.1) xs) := by
  induction l with
  | nil => intro xs h _; exact h
  | cons p t ih =>
    intro xs h hl
    refine ih ?_ fun q hq => hl q (List.mem_cons_of_mem _ hq)
    intro q hq
    rcases Array.mem_or_eq_of_mem_setIfInBounds hq with h1 | h1
    · exact h q h1
    · rw [h1]; exact hl p List.mem_cons_self
theorem wpS_mergeAt {i e : Nat} {st : SortSt} {Q : Bool → SortSt → Prop} (hC : SC ks N e st) (he : e ≤ N) (hi : i + 1 < (pendingOf st).size)
    (h : ∀ st', SC ks N e st' → Q true st') : wpS (model prog w) A E s (mergeAt2 i) Q st := by
  obtain ⟨⟨sa, na, pa⟩, ⟨sb, nb, pb⟩, e1, e2, e3, e4, e5, e6, e7⟩ := chain_merge hC.chain (i := i) (by simpa using hi)
  rw [Array.getElem?_toList] at e1 e2
  dsimp only at e3 e4 e5 e6 e7
  have hI := hC.base
  refine wpS_bind (wpS_get ?_)
  show wpS _ _ _ _ (match ((pendingOf st)[i]?, (pendingOf st)[i + 1]?) with | (some (sa, na, power), some (sb, nb, _)) => _ | _ => _) _ _
  rw [e1, e2]
  dsimp only
  refine wpS_bind (wpS_set ?_)
  have hC' : SC ks N e (SortSt.mk' (kindOf st) (arrOf st) (((pendingOf st).setIfInBounds i (sa, na + nb, pa)).eraseIdxIfInBounds (i + 1)) (gallopOf st) (failedOf st)) := by
    refine ⟨⟨hI.kind, hI.failed, rfl, hI.size, hI.good⟩, ?_⟩
    show Chain 0 (((pendingOf st).setIfInBounds i (sa, na + nb, pa)).eraseIdxIfInBounds (i + 1)).toList e
    have e8 : (((pendingOf st).setIfInBounds i (sa, na + nb, pa)).eraseIdxIfInBounds (i + 1)).toList = ((pendingOf st).toList.set i (sa, na + nb, pa)).eraseIdx (i + 1) := by simp
    rw [e8]; exact e7
  have hB := hC'.base
  have hz : ((sortPriv% PySem.Builtin.SortState.a) st).size = N := hI.size
  have hg : Good ks (arrOf st) := hI.good
  refine wpS_bind (wpS_elem (by omega) fun p hp => ?_)
  refine wpS_bind (wpS_gallop hB (hg.at hp) hg (by omega) (by omega) fun k hk => ?_)
  dsimp only
  refine wpS_iteb (fun _ => wpS_pure (h _ hC')) (fun hn => ?_)
  refine wpS_bind (wpS_elem (by omega) fun q hq => ?_)
  refine wpS_bind (wpS_gallop hB (hg.at hq) hg (by omega) (by omega) fun n2 hn2 => ?_)
  dsimp only
  refine wpS_iteb (fun _ => wpS_pure (h _ hC')) (fun hn' => ?_)
  refine wpS_ite (fun _ => ?_) (fun _ => ?_)
  · refine wpS_bind (wpS_mergeLo hB hg.ext hg.ext (by rw [Array.size_extract]; omega) (by rw [Array.size_extract]; omega) fun out st' hI' ho => ?_)
    refine wpS_bind (wpS_modify (wpS_bind (wpS_get ?_)))
    have hf : (failedOf st').isNone = true := by rw [hI'.failed]; rfl
    show wpS _ _ _ _ (pure (failedOf st').isNone) _ _
    rw [hf]
    refine wpS_pure (h _ ⟨⟨hI'.kind, hI'.failed, rfl, ?_, ?_⟩, ?_⟩)
    · exact (fold_set_size (f := fun j => sa + k + j)).trans hI'.size
    · exact fold_set_good (f := fun j => sa + k + j) hI'.good fun p hp => ho _ (by
        have := List.fst_mem_of_mem_zipIdx hp
        simpa using this)
    · show Chain 0 (pendingOf st').toList e
      rw [hI'.pend]; exact hC'.chain
  · refine wpS_bind (wpS_mergeHi hB hg.ext hg.ext (by rw [Array.size_extract]; omega) (by rw [Array.size_extract]; omega) fun out st' hI' ho => ?_)
    refine wpS_bind (wpS_modify (wpS_bind (wpS_get ?_)))
    have hf : (failedOf st').isNone = true := by rw [hI'.failed]; rfl
    show wpS _ _ _ _ (pure (failedOf st').isNone) _ _
    rw [hf]
    refine wpS_pure (h _ ⟨⟨hI'.kind, hI'.failed, rfl, ?_, ?_⟩, ?_⟩)
    · exact (fold_set_size (f := fun j => sa + k + j)).trans hI'.size
    · exact fold_set_good (f := fun j => sa + k + j) hI'.good fun p hp => ho _ (by
        have := List.fst_mem_of_mem_zipIdx hp
        simpa using this)
    · show Chain 0 (pendingOf st').toList e
      rw [hI'.pend]; exact hC'.chain
theorem SC.of {e : Nat} {st : SortSt} (h : SI ks N P st) (hc : Chain 0 P.toList e) : SC ks N e st := by
  have hp := h.pend
  subst hp
  exact ⟨h, hc⟩
theorem SC.push {e n p : Nat} {st : SortSt} (h : SC ks N e st) (hn : 1 ≤ n) : SC ks N (e + n) (setPending st ((pendingOf st).push (e, n, p))) :=
  ⟨⟨h.base.kind, h.base.failed, rfl, h.base.size, h.base.good⟩, by (show Chain 0 ((pendingOf st).push (e, n, p)).toList (e + n); rw [Array.toList_push]; exact chain_push h.chain hn)⟩
theorem SC.power {e i p : Nat} {st : SortSt} (h : SC ks N e st) : SC ks N e (setPending st ((pendingOf st).modify i fun x => (x.1, x.2.1, p))) :=
  ⟨⟨h.base.kind, h.base.failed, rfl, h.base.size, h.base.good⟩, by (show Chain 0 ((pendingOf st).modify i fun x => (x.1, x.2.1, p)).toList e; rw [Array.toList_modify]; exact chain_modify h.chain)⟩
abbrev sortRuns2 : StateT SortSt Sem Unit := sortPriv% PySem.Builtin.sortRuns
theorem wpS_sortRunsI {st : SortSt} {Q : Unit → SortSt → Prop} (hI : SI ks N #[] st)
    (h : ∀ st', failedOf st' = none → (arrOf st').size = N → Good ks (arrOf st') → Q () st') : wpS (model prog w) A E s sortRuns2 Q st := by
  refine wpS_bind (wpS_get ?_)
  dsimp only
  have hz : ((sortPriv% PySem.Builtin.SortState.a) st).size = N := hI.size
  refine wpS_bind (wpS_mono (wpS_forRange (I := fun _ c st' => ∃ lo, SC ks N lo st' ∧ lo ≤ N ∧ c = (none, lo)) (Q := fun c st' => ∃ lo, SC ks N lo st' ∧ lo ≤ N ∧ c = (none, lo)) ?_ (fun _ _ h => h) ⟨0, .of hI rfl, Nat.zero_le _, rfl⟩) ?_)
  · rintro x c st' _ hx ⟨lo, hC, hlo, rfl⟩
    dsimp only
    refine wpS_ite (fun _ => wpS_pure ⟨lo, hC, hlo, rfl⟩) (fun hlt => ?_)
    refine wpS_bind (wpS_countRunI hC.base (by omega) (by omega) fun n st2 hI2 hn1 hn2 => ?_)
    have hC2 := SC.of hI2 hC.chain
    clear hI2 hC
    dsimp only
    refine wpS_ite (fun hmr => wpS_bind (wpS_lift (wpAny_rule ⟨rfl, wpS_bind (wpS_binarySortI hC2.base (by omega) fun st3 hI3 => wpS_ite (fun hf => by cases hf) fun _ => wpS_bind (wpS_get ?_))⟩))) (fun hmr => wpS_bind (wpS_get ?_))
    · have hC3 := SC.of hI3 hC2.chain
      clear hI3 hC2
      generalize Array.back? _ = bk
      rcases bk with _ | ⟨s1, n1, p1⟩
      · dsimp only
        exact wpS_bind (wpS_modify (wpS_pure ⟨_, hC3.push (by omega), by omega, rfl⟩))
      dsimp only
      refine wpS_bind (wpS_mono (wpS_forRange (I := fun _ c st' => SC ks N lo st' ∧ c = (none, ())) (Q := fun c st' => SC ks N lo st' ∧ c = (none, ())) ?_ (fun _ _ h => h) ⟨hC3, rfl⟩) ?_)
      · rintro y c st4 _ hy ⟨hC4, rfl⟩
        refine wpS_bind (wpS_get ?_)
        by_cases hs : ((sortPriv% PySem.Builtin.SortState.pending) st4).size > 1
        · rw [if_pos hs, getElem?_pos _ _ (by omega)]
          dsimp only
          refine wpS_ite (fun _ => wpS_pure ⟨hC4, rfl⟩) (fun _ => wpS_bind (wpS_mergeAt hC4 hlo ?_ fun st5 hC5 => wpS_ite (fun hf => by cases hf) fun _ => wpS_pure ⟨hC5, rfl⟩))
          show _ + 1 < ((sortPriv% PySem.Builtin.SortState.pending) st4).size
          omega
        · rw [if_neg hs]
          exact wpS_pure ⟨hC4, rfl⟩
      · rintro c st4 ⟨hC4, rfl⟩
        exact wpS_bind (wpS_modify (wpS_bind (wpS_modify (wpS_pure ⟨_, hC4.power.push (by omega), by omega, rfl⟩))))
    · have hC3 := hC2
      clear hC2
      generalize Array.back? _ = bk
      rcases bk with _ | ⟨s1, n1, p1⟩
      · dsimp only
        exact wpS_bind (wpS_modify (wpS_pure ⟨_, hC3.push (by omega), by omega, rfl⟩))
      dsimp only
      refine wpS_bind (wpS_mono (wpS_forRange (I := fun _ c st' => SC ks N lo st' ∧ c = (none, ())) (Q := fun c st' => SC ks N lo st' ∧ c = (none, ())) ?_ (fun _ _ h => h) ⟨hC3, rfl⟩) ?_)
      · rintro y c st4 _ hy ⟨hC4, rfl⟩
        refine wpS_bind (wpS_get ?_)
        by_cases hs : ((sortPriv% PySem.Builtin.SortState.pending) st4).size > 1
        · rw [if_pos hs, getElem?_pos _ _ (by omega)]
          dsimp only
          refine wpS_ite (fun _ => wpS_pure ⟨hC4, rfl⟩) (fun _ => wpS_bind (wpS_mergeAt hC4 hlo ?_ fun st5 hC5 => wpS_ite (fun hf => by cases hf) fun _ => wpS_pure ⟨hC5, rfl⟩))
          show _ + 1 < ((sortPriv% PySem.Builtin.SortState.pending) st4).size
          omega
        · rw [if_neg hs]
          exact wpS_pure ⟨hC4, rfl⟩
      · rintro c st4 ⟨hC4, rfl⟩
        exact wpS_bind (wpS_modify (wpS_bind (wpS_modify (wpS_pure ⟨_, hC4.power.push (by omega), by omega, rfl⟩))))
  · rintro c st' ⟨lo, hC, hlo, rfl⟩
    dsimp only
    refine wpS_bind (wpS_mono (wpS_forRange (I := fun _ c st' => SC ks N lo st' ∧ c = (none, ())) (Q := fun c st' => SC ks N lo st' ∧ c = (none, ())) ?_ (fun _ _ h => h) ⟨hC, rfl⟩) ?_)
    · rintro x c st' _ hx ⟨hC, rfl⟩
      refine wpS_bind (wpS_get ?_)
      refine wpS_ite (fun _ => wpS_pure ⟨hC, rfl⟩) (fun hsz => ?_)
      refine wpS_bind (wpS_mergeAt hC hlo ?_ fun st2 hC2 => ?_)
      · show _ + 1 < ((sortPriv% PySem.Builtin.SortState.pending) st').size
        have hle : ∀ {c : Prop} [Decidable c] {a : Nat}, (if c then a - 1 else a) ≤ a := by intros; split <;> omega
        exact Nat.lt_of_le_of_lt (Nat.add_le_add_right hle 1) (by omega)
      · exact wpS_pure ⟨hC2, rfl⟩
    · rintro c st' ⟨hC, rfl⟩
      exact wpS_pure (h _ hC.base.failed hC.base.size hC.base.good)
end
theorem pairs_good {vs : List Value} {ns : List Int} (hI : IntsAre vs ns) : ∀ p ∈ pairsOf vs, KIn ns p := by
  have h2 : ∀ {vs : List Value} {ns : List Int}, IntsAre vs ns → ∀ v ∈ vs, ∃ n t, v = .int n t ∧ n ∈ ns := by
    intro vs ns h
    induction h with
    | nil => intro v hv; simp at hv
    | cons n t h ih =>
      intro v hv
      rcases List.mem_cons.mp hv with rfl | hv
      · exact ⟨n, t, rfl, List.mem_cons_self⟩
      · obtain ⟨n', t', e, hm⟩ := ih v hv
        exact ⟨n', t', e, List.mem_cons_of_mem _ hm⟩
  intro p hp
  have h3 : p ∈ vs.zip vs := by rw [← pairsOf_toList]; exact Array.mem_toList_iff.mpr hp
  obtain ⟨h4, h5⟩ := mem_zip_self h3
  obtain ⟨n, t, e, hm⟩ := h2 hI _ h5
  exact ⟨n, t, Prod.ext e (h4 ▸ e), hm⟩
theorem good_out {ks : List Int} : ∀ {l : List Keyed}, (∀ p ∈ l, KIn ks p) → ∃ ns, IntsAre (l.map (·.2)) ns ∧ ns.length = l.length ∧ ∀ x ∈ ns, x ∈ ks
  | [], _ => ⟨[], .nil, rfl, fun _ h => by simp at h⟩
  | p :: l, h => by
    obtain ⟨ns, h1, h2, h3⟩ := good_out (l := l) fun q hq => h q (List.mem_cons_of_mem _ hq)
    obtain ⟨n, t, rfl, hm⟩ := h p List.mem_cons_self
    refine ⟨n :: ns, .cons n t h1, by simp [h2], fun x hx => ?_⟩
    rcases List.mem_cons.mp hx with rfl | hx
    · exact hm
    · exact h3 x hx
section
variable {prog : Program} {w : World} {A : Around} {E : Value → Shared → Prop} {s : Shared} {h₀ : Heap} {L d : Addr} {m : Str → Option Value} {news : List (Addr × Obj)} {Q : Value → Shared → Prop} {c : List (Int × Int)}
theorem list_sort_any {a : Addr} {vs : List Value} {ns : List Int} {n : Nat} {R : Fin → Shared → Prop} (ho : s.heap.get? a = some (seqObj "list" vs.toArray n))
    (hI : IntsAre vs ns) (h2 : 2 ≤ vs.length) (hc : vs.length ≤ 1000)
    (h : ∀ (out : Array Value) (ns' : List Int), IntsAre out.toList ns' → ns'.length = vs.length → (∀ x ∈ ns', x ∈ ns) → R (.done (.ret .none)) { s with heap := sortedHeap s.heap a vs out }) :
    wpAny (model prog w) A (Builtin.«list.sort» ⟨[.ref a], []⟩) R E s := by
  have ha : a < s.heap.objs.size := Heap.lt_size ho
  have hl : vs.length ≤ sizeLine := by rw [sizeLine_eq]; omega
  have hkk : keyKind' vs.toArray = pure oneType' := by
    match vs, h2 with
    | [], h2 => simp at h2
    | [_], h2 => simp at h2
    | v₁ :: v₂ :: r, _ => exact keyKind_ints hI
  have hns : ¬ vs.toArray.size < 2 := by rw [List.size_toArray]; omega
  rw [list_sort_plain]
  refine wpAny_bind (listItems_at ho rfl (wpAny_bind (listUpdate_at ho rfl ?_ (hsz := by rw [List.size_toArray]; exact hl) (hsz2 := Nat.zero_le _))))
  obtain ⟨e1, ho1⟩ : ∃ e1, (s.heap.update a (Obj.mapSeq fun _ => #[])).get? a = some (seqObj "list" #[] e1) := ⟨_, get?_update_seq ho (fun _ => #[])⟩
  refine wpAny_bind (seqEpoch_at ho1 rfl (wpAny_bind (wpAny_newTuple (wpAny_bind (wpAny_newList (wpAny_holding ?_))))))
  have ho6 : (((s.heap.update a (Obj.mapSeq fun _ => #[])).push (seqObj "tuple" vs.toArray 0)).push (seqObj "list" #[] 0)).get? a = some (seqObj "list" #[] e1) := by
    rw [Heap.get?_push_ne _ _ _ (by rw [size_push', Heap.size_update]; exact Nat.ne_of_lt (Nat.lt_succ_of_lt ha)), Heap.get?_push_ne _ _ _ (by rw [Heap.size_update]; exact Nat.ne_of_lt ha)]
    exact ho1
  show wpAny (model prog w) A _ R E { s with heap := ((s.heap.update a (Obj.mapSeq fun _ => #[])).push (seqObj "tuple" vs.toArray 0)).push (seqObj "list" #[] 0) }
  dsimp only
  rw [if_neg hns, if_neg hns, hkk]
  refine wpAny_bind (wpAny_pure ?_)
  refine wpAny_bind (wpAny_mono (wpS_sortRunsI (ks := ns) (N := vs.length) (st := SortSt.mk' oneType' (pairsOf vs) #[] 7 none)
    (Q := fun _ st' => failedOf st' = none ∧ (arrOf st').size = vs.length ∧ Good ns (arrOf st'))
    ⟨rfl, rfl, rfl, pairsOf_size vs, pairs_good hI⟩ fun st' a1 a2 a3 => ⟨a1, a2, a3⟩) ?_ fun _ _ e => e)
  rintro ⟨⟨⟩, st'⟩ s' ⟨rfl, hf, hs, hg⟩
  dsimp only
  refine wpAny_bind (seqEpoch_at ho6 rfl (wpAny_bind (listUpdate_at ho6 rfl ?_ (hsz := Nat.zero_le _) (hsz2 := ?_))))
  · rw [hf]
    simp only [bne_self_eq_false, Bool.false_eq_true, if_false]
    obtain ⟨ns', i1, i2, i3⟩ := good_out (l := (arrOf st').toList) fun p hp => hg p (Array.mem_toList_iff.mp hp)
    have hq := h (Array.map (fun (p : Keyed) => p.2) (arrOf st')) ns' (by rw [Array.toList_map]; exact i1) (by rw [i2, Array.length_toList]; exact hs) i3
    exact wpAny_pure hq
  · have : (Array.map (·.2) (arrOf st')).size ≤ sizeLine + 1 := by rw [Array.size_map, hs]; omega
    exact this
theorem sorted_tab (hh : A.handled = none) (F : Fr h₀ L s.heap m) (N : News h₀ L s.heap news) (T : IntTab prog w s.heap d (kdfD c)) (h2 : 2 ≤ c.length) (hc : c.length ≤ 1000)
    (h : ∀ B vs' ns' n h' tk, Fr h₀ L h' m → News h₀ L h' ((B, listOf vs'.toArray n) :: news) → (∀ q ∈ news, q.1 < B) → IntsAre vs' ns' → ns'.length = c.length → (∀ x ∈ ns', x ∈ c.map Prod.fst) → Q (.ref B) { s with heap := h', toks := tk }) :
    wpAny (model prog w) A (call (.builtin "sorted") [.ref d]) Q E s := by
  obtain ⟨lo, kvs, hD, hf⟩ := T
  obtain ⟨ep, hat⟩ := hD.dictAt
  have hlen : kvs.length = c.length := by have := hf.length; rw [kdfD_length] at this; exact this.symm
  refine kdu_sorted (kdl_dict (knd := PySem.intKind prog w) (kvs := kvs) (ep := ep) lo) hh F N hat (by rw [sizeLine_eq, hlen]; omega) fun B h' tk vs F' N' l1 hl hv => ?_
  have hI : ∃ ns, IntsAre vs ns ∧ ∀ x ∈ ns, x ∈ c.map Prod.fst := by
    have hfl : ∀ v ∈ vs, ∃ n t, v = .int n t ∧ n ∈ c.map Prod.fst := by
      intro v hv'
      obtain ⟨j, hj⟩ := List.getElem?_of_mem hv'
      obtain ⟨k, x, hx, hk⟩ := hv j v hj
      obtain ⟨dv, hd1, _⟩ := hf.at hx
      obtain ⟨tk, rfl⟩ := PyProof.V.Flat.int_inv (kdl_flat_int hk)
      refine ⟨k, tk, rfl, ?_⟩
      have hm := List.mem_of_getElem? hd1
      unfold kdfD at hm
      obtain ⟨q, hq, e⟩ := List.mem_map.mp hm
      injection e with e1 e2
      injection e1 with e3
      exact List.mem_map.mpr ⟨q, hq, e3⟩
    refine ⟨vs.map numOf, intsAre_map vs fun v hv' => ?_, fun x hx => ?_⟩
    · obtain ⟨n, t, e, _⟩ := hfl v hv'
      exact ⟨n, t, e⟩
    · obtain ⟨v, hv', rfl⟩ := List.mem_map.mp hx
      obtain ⟨n, t, rfl, hm⟩ := hfl v hv'
      exact hm
  obtain ⟨ns, hI, hin⟩ := hI
  have hoB := (N' _ (.head _)).1
  refine wpAny_call_entry slot_list_sort ⟨_, hoB, rfl⟩ entry_list_sort (list_sort_any (s := { s with heap := h', toks := tk }) hoB hI (by omega) (by omega) fun out ns' a1 a2 a3 => ⟨_, rfl, ?_⟩) (args_list_sort _)
  obtain ⟨e, he⟩ := sortedHeap_at (vs := vs) (out := out) hoB
  have hlt : ∀ {b : Addr} {o : Obj}, b ≠ B → h'.get? b = some o → (sortedHeap h' B vs out).get? b = some o := fun hb ho => by
    rw [sortedHeap_old hb (Heap.lt_size ho)]; exact ho
  obtain ⟨hB1, hB2, hB3⟩ := N' _ (.head _)
  refine h B out.toList ns' e _ _ ?_ ?_ l1 a1 (by omega) (fun x hx => hin x (a3 x hx))
  · obtain ⟨oL, b1, b2, hL, b3⟩ := F'.ns
    exact ⟨⟨oL, b1, b2, hlt (Ne.symm hB2) hL, b3⟩, fun b o hb => hlt (by rintro rfl; rw [hB3] at hb; cases hb) (F'.keep b o hb), F'.above⟩
  · intro p hp
    rcases List.mem_cons.mp hp with rfl | hp
    · exact ⟨he, hB2, hB3⟩
    · have := N' _ (List.mem_cons_of_mem _ hp)
      exact ⟨hlt (Nat.ne_of_lt (l1 _ hp)) this.1, this.2⟩
end

--deps: P16_sort Dev
/-- what a take gives, no more said than is wanted -/
theorem take_gives {w : World} {loose : List Str} {mean : ExcName → Option Value} {mg mb : Str → Option Value} {l : Addr} {n : Nat} {k : Int} {t : Tok} {vs : List Value} {ns : List Int} (hv : IntsAre vs ns) (hp : PoolOk ns) (hk1 : 1 ≤ k) (hkb : k ≤ 1048576) :
    Spec 8 w loose mean mg mb 52 [(l, listOf vs.toArray n)] [.ref l, .int k t] (fun r own' => (∃ v t, r = .int v t ∧ 0 ≤ v ∧ v < k) ∧ ∃ vs' ns' n', IntsAre vs' ns' ∧ PoolOk ns' ∧ own' = [(l, listOf vs'.toArray n')]) :=
  Spec.mono (take_ok hv hp hk1 hkb) fun r own' h => by
    obtain ⟨⟨t', e⟩, vs', n', hv', e'⟩ := h
    exact ⟨⟨_, t', e, takeVal_lo hk1, takeVal_hi hk1⟩, vs', _, n', hv', takeRest_ok hk1 hp, e'⟩
def SignOk (c : Int) : Prop := 0 ≤ c ∧ c < 1114112 ∧ ¬ (55296 ≤ c ∧ c < 57344)
theorem signOk_low {c : Int} (h0 : 0 ≤ c) (h1 : c < 55296) : SignOk c := ⟨h0, by omega, by omega⟩
theorem signOk_high {c : Int} (h0 : 65536 ≤ c) (h1 : c < 1114112) : SignOk c := ⟨by omega, h1, by omega⟩
theorem tabC_signs : ∀ p ∈ tabC, 0 ≤ p.2 ∧ p.2 < 1114112 ∧ ¬ (55296 ≤ p.2 ∧ p.2 < 57344) := by decide +kernel
theorem tabC_len : tabC.length = 232 := by decide +kernel
theorem tab_has {x : Int} (h : x ∈ tabC.map Prod.fst) : kdfHas tabC x = true := by
  obtain ⟨p, hp, rfl⟩ := List.mem_map.mp h
  exact List.any_eq_true.mpr ⟨p, hp, decide_eq_true rfl⟩
theorem tab_sign {x : Int} (h : x ∈ tabC.map Prod.fst) : SignOk (kdfLook tabC x 0) := by
  have h1 := tab_has h
  unfold kdfLook
  cases hf : tabC.find? fun p => decide (p.1 = x) with
  | none =>
    obtain ⟨p, hp, e⟩ := List.any_eq_true.mp h1
    exact absurd e (List.find?_eq_none.mp hf p hp)
  | some p => exact tabC_signs p (List.mem_of_find?_eq_some hf)
def menuC : List Int := [8225, 8241, 55295, 57344, 65533, 65279, 65535, 160]
theorem menu_sign : ∀ k : Nat, k < 8 → 0 ≤ menuC.getD k 0 ∧ menuC.getD k 0 < 1114112 ∧ ¬ (55296 ≤ menuC.getD k 0 ∧ menuC.getD k 0 < 57344) := by decide +kernel
theorem seat_in {ns : List Int} {k : Int} (h : ∀ x ∈ ns, x ∈ tabC.map Prod.fst) (h0 : 0 ≤ k) (h1 : k < (ns.length : Int)) : ns.getD k.toNat 0 ∈ tabC.map Prod.fst := getD_in h (by omega)
theorem News.sub {h₀ h : Heap} {L : Addr} {led led' : List (Addr × Obj)} (N : News h₀ L h led) (hs : ∀ p ∈ led', p ∈ led) : News h₀ L h led' := fun p hp => N p (hs p hp)
theorem seat_at {ns : List Int} {v : Int} (h : ∀ x ∈ ns, x ∈ tabC.map Prod.fst) (hl : ns.length = 232) : ns.getD (v.fmod 232).toNat 0 ∈ tabC.map Prod.fst := by
  have h0 : 0 ≤ v.fmod 232 := by rw [Int.fmod_eq_emod_of_nonneg _ (by decide)]; exact Int.emod_nonneg _ (by decide)
  have h1 : v.fmod 232 < 232 := by rw [Int.fmod_eq_emod_of_nonneg _ (by decide)]; exact Int.emod_lt_of_pos _ (by decide)
  exact seat_in h h0 (by omega)
theorem sign_end {l d : Addr} {o : Obj} {vs : List Value} {ns : List Int} {n : Nat} {c : Int} {t : Tok} (hc : SignOk c) (hi : IntsAre vs ns) (hp : PoolOk ns) :
    (∃ c' t', Value.int c t = .int c' t' ∧ SignOk c') ∧ ∃ vs' ns' n', IntsAre vs' ns' ∧ PoolOk ns' ∧ [(l, listOf vs.toArray n), (d, o)] = [(l, listOf vs'.toArray n'), (d, o)] := ⟨⟨_, _, rfl, hc⟩, _, _, _, hi, hp, rfl⟩
section
variable {prog : Program} {w : World} {A : Around} {E : Value → Shared → Prop} {s : Shared} {h₀ : Heap} {L l : Addr} {news : List (Addr × Obj)} {c : Nat} {vs : List Value} {xs : List Int} {Q : Value → Shared → Prop}
theorem len_seats (N : News h₀ L s.heap news) (hm : (l, listOf vs.toArray c) ∈ news) (hi : IntsAre vs xs) (hl : xs.length = 232) (h : ∀ t k, Q (.int 232 t) { s with toks := k }) : wpAny (model prog w) A (call (.builtin "len") [.ref l]) Q E s :=
  len_ints N hm hi (by omega) fun t k => by rw [hl]; exact h t k
theorem item_seats {value slice : PySem.Expr} {v : Int} {u : Tok} (N : News h₀ L s.heap news) (hm : (l, listOf vs.toArray c) ∈ news) (hi : IntsAre vs xs) (hl : xs.length = 232) (h : ∀ t, Q (.int (xs.getD (v.fmod 232).toNat 0) t) s)
    (hs : subscripted slice false (.ref l) (.int (v.fmod 232) u) = operate [.ref l, .int (v.fmod 232) u] (getItem (.ref l) (.int (v.fmod 232) u)) := by with_unfolding_all rfl) : wpAny (model prog w) A (subscriptTail value slice (.ref l) (.int (v.fmod 232) u)) Q E s := by
  have h0 : 0 ≤ v.fmod 232 := by rw [Int.fmod_eq_emod_of_nonneg _ (by decide)]; exact Int.emod_nonneg _ (by decide)
  have h1 : v.fmod 232 < 232 := by rw [Int.fmod_eq_emod_of_nonneg _ (by decide)]; exact Int.emod_lt_of_pos _ (by decide)
  exact item_ints N hm hi h0 (by omega) (by omega) h hs
end
section
local macro_rules | `(tactic| walk_at "call ref") => `(tactic| first
  | (k_here; (with_reducible show wpAny _ _ (call (Value.ref 52) _) _ _ _); k_dflt (refine' Spec.use ?B ?F ?X ?N ?T (take_gives ?sa ?sb ?sc ?sd) ?P ?D ?hk ?hd ?hu ?_; (case B => k_asm); (case F => k_asm); (case X => k_asm); (case N => k_asm); (case T => k_asm); (case sb => with_reducible assumption); (case sa => with_reducible assumption); (case sc => decide); (case sd => decide); (case P => (first | exact Picks.nil | (refine' Picks.cons ?pp ?pq; (case pp => first | exact Pick.head | exact Pick.tail (Pick.head) | exact Pick.tail (Pick.tail (Pick.head)) | exact Pick.tail (Pick.tail (Pick.tail (Pick.head))) | exact Pick.tail (Pick.tail (Pick.tail (Pick.tail (Pick.head)))) | exact Pick.tail (Pick.tail (Pick.tail (Pick.tail (Pick.tail (Pick.head))))) | exact Pick.tail (Pick.tail (Pick.tail (Pick.tail (Pick.tail (Pick.tail (Pick.head)))))) | exact Pick.tail (Pick.tail (Pick.tail (Pick.tail (Pick.tail (Pick.tail (Pick.tail (Pick.head)))))))); (case pq => first | exact Picks.nil | (refine' Picks.cons ?pp ?pq; (case pp => first | exact Pick.head | exact Pick.tail (Pick.head) | exact Pick.tail (Pick.tail (Pick.head)) | exact Pick.tail (Pick.tail (Pick.tail (Pick.head))) | exact Pick.tail (Pick.tail (Pick.tail (Pick.tail (Pick.head)))) | exact Pick.tail (Pick.tail (Pick.tail (Pick.tail (Pick.tail (Pick.head))))) | exact Pick.tail (Pick.tail (Pick.tail (Pick.tail (Pick.tail (Pick.tail (Pick.head)))))) | exact Pick.tail (Pick.tail (Pick.tail (Pick.tail (Pick.tail (Pick.tail (Pick.tail (Pick.head)))))))); (case pq => first | exact Picks.nil | (refine' Picks.cons ?pp ?pq; (case pp => first | exact Pick.head | exact Pick.tail (Pick.head) | exact Pick.tail (Pick.tail (Pick.head)) | exact Pick.tail (Pick.tail (Pick.tail (Pick.head))) | exact Pick.tail (Pick.tail (Pick.tail (Pick.tail (Pick.head)))) | exact Pick.tail (Pick.tail (Pick.tail (Pick.tail (Pick.tail (Pick.head))))) | exact Pick.tail (Pick.tail (Pick.tail (Pick.tail (Pick.tail (Pick.tail (Pick.head)))))) | exact Pick.tail (Pick.tail (Pick.tail (Pick.tail (Pick.tail (Pick.tail (Pick.tail (Pick.head)))))))); (case pq => exact Picks.nil)))))))); (case D => (first | exact List.forall_mem_nil _ | (refine' apart_cons ?pa ?pb; (case pa => k_all); (case pb => first | exact List.forall_mem_nil _ | (refine' apart_cons ?pa ?pb; (case pa => k_all); (case pb => first | exact List.forall_mem_nil _ | (refine' apart_cons ?pa ?pb; (case pa => k_all); (case pb => exact List.forall_mem_nil _)))))))); (case hk => first | exact rfl | assumption); (case hd => ktr_room); (case hu => ktr_units)); intro r9 own9 h9 tk9 F9 N9 D9 hp9; ((obtain ⟨⟨v9, t9, er9, hlo9, hhi9⟩, vs9, ns9, n9, hi9, hp9, eo9⟩ := hp9; subst er9; subst eo9)); (replace D9 := ApartL.of D9); (try simp only [ApartL, OffL, and_true] at D9); (try simp only [List.cons_append, List.nil_append] at N9); (try dsimp only); (try k_sweep); (try k_fold)))
local macro_rules | `(tactic| walk_at "call builtin:sorted") => `(tactic| (k_here; (with_reducible show wpAny _ _ (call (Value.builtin "sorted") [Value.ref _]) _ _ _); k_dflt (refine' sorted_tab (c := tabC) rfl ?k1 ?k2 ?k3 ?k4 ?k5 ?_; (case k1 => k_asm); (case k2 => k_asm); (case k3 => k_tabat); (case k4 => rw [tabC_len]; decide); (case k5 => rw [tabC_len]; decide)); intro B9 vs9 ns9 n9 h9 tk9 F9 N9 l9 hi9 hlen9 hin9; (try k_lt l9); rw [tabC_len] at hlen9; (try k_sweep)))
local macro_rules | `(tactic| walk_at "call builtin:len") => `(tactic| (k_here; (with_reducible show wpAny _ _ (call (Value.builtin "len") [Value.ref _]) _ _ _); k_dflt (refine' len_seats ?k1 ?k2 ?k3 ?k4 ?_; (case k1 => k_asm); (case k4 => with_reducible assumption); (case k2 => k_mem); (case k3 => with_reducible assumption); k_whole); intro _ _))
local macro_rules | `(tactic| walk_at "subscriptTail") => `(tactic| (k_here; (with_reducible show wpAny _ _ (subscriptTail _ _ (Value.ref _) (Value.int _ _)) _ _ _); (rename (∀ x ∈ _, x ∈ List.map Prod.fst tabC) => hin8); first
  | ((with_reducible show wpAny _ _ (subscriptTail _ _ (Value.ref _) (Value.int (List.getD _ _ _) _)) _ _ _); k_dflt (refine' kdf_item ?k1 ?k2 ?_; (case k1 => k_tabat); (case k2 => exact tab_has (seat_at hin8 (by with_reducible assumption)))); intro _)
  | (k_dflt (refine' item_seats ?k1 ?k2 ?k3 ?k4 ?_ ?k7; (case k1 => k_asm); (case k4 => with_reducible assumption); (case k2 => k_mem); (case k3 => with_reducible assumption); (case k7 => with_unfolding_all rfl); k_whole); intro _)))
theorem sign_ok {w : World} {loose : List Str} {mean : ExcName → Option Value} {mg mb : Str → Option Value} {l d : Addr} {n : Nat} {vs : List Value} {ns : List Int} {o : Obj} {kvs : List (Int × Value)} (hv : IntsAre vs ns) (hpo : PoolOk ns) (hne : @Ne Nat l d) (hlo : (d == sysModules) = false)
    (hd' : o.IsDictOf (PySem.intKind PySem.Challenge.rw_nn0192_01.row.prog w) kvs) (hf' : PyProof.V.FlatPairs PyData.int kvs (kdfD tabC)) :
    Spec 16 w loose mean mg mb 66 [(l, listOf vs.toArray n), (d, o)] [.ref l, .ref d] (fun r own' => (∃ c t, r = .int c t ∧ SignOk c) ∧ ∃ vs' ns' n', IntsAre vs' ns' ∧ PoolOk ns' ∧ own' = [(l, listOf vs'.toArray n'), (d, o)]) := by
  w_on
  w_strict (refine' spec_of (binds := [(Str.ofString "pool", .ref l), (Str.ofString "table", .ref d)]) (by k_is) (by k_is) (fun s => BindsTo.of_eq rfl) (locs rfl) rfl rfl rfl (by decide) (by decide) ?_; intro dp un gd cn cs L a ccd cl outer base g L' h₁ s tk Q E B hk F N X T hd hu hret; (try k_fold); k_steps; all_goals ((try dsimp only); refine' hret _ _ _ _ _ ?ha (News.sub ?hb ?hs) (sign_end ?hc ?hi ?hp); (case ha => k_asm); (case hp => with_reducible assumption); (case hi => with_reducible assumption); (case hb => k_asm); (case hs => (with_unfolding_all k_allIn)); (case hc => first | exact signOk_low (by omega) (by omega) | exact signOk_high (by omega) (by omega) | exact menu_sign _ (toNat_lt (by assumption) (by assumption)) | exact tab_sign (seat_at (by with_reducible assumption) (by with_reducible assumption)))))
end

--deps: P12_bytes
/-! ### list(octets) -/
theorem bytes_len_slot : typeLookup (.type "bytes") "__len__" = pure (some (.builtin "bytes.__len__")) := by rw [typeLookup_type, builtinLookup_eq_fast]; kernel_rfl
section
open PySem.Sem (wp)
variable {prog : Program} {w : World} {A : Around} {E : Value → Shared → Prop} {s : Shared} {b : Array UInt8} {t : Tok}
def OctAt (b : Array UInt8) (i : Nat) (v : Value) : Prop := ∃ c u, b[i]? = some c ∧ v = .int (c.toNat : Int) u
theorem extend_octets {R : Result → Shared → Prop} (hh : A.handled = none) (S : Addr) (res : Value) (c₀ : Nat) (hS : s.heap.get? S = some { cls := .type "list", data := .seq #[] c₀ })
    (hR : ∀ h' tk acc' c', (∀ a o, a ≠ S → s.heap.get? a = some o → h'.get? a = some o) → h'.get? S = some { cls := .type "list", dict := none, data := .seq acc' c', slots := #[] } →
      ItemsOf (OctAt b) acc' b.size → R (.ok (.ret res)) { s with heap := h', toks := tk }) (hn : b.size ≤ sizeLine) :
    wpAny (model prog w) A.in1 (Builtin.List.listExtendWith (.ref S) (.bytes b t) res)
      (fun fin s' => match fin with | .done f => R (.ok f) s' | .again c' => c'.quiet = true ∧ codeAny (model prog w) A c' R s') (fun e s' => R (.error e) s') s := by
  have hSI : S ≠ s.heap.objs.size := Nat.ne_of_lt (Heap.lt_size hS)
  have hSf : S ∉ [s.heap.objs.size] := fun hm => hSI (List.mem_singleton.mp hm)
  have hT : ∀ s : Shared, s.TypeIs (.bytes b t) "bytes" := fun s => typeIs_bytes s b t
  unfold Builtin.List.listExtendWith
  refine wpAny_bind (wpAny_typeOf (T := "bytes") (hT _) ?_)
  have h1 : Builtin.List.listSameRef (.ref S) (.bytes b t) = false := rfl
  have h2 : (Value.type "bytes" == Value.type "list") = false := by decide
  have h3 : (Value.type "bytes" == Value.type "tuple") = false := by decide
  simp only [h1, h2, h3, Bool.or_false, Bool.false_eq_true, if_false]
  refine wpAny_bind (KBw.pyIter_bytes (wpAny_bind (wpAny_holding ?_)))
  unfold Builtin.List.listLengthHint
  refine wpAny_bind (wpAny_specialOf (T := "bytes") (hT _) bytes_len_slot ?_)
  wp_delta
  refine wpAny_bind (wpAny_isInstance (T := "bytes") (b := true) (hT _) (by rw [isSubtype_type]; kernel_rfl) ?_)
  show wpAny _ _ (typeOf (Value.bytes b t) >>= _) _ _ _
  refine wpAny_bind (wpAny_typeOf (T := "bytes") (hT _) ?_)
  refine wpAny_pure ?_
  rw [if_neg (by decide)]
  refine wpAny_pure ⟨plainId_quiet PySem.F.plain_extend_loop _, codeAny_extend_loopS (KBw.walks (A := A.in1) hh s.heap.objs.size b t).toS hn _ hSf _ b.size 0 _ _ _ rfl (Nat.zero_le _) ⟨_, Heap.get?_push_size _ rfl, rfl, rfl⟩ (Heap.get?_push_of_some _ hS) (ItemsOf.nil _) fun s' acc' c' hm hS' hacc => ?_⟩
  rw [Moved.eq_with hm]
  refine hR s'.heap s'.toks acc' c' (fun a ob ha e => hm.heap a ob (fun hmem => ?_) (Heap.get?_push_of_some _ e)) hS' hacc
  rcases List.mem_cons.mp hmem with e' | hmem
  · exact ha e'
  · exact absurd (Heap.lt_size e) (by rw [List.mem_singleton.mp hmem]; exact Nat.lt_irrefl _)
theorem init_octets {R : Result → Shared → Prop} (hh : A.handled = none) (S : Addr) (hS : s.heap.get? S = some { cls := .type "list", data := .seq #[] })
    (hR : ∀ h' tk acc' c', (∀ a o, a ≠ S → s.heap.get? a = some o → h'.get? a = some o) → h'.get? S = some { cls := .type "list", dict := none, data := .seq acc' c', slots := #[] } →
      ItemsOf (OctAt b) acc' b.size → R (.ok (.ret .none)) { s with heap := h', toks := tk }) (hn : b.size ≤ sizeLine) :
    wpAny (model prog w) A.in1 (Builtin.«list.__init__» ⟨[.ref S, .bytes b t], []⟩)
      (fun fin s' => match fin with | .done f => R (.ok f) s' | .again c' => c'.quiet = true ∧ codeAny (model prog w) A c' R s') (fun e s' => R (.error e) s') s := by
  refine wpAny_bind (m := Builtin.List.listItems (.ref S)) (listItems_at hS rfl ?_)
  refine wpAny_bind (m := Builtin.List.listUpdate (.ref S) (fun _ => #[])) (listUpdate_at hS rfl ?_)
  have hS₂ := Heap.get?_update_self (Obj.mapSeq (fun _ => (#[] : Array Value))) hS rfl
  have oth : ∀ a o, a ≠ S → s.heap.get? a = some o → (s.heap.update S (Obj.mapSeq (fun _ => (#[] : Array Value)))).get? a = some o :=
    fun a o ha e => (Heap.get?_update_other _ _ (Ne.symm ha)).trans e
  refine wpAny_bind (wpAny_letGo ?_)
  refine extend_octets (hn := hn) hh S .none _ hS₂ fun h' tk acc' c' hk hS' hacc => ?_
  exact hR h' tk acc' c' (fun a o ha e => hk a o ha (oth a o ha e)) hS' hacc
theorem octs_ints : ∀ {vs : List Value} {l : List UInt8}, vs.length = l.length → (∀ (j : Nat) (v : Value), vs[j]? = some v → ∃ c u, l[j]? = some c ∧ v = .int ((c.toNat : Nat) : Int) u) → IntsAre vs (l.map fun c => ((c.toNat : Nat) : Int))
  | [], [], _, _ => .nil
  | v :: vs, c :: l, hl, h => by
    obtain ⟨c', u, e, rfl⟩ := h 0 v rfl
    simp only [List.getElem?_cons_zero, Option.some.injEq] at e
    subst e
    exact .cons _ u (octs_ints (by simpa using hl) fun j v hj => by simpa using h (j + 1) v (by simpa using hj))
  | [], _ :: _, hl, _ => by simp at hl
  | _ :: _, [], hl, _ => by simp at hl
theorem list_octets {h₀ : Heap} {L : Addr} {m : Str → Option Value} {news : List (Addr × Obj)} {ks : List Int} {Q : Value → Shared → Prop} (hh : A.handled = none) (F : Fr h₀ L s.heap m) (N : News h₀ L s.heap news) (hk : KBw.bInts b = ks) (hb : ks.length ≤ 1000)
    (h : ∀ D us c h' tk, Fr h₀ L h' m → News h₀ L h' ((D, listOf (List.toArray us) c) :: news) → (∀ p ∈ news, p.1 < D) → IntsAre us ks → Q (.ref D) { s with heap := h', toks := tk }) :
    wpAny (model prog w) A (call (.type "list") [.bytes b t]) Q E s := by
  subst hk
  have hn : b.size ≤ sizeLine := by rw [sizeLine_eq, ← KBw.ints_length]; omega
  refine callType_codes (Q₁ := fun obj s₁ => obj = .ref s.heap.objs.size ∧ s₁ = { s with heap := s.heap.push { cls := .type "list", data := .seq #[] } }) PySem.F.called_list (PySem.F.typeCall_list_1 _) PySem.F.entry_list_init
    (code_list_new _ ⟨rfl, rfl⟩) fun obj s₁ h₁ => ?_
  obtain ⟨rfl, rfl⟩ := h₁
  have hS : (s.heap.push { cls := .type "list", data := .seq #[] }).get? s.heap.objs.size = some { cls := .type "list", data := .seq #[] } := Heap.get?_push_size _ rfl
  refine ⟨⟨_, hS, rfl⟩, PySem.F.args_list_init_2 _ _, init_octets (A := A.in1) (hn := hn) hh _ hS fun h' tk acc' c' hk hS' hacc => ⟨rfl, ?_⟩⟩
  have hk' : ∀ a o, s.heap.get? a = some o → h'.get? a = some o := fun a o e => hk a o (Nat.ne_of_lt (Heap.lt_size e)) (Heap.get?_push_of_some _ e)
  have hD' : h'.get? s.heap.objs.size = some (listOf (List.toArray acc'.toList) c') := by
    rw [Array.toArray_toList]
    exact hS'
  refine h _ acc'.toList c' h' tk (F.keeps hk') (news_pushed F N hk' hD' rfl) (fun p hp => Heap.lt_size (N p hp).1) ?_
  refine octs_ints (by rw [Array.length_toList, Array.length_toList]; exact hacc.1) fun j v hj => ?_
  obtain ⟨c, u, hc, e⟩ := hacc.2 j v (by rw [← hj, Array.getElem?_toList])
  exact ⟨c, u, by rw [Array.getElem?_toList]; exact hc, e⟩
end
/-! ### bits -/
theorem nat_and_zero {a b k : Nat} (h : b < 2 ^ k) : (a * 2 ^ k) &&& b = 0 := by
  refine Nat.eq_of_testBit_eq fun i => ?_
  rw [Nat.testBit_and, Nat.zero_testBit]
  by_cases hi : i < k
  · rw [Nat.mul_comm, Nat.testBit_two_pow_mul]
    simp [Nat.not_le.mpr hi]
  · rw [Nat.testBit_lt_two_pow (Nat.lt_of_lt_of_le h (Nat.pow_le_pow_right (by decide) (Nat.le_of_not_lt hi))), Bool.and_false]
theorem or_low {a b : Int} {k : Nat} (ha : 0 ≤ a) (hb : 0 ≤ b) (h : b < 2 ^ k) : Builtin.bitOr (a * 2 ^ k) b = a * 2 ^ k + b := by
  have hp : (0 : Int) ≤ a * 2 ^ k := Int.mul_nonneg ha (Int.pow_nonneg (by decide))
  rw [bitOr_and]
  have e : Builtin.bitAnd (a * 2 ^ k) b = 0 := by
    unfold Builtin.bitAnd
    rw [decide_eq_true hp, decide_eq_true hb]
    dsimp only
    have e1 : (a * 2 ^ k).toNat = a.toNat * 2 ^ k := by
      have : a * 2 ^ k = ((a.toNat * 2 ^ k : Nat) : Int) := by rw [Int.natCast_mul, Int.toNat_of_nonneg ha]; simp
      rw [this]; rfl
    have e2 : b.toNat < 2 ^ k := by
      have : ((2 ^ k : Nat) : Int) = 2 ^ k := by simp
      omega
    rw [e1, nat_and_zero e2]
    rfl
  rw [e]
  omega
section
variable {prog : Program} {w : World} {A : Around} {E : Value → Shared → Prop} {s : Shared} {a b : Int} {t u : Tok} {Q : Value → Shared → Prop}
theorem shl_8 (h0 : 0 ≤ a) (h1 : a < 1048576) (h : ∀ t k, Q (.int (a * 256) t) { s with toks := k }) : wpAny (model prog w) A (binaryOp .LShift (.int a t) (.int 8 u)) Q E s :=
  lshift_int_small (by decide) (by decide) (by omega) (h _ _)
theorem shl_10 (h0 : 0 ≤ a) (h1 : a < 1048576) (h : ∀ t k, Q (.int (a * 1024) t) { s with toks := k }) : wpAny (model prog w) A (binaryOp .LShift (.int a t) (.int 10 u)) Q E s :=
  lshift_int_small (by decide) (by decide) (by omega) (h _ _)
theorem shr_8 (h : ∀ t k, Q (.int (a / 256) t) { s with toks := k }) : wpAny (model prog w) A (binaryOp .RShift (.int a t) (.int 8 u)) Q E s := by
  refine rshift_int (by decide) ?_
  have e : a.fdiv (2 ^ (8 : Int).toNat) = a / 256 := Int.fdiv_eq_ediv_of_nonneg _ (by decide)
  rw [e]; exact h _ _
theorem shr_10 (h : ∀ t k, Q (.int (a / 1024) t) { s with toks := k }) : wpAny (model prog w) A (binaryOp .RShift (.int a t) (.int 10 u)) Q E s := by
  refine rshift_int (by decide) ?_
  have e : a.fdiv (2 ^ (10 : Int).toNat) = a / 1024 := Int.fdiv_eq_ediv_of_nonneg _ (by decide)
  rw [e]; exact h _ _
theorem and_1023 (h : ∀ t k, Q (.int (a % 1024) t) { s with toks := k }) : wpAny (model prog w) A (binaryOp .BitAnd (.int a t) (.int 1023 u)) Q E s := by
  refine and_int ?_
  have e : Builtin.bitAnd a 1023 = a % 1024 := kbt_mask a 10
  rw [e]; exact h _ _
theorem and_255 (h : ∀ t k, Q (.int (a % 256) t) { s with toks := k }) : wpAny (model prog w) A (binaryOp .BitAnd (.int a t) (.int 255 u)) Q E s := by
  refine and_int ?_
  have e : Builtin.bitAnd a 255 = a % 256 := kbt_mask a 8
  rw [e]; exact h _ _
theorem or_8 (ha : 0 ≤ a) (hb : 0 ≤ b) (h1 : b < 256) (h : ∀ t k, Q (.int (a * 256 + b) t) { s with toks := k }) : wpAny (model prog w) A (binaryOp .BitOr (.int (a * 256) t) (.int b u)) Q E s := by
  refine or_int ?_
  have e : Builtin.bitOr (a * 256) b = a * 256 + b := or_low (k := 8) ha hb h1
  rw [e]; exact h _ _
theorem or_hi (hb : 0 ≤ b) (h1 : b < 1024) (h : ∀ t k, Q (.int (55296 + b) t) { s with toks := k }) : wpAny (model prog w) A (binaryOp .BitOr (.int 55296 t) (.int b u)) Q E s := by
  refine or_int ?_
  have e : Builtin.bitOr 55296 b = 55296 + b := or_low (a := 54) (k := 10) (by decide) hb h1
  rw [e]; exact h _ _
theorem or_lo (hb : 0 ≤ b) (h1 : b < 1024) (h : ∀ t k, Q (.int (56320 + b) t) { s with toks := k }) : wpAny (model prog w) A (binaryOp .BitOr (.int 56320 t) (.int b u)) Q E s := by
  refine or_int ?_
  have e : Builtin.bitOr 56320 b = 56320 + b := or_low (a := 55) (k := 10) (by decide) hb h1
  rw [e]; exact h _ _
end
section
variable {prog : Program} {w : World} {A : Around} {E : Value → Shared → Prop} {s : Shared} {h₀ : Heap} {L l : Addr} {news : List (Addr × Obj)} {c : Nat} {vs : List Value} {xs : List Int} {Q : Value → Shared → Prop}
theorem item_octet {value slice : PySem.Expr} {k : Int} {u : Tok} (N : News h₀ L s.heap news) (hm : (l, listOf vs.toArray c) ∈ news) (hi : IntsAre vs xs) (hx : ∀ x ∈ xs, 0 ≤ x ∧ x < 256) (h0 : 0 ≤ k) (h1 : k < (xs.length : Int)) (hfit : xs.length ≤ 1000)
    (h : ∀ t v, v = xs.getD k.toNat 0 → 0 ≤ v → v < 256 → Q (.int v t) s)
    (hs : subscripted slice false (.ref l) (.int k u) = operate [.ref l, .int k u] (getItem (.ref l) (.int k u)) := by with_unfolding_all rfl) : wpAny (model prog w) A (subscriptTail value slice (.ref l) (.int k u)) Q E s := by
  have hg : 0 ≤ xs.getD k.toNat 0 ∧ xs.getD k.toNat 0 < 256 := by
    have hk : k.toNat < xs.length := by omega
    rw [List.getD_eq_getElem?_getD, List.getElem?_eq_getElem hk]
    exact hx _ (List.getElem_mem _)
  exact item_ints N hm hi h0 h1 (by omega) (fun t => h t _ rfl hg.1 hg.2) hs
end

--deps: P12_bytes P16_sort P18_listb
/-! ### the law's reading -/
def LrSt (ks done rest : List Int) (held : Int) : Prop :=
  (held = -1 ∨ (55296 ≤ held ∧ held < 56320)) ∧ done ++ readU ((if held < 0 then [] else [held]) ++ pairsU rest) = readU (pairsU ks) ∧ (∀ x ∈ rest, 0 ≤ x ∧ x < 256) ∧ rest.length % 2 = ks.length % 2 ∧ done.length + rest.length ≤ ks.length
theorem lr_two {rest : List Int} (h : 1 < rest.length) : rest = rest.getD 0 0 :: rest.getD 1 0 :: rest.drop 2 := by
  match rest, h with
  | a :: b :: r, _ => rfl
  | [_], h => simp at h
  | [], h => simp at h
theorem readU_cons {u : Int} {R : List Int} (h : ¬ (55296 ≤ u ∧ u < 56320)) : readU (u :: R) = (if 55296 ≤ u ∧ u < 57344 then 65533 else u) :: readU R := by
  cases R with
  | nil => simp only [readU]; split <;> rfl
  | cons v r => rw [readU, if_neg fun q => h ⟨q.1, q.2.1⟩]
theorem readU_lone {u v : Int} {R : List Int} (h : 55296 ≤ u ∧ u < 56320) (hv : ¬ (56320 ≤ v ∧ v < 57344)) : readU (u :: v :: R) = 65533 :: readU (v :: R) := by
  rw [readU, if_neg fun q => hv ⟨q.2.2.1, q.2.2.2⟩, if_pos ⟨h.1, by omega⟩]
section
variable {ks done rest : List Int} {held : Int}
theorem lr_get (S : LrSt ks done rest held) (h : 1 < rest.length) {k : Nat} (hk : k < 2) : 0 ≤ rest.getD k 0 ∧ rest.getD k 0 < 256 := getD_in S.2.2.1 (by omega)
theorem lr_step (S : LrSt ks done rest held) (h : 1 < rest.length) {done' : List Int} {held' : Int} (hh : held' = -1 ∨ (55296 ≤ held' ∧ held' < 56320)) (hl : done'.length ≤ done.length + 2)
    (e : done' ++ readU ((if held' < 0 then [] else [held']) ++ pairsU (rest.drop 2)) = done ++ readU ((if held < 0 then [] else [held]) ++ (rest.getD 0 0 * 256 + rest.getD 1 0) :: pairsU (rest.drop 2))) : LrSt ks done' (rest.drop 2) held' := by
  obtain ⟨h1, h2, h3, h4, h5⟩ := S
  refine ⟨hh, ?_, fun x hx => h3 x (List.mem_of_mem_drop hx), by rw [List.length_drop]; omega, by rw [List.length_drop]; omega⟩
  rw [e, ← h2]
  congr 2
  conv => rhs; rw [lr_two h, pairsU]
end
section
variable {ks done xs : List Int} {held v₀ v₁ : Int}
theorem lr_pair (S : LrSt ks done xs held) (h : 1 < (xs.length : Int)) (e₀ : v₀ = xs.getD (Int.toNat 0) 0) (e₁ : v₁ = xs.getD (Int.toNat 1) 0) (h0 : 0 ≤ held) (a : 56320 ≤ v₀ * 256 + v₁) (b : v₀ * 256 + v₁ ≤ 57343) :
    LrSt ks (done ++ [65536 + held % 1024 * 1024 + (v₀ * 256 + v₁) % 1024]) (xs.drop 2) (-1) := by
  subst e₀ e₁
  have h1 := S.1
  refine lr_step S (by omega) (.inl rfl) (by simp) ?_
  rw [if_pos (by decide), if_neg (by omega)]
  simp only [List.nil_append, List.cons_append]
  show _ = done ++ readU (held :: (xs.getD (Int.toNat 0) 0 * 256 + xs.getD (Int.toNat 1) 0) :: pairsU (xs.drop 2))
  rw [readU, if_pos ⟨by omega, by omega, a, by omega⟩, List.append_assoc]
  congr 1
  show _ :: _ = _ :: _
  congr 1
  omega
theorem lr_hold (S : LrSt ks done xs held) (h : 1 < (xs.length : Int)) (e₀ : v₀ = xs.getD (Int.toNat 0) 0) (e₁ : v₁ = xs.getD (Int.toNat 1) 0) (h0 : ¬ 0 ≤ held) (a : 55296 ≤ v₀ * 256 + v₁) (b : v₀ * 256 + v₁ ≤ 56319) :
    LrSt ks done (xs.drop 2) (v₀ * 256 + v₁) := by
  subst e₀ e₁
  refine lr_step S (by omega) (.inr ⟨a, by omega⟩) (by simp) ?_
  rw [if_neg (by omega), if_pos (by omega)]
  rfl
theorem lr_low (S : LrSt ks done xs held) (h : 1 < (xs.length : Int)) (e₀ : v₀ = xs.getD (Int.toNat 0) 0) (e₁ : v₁ = xs.getD (Int.toNat 1) 0) (h0 : ¬ 0 ≤ held) (a : 56320 ≤ v₀ * 256 + v₁) (b : v₀ * 256 + v₁ ≤ 57343) :
    LrSt ks (done ++ [65533]) (xs.drop 2) held := by
  have hm : held = -1 := by have := S.1; omega
  subst e₀ e₁
  refine lr_step S (by omega) (.inl hm) (by simp) ?_
  rw [if_pos (by omega)]
  simp only [List.nil_append]
  show _ = done ++ readU ((xs.getD (Int.toNat 0) 0 * 256 + xs.getD (Int.toNat 1) 0) :: pairsU (xs.drop 2))
  rw [readU_cons (by omega), if_pos ⟨by omega, by omega⟩, List.append_assoc]
  rfl
theorem lr_one (S : LrSt ks done xs held) (h : 1 < (xs.length : Int)) (e₀ : v₀ = xs.getD (Int.toNat 0) 0) (e₁ : v₁ = xs.getD (Int.toNat 1) 0) (h0 : ¬ 0 ≤ held) (a : ¬ (55296 ≤ v₀ * 256 + v₁ ∧ v₀ * 256 + v₁ ≤ 57343)) :
    LrSt ks (done ++ [v₀ * 256 + v₁]) (xs.drop 2) held := by
  have hm : held = -1 := by have := S.1; omega
  subst e₀ e₁
  refine lr_step S (by omega) (.inl hm) (by simp) ?_
  rw [if_pos (by omega)]
  simp only [List.nil_append]
  show _ = done ++ readU ((xs.getD (Int.toNat 0) 0 * 256 + xs.getD (Int.toNat 1) 0) :: pairsU (xs.drop 2))
  rw [readU_cons (by omega), if_neg (by omega), List.append_assoc]
  rfl
theorem lr_lone_hold (S : LrSt ks done xs held) (h : 1 < (xs.length : Int)) (e₀ : v₀ = xs.getD (Int.toNat 0) 0) (e₁ : v₁ = xs.getD (Int.toNat 1) 0) (h0 : 0 ≤ held) (a : 55296 ≤ v₀ * 256 + v₁) (b : v₀ * 256 + v₁ ≤ 56319) :
    LrSt ks (done ++ [65533]) (xs.drop 2) (v₀ * 256 + v₁) := by
  subst e₀ e₁
  have h1 := S.1
  refine lr_step S (by omega) (.inr ⟨a, by omega⟩) (by simp) ?_
  rw [if_neg (by omega), if_neg (by omega)]
  simp only [List.nil_append, List.cons_append]
  show _ = done ++ readU (held :: (xs.getD (Int.toNat 0) 0 * 256 + xs.getD (Int.toNat 1) 0) :: pairsU (xs.drop 2))
  rw [readU_lone (by omega) (by omega), List.append_assoc]
  rfl
theorem lr_lone_one (S : LrSt ks done xs held) (h : 1 < (xs.length : Int)) (e₀ : v₀ = xs.getD (Int.toNat 0) 0) (e₁ : v₁ = xs.getD (Int.toNat 1) 0) (h0 : 0 ≤ held) (a : ¬ (55296 ≤ v₀ * 256 + v₁ ∧ v₀ * 256 + v₁ ≤ 57343)) :
    LrSt ks (done ++ [65533] ++ [v₀ * 256 + v₁]) (xs.drop 2) (-1) := by
  subst e₀ e₁
  have h1 := S.1
  refine lr_step S (by omega) (.inl rfl) (by simp) ?_
  rw [if_pos (by decide), if_neg (by omega)]
  simp only [List.nil_append, List.cons_append]
  show _ = done ++ readU (held :: (xs.getD (Int.toNat 0) 0 * 256 + xs.getD (Int.toNat 1) 0) :: pairsU (xs.drop 2))
  rw [readU_lone (by omega) (by omega), readU_cons (by omega), if_neg (by omega), List.append_assoc, List.append_assoc]
  rfl
end
theorem lr_done {ks done xs : List Int} {held : Int} (hm : ks.take 2 = [254, 255]) (S : LrSt (ks.drop 2) done xs held) (h : ¬ 1 < (xs.length : Int)) : (if 0 ≤ held then done ++ [65533] else done) ++ List.replicate xs.length 65533 = textC ks := by
  obtain ⟨h1, h2, h3, h4, h5⟩ := S
  have h6 := mark_len hm
  unfold textC
  rw [if_pos hm, ← h2]
  rw [List.length_drop] at h4
  have hp : pairsU xs = [] := by
    match xs, h with
    | [], _ => rfl
    | [_], _ => rfl
    | _ :: _ :: _, h => simp only [List.length_cons] at h; omega
  rw [hp, List.append_nil]
  have e1 : readU (if held < 0 then [] else [held]) = if 0 ≤ held then [65533] else [] := by
    by_cases q : held < 0
    · rw [if_pos q, if_neg (by omega)]; rfl
    · rw [if_neg q, if_pos (by omega), readU, if_pos ⟨by omega, by omega⟩]
  rw [e1]
  have e2 : List.replicate xs.length (65533 : Int) = if ks.length % 2 = 1 then [65533] else [] := by
    match xs, h with
    | [], _ => rw [if_neg (by simp only [List.length_nil] at h4; omega)]; rfl
    | [_], _ => rw [if_pos (by simp only [List.length_singleton] at h4; omega)]; rfl
    | _ :: _ :: _, h => simp only [List.length_cons] at h; omega
  rw [e2]
  by_cases q : 0 ≤ held
  · rw [if_pos q, if_pos q]
  · rw [if_neg q, if_neg q, List.append_nil]
theorem lr_done_a {ks done xs : List Int} {held : Int} (hm : ks.take 2 = [254, 255]) (S : LrSt (ks.drop 2) done xs held) (h : ¬ 1 < (xs.length : Int)) (h0 : 0 ≤ held) : done ++ [65533] ++ List.replicate xs.length 65533 = textC ks := by
  rw [← lr_done hm S h, if_pos h0]
theorem lr_done_b {ks done xs : List Int} {held : Int} (hm : ks.take 2 = [254, 255]) (S : LrSt (ks.drop 2) done xs held) (h : ¬ 1 < (xs.length : Int)) (h0 : ¬ 0 ≤ held) : done ++ List.replicate xs.length 65533 = textC ks := by
  rw [← lr_done hm S h, if_neg h0]
def LrR (ks : List Int) (D d : Addr) (o : Obj) (m₀ : Str → Option Value) (n : Nat) (m : Str → Option Value) (nx : List (Addr × Obj)) : Prop :=
  ∃ la vs xs k₁ us done k₂ held th, nx = [(D, listOf us.toArray k₂), (la, listOf vs.toArray k₁), (d, o)] ∧ n = xs.length ∧ LrSt ks done xs held ∧ IntsAre vs xs ∧ IntsAre us done ∧ m (Str.ofString "rest") = some (.ref la) ∧ m (Str.ofString "held") = some (.int held th) ∧
    (∀ z, z ≠ Str.ofString "rest" → z ≠ Str.ofString "held" → z ≠ Str.ofString "unit" → m z = m₀ z) ∧ (@Ne Nat D la)
theorem lr_while {prog : Program} {w : World} {A : Around} {E : Value → Shared → Prop} {Q : Flow → Shared → Prop} {s : Shared} {env : Env} {h₀ : Heap} {L : Addr} {test : PySem.Expr} {body : List Stmt} {pos : Pos} {m₀ : Str → Option Value} {news : List (Addr × Obj)} {ks : List Int} {la D d : Addr} {o : Obj} {vs : List Value} {k₁ k₂ : Nat} {th : Tok} {w' : World} {kvs : List (Int × Value)} (hd : o.IsDictOf (PySem.intKind PySem.Challenge.rw_nn0192_01.row.prog w') kvs)
    (F : Fr h₀ L s.heap m₀) (N : News h₀ L s.heap news) (hn : ∀ p ∈ [(D, listOf #[] k₂), (la, listOf vs.toArray k₁), (d, o)], p ∈ news) (hi : IntsAre vs ks) (hx : ∀ x ∈ ks, 0 ≤ x ∧ x < 256) (hb : ks.length ≤ 1000) (hr : m₀ (Str.ofString "rest") = some (.ref la)) (h0 : m₀ (Str.ofString "held") = some (.int (-1) th))
    (hne : @Ne Nat D la)
    (turn : ∀ la vs xs k₁ us done k₂ held th (q : Str → Option Value) h tk, LrSt ks done xs held → IntsAre vs xs → IntsAre us done → xs.length ≤ 1000 → done.length ≤ 1000 → (@Ne Nat D la) → (held = -1 ∨ (55296 ≤ held ∧ held < 56320)) → (∀ x ∈ xs, 0 ≤ x ∧ x < 256) →
      Fr h₀ L h (fun z => if z = Str.ofString "rest" then some (.ref la) else if z = Str.ofString "held" then some (.int held th) else if z = Str.ofString "unit" then q z else m₀ z) → News h₀ L h [(D, listOf us.toArray k₂), (la, listOf vs.toArray k₁), (d, o)] →
      wpAny (model prog w) A (isTrue test env (eval test env)) (fun b s₂ => if b = true then wpAny (model prog w) A (execs body env) (WlPost h₀ L s (LrR ks D d o m₀) Q xs.length) E s₂ else Q .next s₂) E { s with heap := h, toks := tk })
    (hE : PassesOwn (model prog w) A env E := by passes_own) :
    wpAny (model prog w) A (exec (.While test body [] pos) env) Q E s := by
  refine wl_while (LrR ks D d o m₀) F (news := [(D, listOf #[] k₂), (la, listOf vs.toArray k₁), (d, o)]) (fun p hp => N p (hn p hp)) (n₀ := ks.length) ⟨la, vs, ks, k₁, [], [], k₂, -1, th, rfl, rfl, ⟨.inl rfl, rfl, hx, rfl, by simp⟩, hi, .nil, hr, h0, fun _ _ _ _ => rfl, hne⟩ ?_ hE
  rintro n m₁ nx h tk ⟨la, vs, xs, k₁, us, done, k₂, held, th, rfl, rfl, S, hvs, hus, ha, hh, hm, hne⟩ F₁ N₁
  have e1 : m₁ = fun z => if z = Str.ofString "rest" then some (.ref la) else if z = Str.ofString "held" then some (.int held th) else if z = Str.ofString "unit" then m₁ z else m₀ z := by
    funext z
    by_cases h1 : z = Str.ofString "rest"
    · simp only [if_pos h1]; rw [h1]; exact ha
    · simp only [if_neg h1]
      by_cases h2 : z = Str.ofString "held"
      · simp only [if_pos h2]; rw [h2]; exact hh
      · simp only [if_neg h2]
        by_cases h3 : z = Str.ofString "unit"
        · simp only [if_pos h3]
        · simp only [if_neg h3]; exact hm z h1 h2 h3
  rw [e1] at F₁
  have h5 := S.2.2.2.2
  exact turn la vs xs k₁ us done k₂ held th m₁ h tk S hvs hus (by omega) (by omega) hne S.1 S.2.2.1 F₁ N₁
theorem clip_drop (ks : List Int) : ks.drop (clipAt ks.length 2) = ks.drop 2 := by
  unfold clipAt
  by_cases h : 2 ≤ ks.length
  · congr 1; omega
  · rw [List.drop_eq_nil_of_le (by omega), List.drop_eq_nil_of_le (by omega)]
theorem clip_take (ks : List Int) : ks.take (clipAt ks.length 2) = ks.take 2 := by
  unfold clipAt
  by_cases h : 2 ≤ ks.length
  · congr 1; omega
  · rw [List.take_of_length_le (by omega), List.take_of_length_le (by omega)]
theorem clip_tail (ks : List Int) : List.take (ks.length - clipAt ks.length 2) (List.drop (clipAt ks.length 2) ks) = ks.drop 2 := by
  rw [List.take_of_length_le (by rw [List.length_drop]; omega), clip_drop]
theorem octs_mark {c : Array UInt8} {ks : List Int} (h : KBw.bInts c = List.take (clipAt ks.length 2) ks) : c.toList = (#[254, 255] : Array UInt8).toList ↔ ks.take 2 = [254, 255] := by
  rw [clip_take] at h
  rw [← h]
  exact ⟨fun q => by rw [Array.toList_inj.mp q]; decide +kernel, fun q => by rw [bInts_inj (c := #[254, 255]) (q.trans (by decide +kernel))]⟩
theorem octs_mark_t {c : Array UInt8} {ks : List Int} (h : KBw.bInts c = List.take (clipAt ks.length 2) ks) (e : (c.toList != #[254, 255].toList) = true) : ¬ ks.take 2 = [254, 255] :=
  fun q => bne_iff_ne.mp e ((octs_mark h).mpr q)
theorem octs_mark_f {c : Array UInt8} {ks : List Int} (h : KBw.bInts c = List.take (clipAt ks.length 2) ks) (e : (c.toList != #[254, 255].toList) = false) : ks.take 2 = [254, 255] :=
  (octs_mark h).mp (by simpa using e)

theorem look_sig : ∀ k : Nat, k < 256 → kdfLook tabC (k : Int) 65533 = sigC.getD k 0 := by decide +kernel
theorem look_text {ks : List Int} (hm : ¬ ks.take 2 = [254, 255]) (hx : ∀ x ∈ ks, 0 ≤ x ∧ x < 256) : ks.map (fun a => kdfLook tabC a 65533) = textC ks := by
  rw [← textC_a hm]
  refine List.map_congr_left fun x h => ?_
  have hb := hx x h
  have := look_sig x.toNat (by omega)
  rw [Int.toNat_of_nonneg hb.1] at this
  exact this
theorem flat_rep (n : Nat) (a : Int) : (List.replicate ((n : Int).toNat) [a]).flatten = List.replicate n a := by
  rw [Int.toNat_natCast]
  induction n with
  | zero => rfl
  | succ n ih => rw [List.replicate_succ, List.flatten_cons, ih]; rfl
theorem ints_as {us : List Value} {xs ys : List Int} (h : IntsAre us xs) (e : xs = ys) : IntsAre us ys := e ▸ h
theorem rd_post {D d : Addr} {us : List Value} {n : Nat} {o : Obj} {ks : List Int} (h : IntsAre us (textC ks)) : ∃ D' us' n', (Value.ref D) = .ref D' ∧ IntsAre us' (textC ks) ∧ [(D, listOf us.toArray n), (d, o)] = [(D', listOf us'.toArray n'), (d, o)] := ⟨_, _, _, rfl, h, rfl⟩

--deps: P19_rdlaw P17_sign Dev
section
local macro_rules | `(tactic| walk_at "eval ListComp") => `(tactic| (k_here; k_dflt (refine ListComp_M (F₀ := by k_asm) (by with_unfolding_all rfl) (by decide) (by rfl) (by decide) (by rfl) ?_)))
local macro_rules | `(tactic| walk_at "CSrc") => `(tactic| (k_here; first
  | ((with_reducible show CSrc _ _ _ _ _ _ _ _ _ _ _ _ _ (Value.bytes _ _) _); k_dflt (refine' CSrc.bytes (fun c v => ∃ t, v = .int (kdfLook tabC c 65533) t) ?k1 rfl ?k2 ?k3 ?k4 ?_ ?_; (case k1 => with_reducible assumption); (case k2 => k_asm); (case k3 => k_asm); (case k4 => omega)); all_goals (first | (intro c9 u9 g9 hc9 hlo9 hhi9; (unfold CTurn; intro I' oI' C' oC' D' m' ys' h' tk' E' hC' hx' F' N' off' ne'; (try (simp only [LCg.Off3, and_true] at off')); (try dsimp only); k_fold)) | (intro ys9 g9 hy9; have hy9 := Each.ints hy9)))))
local macro_rules | `(tactic| walk_at "CompEnd") => `(tactic| first
  | k_dflt (exact LCg.CompEnd.intro (by k_asm) (by k_asm) _ (by kcf_all) (by first | assumption | (simp only [LCg.Off3, and_true]; omega)) (by trivial) ⟨rfl, ⟨_, rfl⟩⟩))
local macro_rules | `(tactic| walk_at "call builtin:dict.get") => `(tactic| (k_here; (try dsimp only [List.cons_append, List.nil_append]); (with_reducible show wpAny _ _ (call (Value.builtin "dict.get") [Value.ref _, Value.int _ _, Value.int _ _]) _ _ _); k_dflt (refine kdf_get2 (by k_tabat) ?_); intro _))
local macro_rules | `(tactic| walk_at "call type:list") => `(tactic| (k_here; (with_reducible show wpAny _ _ (call (Value.type "list") [Value.bytes _ _]) _ _ _); k_dflt (refine' list_octets rfl ?k1 ?k2 ?k3 ?k4 ?_; (case k1 => k_asm); (case k2 => k_asm); (case k3 => with_reducible assumption); (case k4 => (rw [clip_tail, List.length_drop]; omega))); intro D9 vs9 c9 h9 tk9 F9 N9 l9 hi9; rw [clip_tail] at hi9; (try k_lt l9); (try k_sweep)))
local macro_rules | `(tactic| walk_at "exec While Compare cons nil") => `(tactic| (k_here; (with_unfolding_all refine' lr_while ?hd ?F ?N ?n ?i ?x ?b ?r ?z ?ne ?_; (case F => k_asm); (case hd => with_reducible assumption); (case i => with_reducible assumption); (case N => k_asm); (case r => rfl); (case z => rfl); (case n => k_allIn); (case x => with_reducible assumption); (case b => (rw [List.length_drop]; omega)); (case ne => omega)); intro la' vs' xs' k1' us' done' k2' held' th' q' h' tk' hS' hi' hu' hxl' hdl' hne' hhe' hox' F' N'; k_fold))
local macro_rules | `(tactic| walk_at "WlPost") => `(tactic| dsimp only [WlPost])
local macro_rules | `(tactic| walk_at "call builtin:len") => `(tactic| (k_here; (with_reducible show wpAny _ _ (call (Value.builtin "len") [Value.ref _]) _ _ _); k_dflt (refine' len_ints ?k1 ?k2 ?k3 ?k4 ?_; (case k1 => k_asm); (case k2 => k_mem); (case k3 => with_reducible assumption); (case k4 => omega); k_whole); intro _ _))
local macro_rules | `(tactic| walk_at "subscriptTail Name Constant ref int") => `(tactic| (k_here; (with_reducible show wpAny _ _ (subscriptTail _ _ (Value.ref _) (Value.int _ _)) _ _ _); k_dflt (refine' item_octet ?k1 ?k2 ?k3 ?k8 ?k4 ?k5 ?k6 ?_ ?k7; (case k1 => k_asm); (case k2 => k_mem); (case k3 => with_reducible assumption); (case k8 => with_reducible assumption); (case k4 => omega); (case k5 => omega); (case k6 => omega); (case k7 => with_unfolding_all rfl); k_whole); intro _ v9 hv9 hvl9 hvh9))
local macro_rules | `(tactic| walk_at "binaryOp LShift int int") => `(tactic| (k_here; with_reducible (first | refine shl_8 (by omega) (by omega) ?_ | refine shl_10 (by omega) (by omega) ?_); intro _ _))
local macro_rules | `(tactic| walk_at "binaryOp BitOr int int") => `(tactic| (k_here; with_reducible (refine or_8 (by omega) (by omega) (by omega) ?_); intro _ _))
local macro_rules | `(tactic| walk_at "binaryOp BitAnd int int") => `(tactic| (k_here; with_reducible (refine and_1023 ?_); intro _ _))
local macro_rules | `(tactic| walk_at "call builtin:list.append") => `(tactic| (k_here; (try dsimp only [List.cons_append, List.nil_append]); (with_reducible show wpAny _ _ (call (Value.builtin _) [Value.ref _, Value.int _ _]) _ _ _); k_dflt (refine' app_ints ?k1 ?k2 ?k3 ?k4 ?k5 ?k6 ?_; (case k1 => k_asm); (case k2 => k_asm); (case k3 => k_updF); (case k4 => with_reducible assumption); (case k5 => with_reducible assumption); (case k6 => omega); k_whole); intro us' h' hi' hl' F' N'; (try dsimp only at N'); (try k_sweep)))
local macro_rules | `(tactic| walk_at "WlEnd") => `(tactic| first
  | k_dflt (exact WlEnd.intro (by k_asm) ⟨_, _, _, _, _, _, _, _, _, rfl, rfl, lr_pair (by with_reducible assumption) (by with_reducible assumption) (by with_reducible assumption) (by with_reducible assumption) (by omega) (by omega) (by omega), by with_reducible assumption, by with_reducible assumption, by rfl, by rfl, (by (intro z h1 h2 h3; first | rfl | (simp [h1, h2, h3]; done) | (simp_all; done))), by omega⟩ (by omega) (by k_asm) (by (with_unfolding_all ((try simp only [List.nil_append, List.cons_append]); k_allIn))))
  | k_dflt (exact WlEnd.intro (by k_asm) ⟨_, _, _, _, _, _, _, _, _, rfl, rfl, lr_hold (by with_reducible assumption) (by with_reducible assumption) (by with_reducible assumption) (by with_reducible assumption) (by omega) (by omega) (by omega), by with_reducible assumption, by with_reducible assumption, by rfl, by rfl, (by (intro z h1 h2 h3; first | rfl | (simp [h1, h2, h3]; done) | (simp_all; done))), by omega⟩ (by omega) (by k_asm) (by (with_unfolding_all ((try simp only [List.nil_append, List.cons_append]); k_allIn))))
  | k_dflt (exact WlEnd.intro (by k_asm) ⟨_, _, _, _, _, _, _, _, _, rfl, rfl, lr_low (by with_reducible assumption) (by with_reducible assumption) (by with_reducible assumption) (by with_reducible assumption) (by omega) (by omega) (by omega), by with_reducible assumption, by with_reducible assumption, by rfl, by rfl, (by (intro z h1 h2 h3; first | rfl | (simp [h1, h2, h3]; done) | (simp_all; done))), by omega⟩ (by omega) (by k_asm) (by (with_unfolding_all ((try simp only [List.nil_append, List.cons_append]); k_allIn))))
  | k_dflt (exact WlEnd.intro (by k_asm) ⟨_, _, _, _, _, _, _, _, _, rfl, rfl, lr_one (by with_reducible assumption) (by with_reducible assumption) (by with_reducible assumption) (by with_reducible assumption) (by omega) (by omega), by with_reducible assumption, by with_reducible assumption, by rfl, by rfl, (by (intro z h1 h2 h3; first | rfl | (simp [h1, h2, h3]; done) | (simp_all; done))), by omega⟩ (by omega) (by k_asm) (by (with_unfolding_all ((try simp only [List.nil_append, List.cons_append]); k_allIn))))
  | k_dflt (exact WlEnd.intro (by k_asm) ⟨_, _, _, _, _, _, _, _, _, rfl, rfl, lr_lone_hold (by with_reducible assumption) (by with_reducible assumption) (by with_reducible assumption) (by with_reducible assumption) (by omega) (by omega) (by omega), by with_reducible assumption, by with_reducible assumption, by rfl, by rfl, (by (intro z h1 h2 h3; first | rfl | (simp [h1, h2, h3]; done) | (simp_all; done))), by omega⟩ (by omega) (by k_asm) (by (with_unfolding_all ((try simp only [List.nil_append, List.cons_append]); k_allIn))))
  | k_dflt (exact WlEnd.intro (by k_asm) ⟨_, _, _, _, _, _, _, _, _, rfl, rfl, lr_lone_one (by with_reducible assumption) (by with_reducible assumption) (by with_reducible assumption) (by with_reducible assumption) (by omega) (by omega), by with_reducible assumption, by with_reducible assumption, by rfl, by rfl, (by (intro z h1 h2 h3; first | rfl | (simp [h1, h2, h3]; done) | (simp_all; done))), by omega⟩ (by omega) (by k_asm) (by (with_unfolding_all ((try simp only [List.nil_append, List.cons_append]); k_allIn)))))
theorem lawread_ok {w : World} {loose : List Str} {mean : ExcName → Option Value} {mg mb : Str → Option Value} {b : Array UInt8} {tb : Tok} {ks : List Int} {d : Addr} {o : Obj} {kvs : List (Int × Value)} (hk' : KBw.bInts b = ks) (hb : ks.length ≤ 1000) (hlo : (d == sysModules) = false)
    (hd' : o.IsDictOf (PySem.intKind PySem.Challenge.rw_nn0192_01.row.prog w) kvs) (hf' : PyProof.V.FlatPairs PyData.int kvs (kdfD tabC)) :
    Spec 16 w loose mean mg mb 76 [(d, o)] [.bytes b tb, .ref d] (fun r own' => ∃ D us n, r = .ref D ∧ IntsAre us (textC ks) ∧ own' = [(D, listOf us.toArray n), (d, o)]) := by
  have hx1 : ∀ x ∈ ks, 0 ≤ x ∧ x < 256 := fun k hk => by subst hk'; exact KBw.ints_in hk
  have hx2 : ∀ x ∈ ks.drop 2, 0 ≤ x ∧ x < 256 := fun k hk => by subst hk'; exact KBw.ints_in (List.mem_of_mem_drop hk)
  w_on
  w_strict (refine' spec_ofC (binds := [(Str.ofString "octets", .bytes b tb), (Str.ofString "table", .ref d)]) (by k_is) (by k_is) (fun s => BindsTo.of_eq rfl) (by rfl) (by decide +kernel) rfl rfl rfl (by decide) ?_; intro dp un gd cn cs L a ccd cl outer base g L' h₁ cells s tk Q E B hk F N Y l1 X T hd hu hret; k_cells Y; (try simp only [List.cons_append, List.nil_append] at N); (try dsimp only); (try k_fold); k_steps; all_goals ((try dsimp only); refine' hret _ _ _ _ _ ?ha (News.sub ?hb ?hs) (rd_post ?hc); (case ha => k_asm); (case hc => first | exact ints_as (by with_reducible assumption) (look_text (octs_mark_t (by with_reducible assumption) (by with_reducible assumption)) (by with_reducible assumption)) | exact ints_as (by with_reducible assumption) ((congrArg (fun z => _ ++ z) (flat_rep _ _)).trans (lr_done_a (octs_mark_f (by with_reducible assumption) (by with_reducible assumption)) (by with_reducible assumption) (by with_reducible assumption) (by with_reducible assumption))) | exact ints_as (by with_reducible assumption) ((congrArg (fun z => _ ++ z) (flat_rep _ _)).trans (lr_done_b (octs_mark_f (by with_reducible assumption) (by with_reducible assumption)) (by with_reducible assumption) (by with_reducible assumption) (by with_reducible assumption)))); (case hb => k_asm); (case hs => (with_unfolding_all k_allIn))))
end

--deps: P16_sort P11_comp
/-! ### a list comprehension over a dict, each item a fresh pair -/
abbrev tup2 (a b : Value) : Obj := { cls := .type "tuple", data := .seq #[a, b] 0 }
inductive Tups : List (Int × Int) → List Value → List (Addr × Obj) → Prop
  | nil : Tups [] [] []
  | snoc {c : List (Int × Int)} {ys : List Value} {tl : List (Addr × Obj)} {a b : Int} {t u : Tok} {T : Addr} : Tups c ys tl → Tups (c ++ [(a, b)]) (ys ++ [.ref T]) ((T, tup2 (.int a t) (.int b u)) :: tl)
theorem Tups.len {c : List (Int × Int)} {ys : List Value} {tl : List (Addr × Obj)} (h : Tups c ys tl) : ys.length = c.length := by
  induction h with
  | nil => rfl
  | snoc _ ih => simp [ih]
theorem Tups.at {c : List (Int × Int)} {ys : List Value} {tl : List (Addr × Obj)} (h : Tups c ys tl) : ∀ (i : Nat) (y : Value), ys[i]? = some y → ∃ T a b t u, y = .ref T ∧ c[i]? = some (a, b) ∧ (T, tup2 (.int a t) (.int b u)) ∈ tl := by
  induction h with
  | nil => intro i y h; simp at h
  | @snoc c ys tl a b t u T h ih =>
    intro i y hy
    have hl := h.len
    rcases Nat.lt_trichotomy i ys.length with hi | hi | hi
    · rw [List.getElem?_append_left hi] at hy
      obtain ⟨T', a', b', t', u', e1, e2, e3⟩ := ih i y hy
      exact ⟨T', a', b', t', u', e1, by rw [List.getElem?_append_left (by omega)]; exact e2, List.mem_cons_of_mem _ e3⟩
    · subst hi
      simp at hy
      subst hy
      exact ⟨T, a, b, t, u, rfl, by rw [hl]; simp, List.mem_cons_self⟩
    · rw [List.getElem?_eq_none (by simp; omega)] at hy
      cases hy
section
variable {prog : Program} {w : World} {A : Around} {E : Value → Shared → Prop} {s : Shared} {h₀ : Heap} {L : Addr} {m : Str → Option Value} {env : Env} {elt : PySem.Expr} {x : Str} {scope : Scope} {cl : List (Str × Addr)} {S : List (Addr × Obj) → Prop} {P : Nat → Value → Prop} {rest : List (Addr × Obj)}
def TEl (rest tl : List (Addr × Obj)) (a b : Int) (y : Value) (news' : List (Addr × Obj)) : Prop := ∃ T t u, y = .ref T ∧ news' = rest ++ (T, tup2 (.int a t) (.int b u)) :: tl
def TTurn (prog : Program) (w : World) (A : Around) (h₀ : Heap) (L : Addr) (m : Str → Option Value) (env : Env) (elt : PySem.Expr) (x : Str) (scope : Scope) (cl : List (Str × Addr)) (s : Shared) (S : List (Addr × Obj) → Prop) (rest : List (Addr × Obj)) (v : Value) (a b : Int) : Prop :=
  ∀ I oI C oC D m₂ ys tl h tk (E' : Value → Shared → Prop), LCg.NsObj oC m₂ → m₂ x = some v → Fr h₀ L h m → News h₀ L h ((I, oI) :: (C, oC) :: (D, LCg.lst ys) :: (rest ++ tl)) → LCg.Off3 I C D (rest ++ tl) → LCg.Off3 I C D (rest ++ tl) → ((@Ne Nat I C) ∧ (@Ne Nat I D) ∧ (@Ne Nat C D)) → S (rest ++ tl) →
    wpAny (model prog w) A (eval elt (compEnvC scope cl C env)) (LCg.CompEnd h₀ L m { s with heap := h, toks := tk } I oI C oC D (LCg.lst ys) S (fun y news' => TEl rest tl a b y news')) E' { s with heap := h, toks := tk }
theorem cr_tups {as : List Int} {n : Nat} {f g : Int → Int} {Fin : List Value → List (Addr × Obj) → Prop} (hn : as.length = n) (hP : ∀ i v, i < n → P i v → ∃ a, as[i]? = some a ∧ TTurn prog w A h₀ L m env elt x scope cl s S rest v (f a) (g a)) (hS : S rest) (hS' : ∀ tl, S (rest ++ tl))
    (fin : ∀ ys tl, Tups (as.map fun a => (f a, g a)) ys tl → Fin ys (rest ++ tl)) : LCg.CompRest prog w A h₀ L m env elt x scope cl s S P Fin n 0 [] rest := by
  have key : ∀ (j i : Nat) (ys : List Value) (tl : List (Addr × Obj)), i + j = n → Tups ((as.take i).map fun a => (f a, g a)) ys tl → LCg.CompRest prog w A h₀ L m env elt x scope cl s S P Fin j i ys (rest ++ tl) := by
    intro j
    induction j with
    | zero =>
      intro i ys tl hi hy
      have e : i = as.length := by omega
      subst e
      rw [List.take_length] at hy
      exact LCg.CompRest.zero (fin ys tl hy)
    | succ j ih =>
      intro i ys tl hi hy
      refine LCg.CompRest.succ ?_
      intro v I oI C oC D m₂ h tk E' hv hC hx F N off ne
      obtain ⟨a, ha, T⟩ := hP i v (by omega) hv
      refine wpAny_mono (T I oI C oC D m₂ ys tl h tk E' hC hx F N off off ne (hS' tl)) (fun y s₂ hq => ?_) fun _ _ e => e
      obtain ⟨h', tk', nw, e, F', N', off', hS2, T', t, u, rfl, rfl⟩ := hq
      refine ⟨h', tk', _, e, F', N', off', hS2, ?_⟩
      refine ih (i + 1) _ _ (by omega) ?_
      rw [List.take_add_one, ha, Option.toList_some, List.map_append]
      exact .snoc hy
  have := key n 0 [] [] (by omega) (by simp only [List.take_zero]; exact .nil)
  rwa [List.append_nil] at this
theorem CSrc.dictTups {d : Addr} {o : Obj} {kvs : List (Int × Value)} {c : List (Int × Int)} {s₁ : Shared} {f g : Int → Int} {Fin : Shared → List Value → List (Addr × Obj) → Prop} (hh : A.handled = none) (F : Fr h₀ L s₁.heap m) (N : News h₀ L s₁.heap rest) (hm : (d, o) ∈ rest)
    (hlo : (d == sysModules) = false) (hd : o.IsDictOf (PySem.intKind prog w) kvs) (hf : PyProof.V.FlatPairs PyData.int kvs (kdfD c)) (hsz : c.length ≤ 1000)
    (turn : ∀ (k : Int) u g', k ∈ c.map Prod.fst → TTurn prog w A h₀ L m env elt x scope cl { s₁ with heap := g' } (fun nw => (d, o) ∈ nw) rest (.int k u) (f k) (g k))
    (fin : ∀ ys tl g', Tups ((c.map Prod.fst).map fun a => (f a, g a)) ys tl → Fin { s₁ with heap := g' } ys (rest ++ tl)) : CSrc prog w A h₀ L m env elt x scope cl Fin E (.ref d) s₁ := by
  unfold CSrc
  have hol : s₁.heap.get? d = some o := (N _ hm).1
  obtain ⟨ep, hat⟩ := (kda_dict N hm hd).dictAt
  have hlt : d < s₁.heap.objs.size := Heap.lt_size hol
  have hlen : kvs.length = c.length := by have := hf.length; rw [kdfD_length] at this; exact this.symm
  refine wpAny_pyIter_dict hlo hat ⟨s₁.heap.objs.size, _, kvs.length, _, _, (fun nw => (d, o) ∈ nw), rest, rfl, Walks.dictKeys hh _ d (Nat.ne_of_lt hlt) kvs ep, by rw [sizeLine_eq, hlen]; omega, ?_, ?_, ⟨⟨_, Heap.get?_push_size _ rfl, rfl, rfl⟩, hat.push _⟩, ?_, F.push _, (fun p hp => ⟨Heap.get?_push_of_some _ (N p hp).1, (N p hp).2⟩), Nat.ne_of_lt F.ns.lt, next_is_new F, (fun p hp => Nat.ne_of_lt (Heap.lt_size (N p hp).1)), hm, ?_⟩
  · rintro i h ⟨⟨o, ho, _⟩, _⟩; exact ⟨o, ho⟩
  · rintro i h h' o' nw ⟨⟨o'', ho', r⟩, hl⟩ e e' _ N' S'
    rw [e] at ho'; cases ho'
    refine ⟨⟨o', e', r⟩, hat.at' fun o3 e3 => ?_⟩
    rw [hol] at e3; cases e3
    exact (N' _ S').1
  · intro b hb
    show b < (s₁.heap.push _).objs.size
    rw [Heap.size_push]
    rcases List.mem_cons.mp hb with rfl | hb
    · exact Nat.lt_succ_self _
    · rw [List.mem_singleton.mp hb]; exact Nat.lt_succ_of_lt hlt
  · refine cr_tups (as := c.map Prod.fst) (f := f) (g := g) (by rw [List.length_map]; exact hlen.symm) ?_ hm (fun tl => List.mem_append_left _ hm) fun ys tl h => fin ys tl _ h
    rintro i v _ ⟨k, y, hx, hk⟩
    obtain ⟨tk, rfl⟩ := PyProof.V.Flat.int_inv (kdl_flat_int hk)
    obtain ⟨dv, hd1, _⟩ := hf.at hx
    have hc : (c.map Prod.fst)[i]? = some k := by
      unfold kdfD at hd1
      rw [List.getElem?_map] at hd1 ⊢
      cases hci : c[i]? with
      | none => rw [hci] at hd1; cases hd1
      | some q =>
        rw [hci] at hd1
        simp only [Option.map_some, Option.some.injEq, Prod.mk.injEq, PyData.int.injEq] at hd1
        simp only [Option.map_some, hd1.1]
    exact ⟨k, hc, turn k tk _ (List.mem_of_getElem? hc)⟩
end

--deps: P21_dictcomp Dev
/-! ### dict(list of pairs of ints) -/
theorem list_no_keys : typeLookup (.type "list") "keys" = pure none := am_miss_of_fast (by kernel_rfl)
theorem plain_update_loop : plainId "dict.update.loop" = true := by decide +kernel
theorem entry_update_loop : entryFor table "dict.update.loop" = some Builtin.«dict.update.loop» := entryFor_of_fast (by kernel_rfl)
section
variable {prog : Program} {w : World} {A : Around} {E : Value → Shared → Prop} {s : Shared}
theorem keys_list {a : Addr} {o : Obj} {xs : Array Value} {k : Nat} {Q : Option Value → Shared → Prop} (hx : s.heap.get? a = some o) (hc : o.cls = .type "list") (hdat : o.data = .seq xs k) (hd : o.dict = none) (hA : A.handled = none)
    (h : ∀ h' tk, (∀ b o, s.heap.get? b = some o → h'.get? b = some o) → Q none { s with heap := h', toks := tk }) : wpAny (model prog w) A (getAttr? (.ref a) "keys") Q E s := by
  obtain ⟨c, dct, dat, sl⟩ := o
  simp only at hc hdat hd
  subst hc hdat hd
  obtain ⟨hp, g, d, tk, os⟩ := s
  have hT : ∀ tk', (⟨hp, g, d, tk', os⟩ : Shared).TypeIs (.ref a) "list" := fun _ => ⟨_, hx, rfl⟩
  have f1 := sub_AttributeError
  have f3 := F.slot_list_getattribute.lookup
  have f4 := F.slot_list_getattribute.bind (.ref a)
  have f5 := am_list_getattr_none
  unfold getAttr? getAttrBy? getAttrBy
  repeat (any_goals (first | assumption | exact hT _ | ((with_reducible show wpAny _ _ (call (Value.builtin "list.__getattribute__") _ _) _ _ _); refine call_meets F.slot_list_getattribute (hT _) am_entry_list_getattribute (F.args_list_getattribute_2 _ _) (meets_getattribute_miss_list a xs k sl "keys" _ list_no_keys (by decide +kernel) (by decide +kernel)) ⟨hx, hA, fun h' tk' e hx' => ?_⟩) | wp_step))
  obtain ⟨t', u', he⟩ := hx'.there
  show wpAny _ _ (getattributeRaised _ _ _ _ _ _ _) _ _ _
  unfold getattributeRaised
  repeat (any_goals (first | assumption | wp_step))
  exact h _ _ hx'.keeps
theorem update_loop {R : Result → Shared → Prop} {S I l : Addr} {items : Array Value} {c : List (Int × Int)} {h₁ : Heap} (hh : A.handled = none) (hSl : S ≠ l) (hIl : l ≠ I) (hSI : S ≠ I)
    (hit : ∀ (i : Nat) v, items[i]? = some v → ∃ T a b t u, v = .ref T ∧ c[i]? = some (a, b) ∧ h₁.get? T = some (tup2 (.int a t) (.int b u)) ∧ T ≠ S ∧ T ≠ I)
    (hlen : items.size = c.length) (hsz : c.length ≤ 1000) :
    ∀ (k i : Nat) (s : Shared) (kvs : List (Int × Value)) (tk0 : Tok), c.length - i = k → i ≤ c.length → s.heap.IsListIter I l i → s.heap.IsList l items → (∀ b ob, b ≠ S → b ≠ I → h₁.get? b = some ob → s.heap.get? b = some ob) →
      s.heap.DictOf (intKind prog w) S kvs → PyProof.V.FlatPairs PyData.int kvs (kdfD ((c.take i).foldl (fun d p => kdfPut d p.1 p.2) [])) →
      (∀ h' tk kvs', (∀ b ob, b ≠ S → b ≠ I → h₁.get? b = some ob → h'.get? b = some ob) → h'.DictOf (intKind prog w) S kvs' → PyProof.V.FlatPairs PyData.int kvs' (kdfD (c.foldl (fun d p => kdfPut d p.1 p.2) [])) → R (.ok (.ret .none)) { s with heap := h', toks := tk }) →
      codeAny (model prog w) A (.builtin "dict.update.loop" ⟨[.ref S, .ref I, .int (i : Int) tk0, .none], []⟩) R s := by
  have W := Walks.list (prog := prog) (w := w) (A := A.in1) hh I l hIl items
  intro k
  induction k with
  | zero =>
    intro i s kvs tk0 hk hi hst hl hkeep hD hf hR
    have hin : i = c.length := by omega
    subst hin
    refine codeAny_builtin entry_update_loop ?_
    rw [Around.under_plainId plain_update_loop _]
    show wpAny _ A.in1 (pyNext (.ref I) >>= _) _ _ s
    refine wpAny_bind (W.done s _ _ ⟨hlen ▸ hst, hl⟩ fun h' tk hm => ?_)
    show wpAny _ A.in1 (Builtin.Dict.addKeywords S [] >>= fun _ => ret Value.none) _ _ _
    refine wpAny_bind (wpAny_pure (wpAny_pure (hR h' tk kvs (fun b ob h1 h2 e => hm b ob (fun q => h2 (List.mem_singleton.mp q)) (hkeep b ob h1 h2 e)) ?_ (by rw [List.take_length] at hf; exact hf))))
    obtain ⟨o, ho, hd⟩ := Heap.dictOf_iff.mp hD
    exact Heap.dictOf_iff.mpr ⟨o, hm _ _ (fun q => hSI (List.mem_singleton.mp q)) ho, hd⟩
  | succ k ih =>
    intro i s kvs tk0 hk hi hst hl hkeep hD hf hR
    have hlt : i < c.length := by omega
    refine codeAny_builtin entry_update_loop ?_
    rw [Around.under_plainId plain_update_loop _]
    show wpAny _ A.in1 (pyNext (.ref I) >>= _) _ _ s
    refine wpAny_bind (W.item i s _ _ (by omega) ⟨hst, hl⟩ fun v h' tk hP hst' hm => ?_)
    obtain ⟨T, a, b, t, u, rfl, hc, hT, hTS, hTI⟩ := hit i v hP
    have hk' : ∀ b ob, b ≠ S → b ≠ I → h₁.get? b = some ob → h'.get? b = some ob := fun b ob h1 h2 e => hm b ob (fun q => h2 (List.mem_singleton.mp q)) (hkeep b ob h1 h2 e)
    have hT' : h'.get? T = some (tup2 (.int a t) (.int b u)) := hk' T _ hTS hTI hT
    have hD' : h'.DictOf (intKind prog w) S kvs := by
      obtain ⟨o, ho, hd⟩ := Heap.dictOf_iff.mp hD
      exact Heap.dictOf_iff.mpr ⟨o, hm _ _ (fun q => hSI (List.mem_singleton.mp q)) ho, hd⟩
    have hlen' : kvs.length ≤ 1000 := by
      have h1 := hf.length
      rw [kdfD_length] at h1
      have h2 : ∀ (l : List (Int × Int)) (d : List (Int × Int)), (l.foldl (fun d p => kdfPut d p.1 p.2) d).length ≤ d.length + l.length := by
        intro l
        induction l with
        | nil => intro d; exact Nat.le_refl _
        | cons a r ih =>
          intro d
          have q1 := ih (kdfPut d a.1 a.2)
          have q2 := kdfPut_len d a.1 a.2
          simp only [List.foldl_cons, List.length_cons]
          omega
      have h3 := h2 (c.take i) []
      rw [List.length_take] at h3
      simp only [List.length_nil] at h3
      omega
    refine wpAny_bind (wpAny_holding ?_)
    refine wpAny_bind (wpAny_tryCatch ?_)
    unfold Builtin.Dict.pairItems
    refine wpAny_bind (wpAny_typeOf (T := "tuple") ⟨_, hT', rfl⟩ ?_)
    rw [if_pos (by decide)]
    refine wpAny_bind (wpAny_seqItems hT' rfl (wpAny_pure ?_))
    show wpAny _ _ (holding [Value.int a t, Value.int b u] (dictSet S (.int a t) (.int b u))) _ _ _
    refine wpAny_holding ?_
    refine wpAny_dictSet_pairs (hsz := by rw [sizeLine_eq]; omega) (knd := intKind prog w) (k := a) (intKind_is _ _ _ _) hD' fun h'' hD'' hs => ?_
    refine wpAny_pure ⟨plainId_quiet plain_update_loop _, ?_⟩
    have hf' := hf.stored PyProof.V.same_int a (PyProof.V.Flat.int b u)
    rw [kdfD_put] at hf'
    have e2 : (c.take (i + 1)).foldl (fun d p => kdfPut d p.1 p.2) [] = kdfPut ((c.take i).foldl (fun d p => kdfPut d p.1 p.2) []) a b := by
      rw [List.take_add_one, hc, Option.toList_some, List.foldl_append]
      rfl
    have hoS : ∀ b ob, b ≠ S → h'.get? b = some ob → h''.get? b = some ob := fun b ob hb e => hs.extBut b ob hb e
    refine ih (i + 1) _ _ _ (by omega) hlt (hst'.1.at fun o e => hoS _ _ (Ne.symm hSI) e) (hst'.2.at fun o e => hoS _ _ (Ne.symm hSl) e) (fun b ob h1 h2 e => hoS b ob h1 (hk' b ob h1 h2 e)) hD'' (by rw [e2]; exact hf') hR
end
section
variable {prog : Program} {w : World} {A : Around} {E : Value → Shared → Prop} {s : Shared}
theorem dict_tups {h₀ : Heap} {L l : Addr} {m : Str → Option Value} {news rest tl : List (Addr × Obj)} {ys : List Value} {kl : Nat} {c : List (Int × Int)} {Q : Value → Shared → Prop} (hh : A.handled = none) (F : Fr h₀ L s.heap m) (N : News h₀ L s.heap news) (hbig : h₀.NoLimit)
    (hl : (l, listOf ys.toArray kl) ∈ news) (ht : ∀ p ∈ tl, p ∈ news) (hr : ∀ p ∈ rest, p ∈ news) (T : Tups c ys tl) (hsz : c.length ≤ 1000)
    (h : ∀ D o kvs h' tk, Fr h₀ L h' m → News h₀ L h' ((D, o) :: rest) → (∀ p ∈ rest, p.1 < D) → (D == sysModules) = false → o.IsDictOf (intKind prog w) kvs → PyProof.V.FlatPairs PyData.int kvs (kdfD (c.foldl (fun d p => kdfPut d p.1 p.2) [])) → Q (.ref D) { s with heap := h', toks := tk }) :
    wpAny (model prog w) A (call (.type "dict") [.ref l]) Q E s := by
  refine callType_codes (Q₁ := fun obj s₁ => obj = .ref s.heap.objs.size ∧ s₁ = { s with heap := s.heap.push { cls := .type "dict", data := .dict #[] } }) PySem.F.kt_called_dict (PySem.F.kt_typeCall_dict_1 _) PySem.F.entry_dict_init (kt_code_dict_new _ ⟨rfl, rfl⟩) ?_
  rintro obj s₁ ⟨rfl, rfl⟩
  have hnew : (s.heap.push { cls := .type "dict", data := .dict #[] }).DictOf (intKind prog w) s.heap.objs.size [] := Heap.DictOf.new s.heap
  have hol : s.heap.get? l = some (listOf ys.toArray kl) := (N _ hl).1
  have hlS : l < s.heap.objs.size := Heap.lt_size hol
  refine ⟨hnew.typeIs, PySem.F.args_dict_init_2 _ _, ?_⟩
  unfold Builtin.«dict.__init__»
  refine wpAny_bind ?_
  unfold Builtin.Dict.selfAndRest
  refine wpAny_bind (wpAny_notOrdered_dict hnew.typeIs ?_)
  show wpAny _ _ (pure (s.heap.objs.size, [Value.ref l])) _ _ _
  refine wpAny_pure ?_
  show wpAny _ _ (Builtin.Dict.updateFrom "dict.__init__" s.heap.objs.size (.ref l) [] .none) _ _ _
  unfold Builtin.Dict.updateFrom
  refine wpAny_bind (wpAny_typeOf (T := "list") ⟨_, Heap.get?_push_of_some _ hol, rfl⟩ ?_)
  rw [if_pos (by decide)]
  refine wpAny_bind (keys_list (A := A.in1.in1) (Heap.get?_push_of_some _ hol) rfl rfl rfl hh fun h1 tk1 hk1 => ?_)
  have hk1' : ∀ b ob, s.heap.get? b = some ob → h1.get? b = some ob := fun b ob e => hk1 b ob (Heap.get?_push_of_some _ e)
  rw [if_pos (show Option.isNone (none : Option Value) = true from rfl)]
  refine wpAny_bind (wpAny_rule ?_)
  have hl1 : h1.IsList l ys.toArray := ⟨_, hk1' _ _ hol, rfl, kl, rfl⟩
  obtain ⟨oS, hoS, hdS⟩ := Heap.dictOf_iff.mp hnew
  have hSI : s.heap.objs.size < h1.objs.size := Heap.lt_size (hk1 _ _ hoS)
  have hlI : l ≠ h1.objs.size := Nat.ne_of_lt (Heap.lt_size (hk1' _ _ hol))
  refine wpAny_bind (wpAny_pyIter_list hl1 ?_)
  refine wpAny_pure ⟨plainId_quiet plain_update_loop _, ?_⟩
  refine update_loop (h₁ := h1) (A := A.in1) (c := c) (items := ys.toArray) hh (Nat.ne_of_gt hlS) hlI (Nat.ne_of_lt hSI) ?_ (by rw [List.size_toArray]; exact T.len) hsz c.length 0 _ [] 0 (by omega) (Nat.zero_le _) ⟨_, Heap.get?_push_size _ rfl, rfl, rfl⟩ (hl1.at fun o e => Heap.get?_push_of_some _ e) (fun b ob _ _ e => Heap.get?_push_of_some _ e) (Heap.dictOf_iff.mpr ⟨oS, Heap.get?_push_of_some _ (hk1 _ _ hoS), hdS⟩) .nil ?_
  · intro i v hv
    obtain ⟨T', a, b, t, u, e1, e2, e3⟩ := T.at i v (by rw [← hv, List.getElem?_toArray])
    have e4 := (N _ (ht _ e3)).1
    exact ⟨T', a, b, t, u, e1, e2, hk1' _ _ e4, Nat.ne_of_lt (Heap.lt_size e4), Nat.ne_of_lt (Heap.lt_size (hk1' _ _ e4))⟩
  · intro h' tk kvs' hkeep hD hf
    obtain ⟨o', ho', hd'⟩ := Heap.dictOf_iff.mp hD
    have hk : ∀ b ob, s.heap.get? b = some ob → h'.get? b = some ob := fun b ob e => hkeep b ob (Nat.ne_of_lt (Heap.lt_size e)) (Nat.ne_of_lt (Heap.lt_size (hk1' _ _ e))) (hk1' _ _ e)
    have N' := news_pushed F N hk ho' rfl
    exact ⟨rfl, h _ o' kvs' h' tk (F.keeps hk) (fun p hp => by
      rcases List.mem_cons.mp hp with e | hp
      · exact N' p (e ▸ List.Mem.head _)
      · exact N' p (List.mem_cons_of_mem _ (hr p hp))) (fun p hp => Heap.lt_size (N p (hr p hp)).1) (F.notModules (modules_low hbig)) hd' hf⟩
end
section
variable {prog : Program} {w : World} {A : Around} {E : Value → Shared → Prop} {s : Shared}
theorem dict_tups1 {h₀ : Heap} {L l : Addr} {m : Str → Option Value} {rest tl : List (Addr × Obj)} {ys : List Value} {c : List (Int × Int)} {Q : Value → Shared → Prop} (o1 : LCg.Off1 l (rest ++ tl)) (T : Tups c ys tl) (hh : A.handled = none) (F : Fr h₀ L s.heap m) (N : News h₀ L s.heap ((l, LCg.lst ys) :: (rest ++ tl))) (hbig : h₀.NoLimit) (hsz : c.length ≤ 1000)
    (h : ∀ D o kvs h' tk, Fr h₀ L h' m → News h₀ L h' ((D, o) :: rest) → (∀ p ∈ rest, p.1 < D) → (D == sysModules) = false → o.IsDictOf (intKind prog w) kvs → PyProof.V.FlatPairs PyData.int kvs (kdfD (c.foldl (fun d p => kdfPut d p.1 p.2) [])) → Q (.ref D) { s with heap := h', toks := tk }) :
    wpAny (model prog w) A (call (.type "dict") [.ref l]) Q E s :=
  dict_tups hh F N hbig (List.Mem.head _) (fun p hp => List.mem_cons_of_mem _ (List.mem_append_right _ hp)) (fun p hp => List.mem_cons_of_mem _ (List.mem_append_left _ hp)) T hsz h
end
def wrC : List (Int × Int) := ((tabC.map Prod.fst).map fun a => (kdfLook tabC a 0, a)).foldl (fun d p => kdfPut d p.1 p.2) []
theorem wr_len : ((tabC.map Prod.fst).map fun a => (kdfLook tabC a 0, a)).length ≤ 1000 := by decide +kernel

--deps: P19_rdlaw P17_sign P15_octets P22_dictof Dev
/-- a loop over a list of ints of the ledger whose turn puts a new, longer list in the place of the one that `fnd` names -/
theorem floop {prog : Program} {w : World} {A : Around} {E : Value → Shared → Prop} {s : Shared} {env : Env} {h₀ : Heap} {x : Str} {body : List Stmt} {Q : Flow → Shared → Prop} {l D₀ : Addr} {vs us₀ : List Value} {ns base : List Int} {nn k₀ : Nat} {m₀ : Str → Option Value} {led rest : List (Addr × Obj)} (B : Nat) (fnd t1 t2 : Str) (f : Int → List Int)
    (F : Fr h₀ env.locals s.heap m₀) (N : News h₀ env.locals s.heap led) (P : Pick (D₀, listOf us₀.toArray k₀) led rest) (hl : (l, listOf vs.toArray nn) ∈ rest) (hi : IntsAre vs ns) (hb : IntsAre us₀ base) (hfx : fnd ≠ x) (hfnd : m₀ fnd = some (.ref D₀)) (hap : OffL D₀ rest)
    (hlen : ∀ i, (base ++ (ns.take i).flatMap f).length ≤ B) (hh : A.handled = none)
    (turn : ∀ n t D us xs k (q : Str → Option Value) I oI h tk, n ∈ ns → IntsAre us xs → xs.length ≤ B → OffL D rest → OffL I ((D, listOf us.toArray k) :: rest) →
      Fr h₀ env.locals h (fun z => if z = x then some (.int n t) else if z = fnd then some (.ref D) else if z = t1 then q z else if z = t2 then q z else m₀ z) → News h₀ env.locals h ((I, oI) :: (D, listOf us.toArray k) :: rest) →
      wpAny (model prog w) A (execs body env) (LpPost h₀ env.locals I oI [(l, listOf vs.toArray nn)] (fun m' nx => (∃ D' us' k', nx = (D', listOf us'.toArray k') :: rest ∧ IntsAre us' (xs ++ f n) ∧ m' fnd = some (.ref D') ∧ OffL D' rest) ∧ ∀ z, z ≠ x → z ≠ fnd → z ≠ t1 → z ≠ t2 → m' z = m₀ z) { s with heap := h, toks := tk } Q) E { s with heap := h, toks := tk })
    (done : ∀ (q : Str → Option Value) D us k h tk, IntsAre us (base ++ ns.flatMap f) → (base ++ ns.flatMap f).length ≤ B → OffL D rest →
      Fr h₀ env.locals h (fun z => if z = fnd then some (.ref D) else if z = x then q z else if z = t1 then q z else if z = t2 then q z else m₀ z) → News h₀ env.locals h ((D, listOf us.toArray k) :: rest) → Q .next { s with heap := h, toks := tk }) :
    wpAny (model prog w) A (pyIter (.ref l)) (fun it s₂ => LoopAtV prog w A h₀ env x body Q E it s₂) E s := by
  have N1 : News h₀ env.locals s.heap ((D₀, listOf us₀.toArray k₀) :: rest) := fun p hp => by
    rcases List.mem_cons.mp hp with e | hp
    · exact e ▸ N _ P.mem.1
    · exact N _ (P.mem.2 _ hp)
  refine lp_list (fun i m' nx => (∃ D us k, nx = (D, listOf us.toArray k) :: rest ∧ IntsAre us (base ++ (ns.take i).flatMap f) ∧ m' fnd = some (.ref D) ∧ OffL D rest) ∧ ∀ z, z ≠ x → z ≠ fnd → z ≠ t1 → z ≠ t2 → m' z = m₀ z) (List.mem_cons_of_mem _ hl) hi hh F N1 ⟨⟨D₀, us₀, k₀, rfl, by simpa using hb, hfnd, hap⟩, fun _ _ _ _ _ => rfl⟩ ?_ ?_
  · rintro i n t I oI m₁ nx h tk hn ⟨⟨D, us, k, rfl, hus, hD, hO⟩, hm₁⟩ hoff _ F₁ N₁
    have e1 : (fun z => if z = x then some (Value.int n t) else m₁ z) = fun z => if z = x then some (Value.int n t) else if z = fnd then some (.ref D) else if z = t1 then m₁ z else if z = t2 then m₁ z else m₀ z := by
      funext z
      by_cases h1 : z = x
      · simp only [if_pos h1]
      · simp only [if_neg h1]
        by_cases h2 : z = fnd
        · simp only [if_pos h2]; rw [h2]; exact hD
        · simp only [if_neg h2]
          by_cases h3 : z = t1
          · simp only [if_pos h3]
          · simp only [if_neg h3]
            by_cases h4 : z = t2
            · simp only [if_pos h4]
            · simp only [if_neg h4]; exact hm₁ z h1 h2 h3 h4
    rw [e1] at F₁
    have e2 : base ++ (ns.take (i + 1)).flatMap f = (base ++ (ns.take i).flatMap f) ++ f n := by
      rw [List.take_add_one, hn, Option.toList_some, List.flatMap_append, List.append_assoc]; simp
    rw [e2]
    exact turn n t D us _ k m₁ I oI h tk (List.mem_of_getElem? hn) hus (hlen i) hO (OffL.of fun q hq e => hoff q hq e.symm) F₁ N₁
  · rintro m₁ nx h tk ⟨⟨D, us, k, rfl, hus, hD, hO⟩, hm₁⟩ F₁ N₁
    rw [List.take_length] at hus
    refine done m₁ D us k h tk hus (by have := hlen ns.length; rwa [List.take_length] at this) hO ?_ N₁
    have e1 : (fun z => if z = fnd then some (.ref D) else if z = x then m₁ z else if z = t1 then m₁ z else if z = t2 then m₁ z else m₀ z) = m₁ := by
      funext z
      by_cases h2 : z = fnd
      · simp only [if_pos h2]; rw [h2]; exact hD.symm
      · simp only [if_neg h2]
        by_cases h1 : z = x
        · simp only [if_pos h1]
        · simp only [if_neg h1]
          by_cases h3 : z = t1
          · simp only [if_pos h3]
          · simp only [if_neg h3]
            by_cases h4 : z = t2
            · simp only [if_pos h4]
            · simp only [if_neg h4]; exact (hm₁ z h1 h2 h3 h4).symm
    rw [e1]; exact F₁
theorem off3_put {I C D T : Addr} {o : Obj} {tl : List (Addr × Obj)} (h1 : @Ne Nat T I) (h2 : @Ne Nat T C) (h3 : @Ne Nat T D) : ∀ {rest : List (Addr × Obj)}, LCg.Off3 I C D (rest ++ tl) → LCg.Off3 I C D (rest ++ (T, o) :: tl)
  | [], h => ⟨⟨h1, h2, h3⟩, h⟩
  | _ :: _, h => ⟨h.1, off3_put h1 h2 h3 h.2⟩
/-! ### plain law of the writing -/
theorem wr_on : ∀ p ∈ plC, kdfLook wrC p.1 (-1) = p.2 ∧ kdfLook plC p.1 0 = p.2 := by decide +kernel
theorem wr_off : ∀ p ∈ wrC, kdfHas plC p.1 = true := by decide +kernel
theorem wr_has {c : Int} (h : kdfHas plC c = true) : kdfLook wrC c (-1) = kdfLook plC c 0 := by
  obtain ⟨p, hp, e⟩ := List.any_eq_true.mp h
  have e' : p.1 = c := of_decide_eq_true e
  obtain ⟨h1, h2⟩ := wr_on p hp
  rw [← e', h1, h2]
theorem wr_none {c : Int} (h : ¬ kdfHas plC c = true) : kdfLook wrC c (-1) = -1 := by
  unfold kdfLook
  rw [List.find?_eq_none.mpr]
  · rfl
  · intro p hp e
    exact h ((of_decide_eq_true e : p.1 = c) ▸ wr_off p hp)
theorem wr_all {cs : List Int} (h : ((cs.map fun a => kdfLook wrC a (-1)).any fun x => x == -1) = false) : ∀ c ∈ cs, kdfHas plC c = true := by
  intro c hc
  cases hh : kdfHas plC c with
  | true => rfl
  | false =>
    have h1 := wr_none (c := c) (by rw [hh]; exact Bool.false_ne_true)
    have : ((cs.map fun a => kdfLook wrC a (-1)).any fun x => x == -1) = true := List.any_eq_true.mpr ⟨_, List.mem_map_of_mem hc, by rw [h1]; rfl⟩
    rw [h] at this; cases this
theorem wr_map {cs : List Int} (h : ((cs.map fun a => kdfLook wrC a (-1)).any fun x => x == -1) = false) : (cs.map fun a => kdfLook wrC a (-1)) = cs.map fun c => kdfLook plC c 0 :=
  List.map_congr_left fun c hc => wr_has (wr_all h c hc)
theorem wr_ok {cs : List Int} (h : ((cs.map fun a => kdfLook wrC a (-1)).any fun x => x == -1) = false) : (cs.map (kdfHas plC)).all id = true := by
  rw [List.all_map]
  exact List.all_eq_true.mpr fun c hc => wr_all h c hc
theorem wr_a {cs : List Int} (h : ((cs.map fun a => kdfLook wrC a (-1)).any fun x => x == -1) = false) (h2 : ¬ (cs.map fun a => kdfLook wrC a (-1)).take 2 = [254, 255]) : (cs.map fun a => kdfLook wrC a (-1)) = octC cs := by
  rw [wr_map h] at h2 ⊢
  exact octC_a (wr_ok h) h2
theorem wr_flat (cs : List Int) : cs.flatMap (fun c => (unitsOf c).flatMap hiLo) = (cs.flatMap unitsOf).flatMap hiLo := by rw [List.flatMap_assoc]
theorem wr_b {cs : List Int} (h : ((cs.map fun a => kdfLook wrC a (-1)).any fun x => x == -1) = false) (h2 : (cs.map fun a => kdfLook wrC a (-1)).take 2 = [254, 255]) : [254, 255] ++ cs.flatMap (fun c => (unitsOf c).flatMap hiLo) = octC cs := by
  rw [wr_map h] at h2
  rw [wr_flat]
  exact octC_b h2
theorem wr_c {cs : List Int} (h : ((cs.map fun a => kdfLook wrC a (-1)).any fun x => x == -1) = true) : [254, 255] ++ cs.flatMap (fun c => (unitsOf c).flatMap hiLo) = octC cs := by
  rw [wr_flat]
  refine octC_c ?_
  obtain ⟨x, hx, e⟩ := List.any_eq_true.mp h
  obtain ⟨c, hc, rfl⟩ := List.mem_map.mp hx
  have e' : kdfLook wrC c (-1) = -1 := by simpa using e
  refine List.all_eq_false.mpr ⟨_, List.mem_map_of_mem hc, ?_⟩
  intro q
  have h1 := wr_has (c := c) q
  have h2 := look_in c
  omega
theorem wr_in {cs : List Int} (h : ((cs.map fun a => kdfLook wrC a (-1)).any fun x => x == -1) = false) : KBa.In (cs.map fun a => kdfLook wrC a (-1)) := by
  rw [wr_map h]; exact look_ins cs
theorem wr_in2 {cs : List Int} (hcs : ∀ c ∈ cs, SignOk c) : KBa.In ([254, 255] ++ cs.flatMap (fun c => (unitsOf c).flatMap hiLo)) := by
  rw [wr_flat]
  intro b hb
  rcases List.mem_append.mp hb with hb | hb
  · rcases List.mem_cons.mp hb with rfl | hb
    · exact ⟨by decide, by decide⟩
    · rw [List.mem_singleton.mp hb]; exact ⟨by decide, by decide⟩
  · exact hiLo_in (units_in fun c hc => ⟨(hcs c hc).1, (hcs c hc).2.1⟩) b hb
theorem wr_fit {cs : List Int} (h : cs.length ≤ 20) (i : Nat) : ([254, 255] ++ (cs.take i).flatMap (fun c => (unitsOf c).flatMap hiLo)).length ≤ 1000 := by
  rw [wr_flat, List.length_append, hiLo_len]
  have h1 := flat_len (cs.take i)
  rw [List.length_take] at h1
  show 2 + _ ≤ _
  omega
theorem wr_fit1 {xs : List Int} {a : Int} (h : xs.length ≤ 1000) (i : Nat) : (xs ++ ([a].take i).flatMap hiLo).length ≤ 1004 := by
  rw [List.length_append, hiLo_len, List.length_take]
  simp only [List.length_cons, List.length_nil]
  omega
theorem wr_fit2 {xs : List Int} {a b : Int} (h : xs.length ≤ 1000) (i : Nat) : (xs ++ ([a, b].take i).flatMap hiLo).length ≤ 1004 := by
  rw [List.length_append, hiLo_len, List.length_take]
  simp only [List.length_cons, List.length_nil]
  omega
theorem w_two {us : List Value} {xs : List Int} {u : Int} (h : IntsAre us (xs ++ [u / 256, u % 256])) : IntsAre us (xs ++ hiLo u) := by
  unfold hiLo
  rw [Int.fdiv_eq_ediv_of_nonneg _ (by decide), Int.fmod_eq_emod_of_nonneg _ (by decide)]
  exact h
theorem w_big {us : List Value} {xs : List Int} {n : Int} (h : 65535 < n) (hi : IntsAre us (xs ++ [55296 + (n - 65536) / 1024, 56320 + n % 1024].flatMap hiLo)) : IntsAre us (xs ++ (unitsOf n).flatMap hiLo) := by
  unfold unitsOf
  rw [if_pos (by omega), show (n - 65536) % 1024 = n % 1024 by omega]
  exact hi
theorem w_small {us : List Value} {xs : List Int} {n : Int} (h : ¬ 65535 < n) (hi : IntsAre us (xs ++ [n].flatMap hiLo)) : IntsAre us (xs ++ (unitsOf n).flatMap hiLo) := by
  unfold unitsOf
  rw [if_neg (by omega)]
  exact hi

--deps: P19_rdlaw P17_sign P15_octets
/-! ### there and back -/
theorem plC_back : ∀ p ∈ plC, sigC.getD p.2.toNat 0 = p.1 := by decide +kernel
theorem look_back {c : Int} (h : kdfHas plC c = true) : sigC.getD (kdfLook plC c 0).toNat 0 = c := by
  unfold kdfLook
  cases hf : plC.find? fun p => decide (p.1 = c) with
  | none =>
    obtain ⟨p, hp, e⟩ := List.any_eq_true.mp h
    exact absurd e (List.find?_eq_none.mp hf p hp)
  | some p =>
    have h1 := plC_back p (List.mem_of_find?_eq_some hf)
    have h2 := List.find?_some hf
    simp only [Option.map_some, Option.getD_some]
    rw [h1]; exact of_decide_eq_true h2
theorem pairsU_hiLo : ∀ {us : List Int}, pairsU (us.flatMap hiLo) = us
  | [] => rfl
  | u :: r => by
    rw [List.flatMap_cons]
    show (u.fdiv 256 * 256 + u.fmod 256) :: pairsU (r.flatMap hiLo) = _
    rw [pairsU_hiLo, Int.fdiv_eq_ediv_of_nonneg _ (by decide), Int.fmod_eq_emod_of_nonneg _ (by decide)]
    congr 1
    omega
theorem readU_units : ∀ {cs : List Int}, (∀ c ∈ cs, SignOk c) → readU (cs.flatMap unitsOf) = cs
  | [], _ => rfl
  | c :: r, h => by
    have ih := readU_units (cs := r) fun c' hc' => h c' (.tail _ hc')
    obtain ⟨h0, h1, h2⟩ := h c (.head _)
    rw [List.flatMap_cons]
    unfold unitsOf
    split
    · show readU ((55296 + (c - 65536) / 1024) :: (56320 + (c - 65536) % 1024) :: r.flatMap unitsOf) = _
      rw [readU, if_pos ⟨by omega, by omega, by omega, by omega⟩, ih]
      congr 1
      omega
    · show readU (c :: r.flatMap unitsOf) = _
      rw [readU_cons (by omega), if_neg h2, ih]
theorem textC_octC {cs : List Int} (h : ∀ c ∈ cs, SignOk c) : textC (octC cs) = cs := by
  unfold octC
  split
  · rename_i q
    rw [← textC_a q.2, List.map_map]
    refine (List.map_congr_left fun c hc => ?_).trans (List.map_id cs)
    exact look_back (has_of_all q.1 hc)
  · unfold textC
    rw [if_pos (show List.take 2 ([254, 255] ++ (cs.flatMap unitsOf).flatMap hiLo) = [254, 255] from rfl)]
    show readU (pairsU ((cs.flatMap unitsOf).flatMap hiLo)) ++ _ = _
    rw [pairsU_hiLo, readU_units h, if_neg, List.append_nil]
    rw [List.length_append, hiLo_len]
    show ¬ (2 + _) % 2 = 1
    omega
theorem octC_len {cs : List Int} (h : cs.length ≤ 100) : (octC cs).length ≤ 1000 := by
  unfold octC
  split
  · rw [List.length_map]; omega
  · have := flat_len cs
    rw [List.length_append, hiLo_len]
    show 2 + _ ≤ _
    omega
theorem readU_in : ∀ {us : List Int}, (∀ u ∈ us, 0 ≤ u ∧ u < 65536) → ∀ c ∈ readU us, 0 ≤ c ∧ c < 1114112
  | [], _, c, hc => nomatch hc
  | [u], h, c, hc => by
    have hu := h u (.head _)
    simp only [readU] at hc
    split at hc <;> (rw [List.mem_singleton.mp hc]; omega)
  | u :: v :: r, h, c, hc => by
    have hu := h u (.head _)
    have hv := h v (.tail _ (.head _))
    rw [readU] at hc
    split at hc
    · rcases List.mem_cons.mp hc with rfl | hc
      · omega
      · exact readU_in (fun k hk => h k (.tail _ (.tail _ hk))) c hc
    · rcases List.mem_cons.mp hc with rfl | hc
      · split <;> omega
      · exact readU_in (fun k hk => h k (.tail _ hk)) c hc
theorem textC_in {ks : List Int} (h : ∀ k ∈ ks, 0 ≤ k ∧ k < 256) : ∀ c ∈ textC ks, 0 ≤ c := by
  intro c hc
  unfold textC at hc
  split at hc
  · rcases List.mem_append.mp hc with hc | hc
    · exact (readU_in (pairsU_in fun k hk => h k (List.mem_of_mem_drop hk)) c hc).1
    · split at hc
      · rw [List.mem_singleton.mp hc]; decide
      · nomatch hc
  · obtain ⟨k, hk, rfl⟩ := List.mem_map.mp hc
    have := h k hk
    exact (sigC_in k.toNat (by omega)).1
theorem textC_len (ks : List Int) : (textC ks).length ≤ ks.length + 1 := by
  unfold textC
  split
  · have h1 := readU_len (pairsU (ks.drop 2))
    rw [pairsU_len, List.length_drop] at h1
    rw [List.length_append]
    split <;> simp <;> omega
  · rw [List.length_map]; omega

--deps: P23_written Dev
theorem sg0 {cs : List Int} {n : Int} (h : ∀ c ∈ cs, SignOk c) (hm : n ∈ cs) : 0 ≤ n := (h n hm).1
theorem sg1 {cs : List Int} {n : Int} (h : ∀ c ∈ cs, SignOk c) (hm : n ∈ cs) : n < 1114112 := (h n hm).2.1
section
local macro_rules | `(tactic| walk_at "eval ListComp") => `(tactic| (k_here; k_dflt (refine ListComp_M (F₀ := by k_asm) (by with_unfolding_all rfl) (by decide) (by rfl) (by decide) (by rfl) ?_)))
local macro_rules | `(tactic| walk_at "exec Assign cons ListComp") => `(tactic| (k_here; k_dflt (refine Assign_ListComp_M (F₀ := by k_asm) (by rfl) (by with_unfolding_all rfl) (by with_unfolding_all rfl) (by decide) (by rfl) (by decide) (by rfl) (by rfl) (by rfl) ?_)))
local macro_rules | `(tactic| walk_at "CSrc") => `(tactic| (k_here; first
  | ((with_reducible show CSrc _ _ _ _ _ _ _ _ _ _ _ _ _ (Value.ref _) _); k_dflt (refine' CSrc.dictTups (c := tabC) (f := fun a => kdfLook tabC a 0) (g := fun a => a) rfl ?k1 ?k2 ?k3 ?k4 ?k5 ?k6 ?k7 ?_ ?_; (case k1 => k_asm); (case k2 => k_asm); (case k3 => k_mem); (case k4 => assumption); (case k5 => assumption); (case k6 => assumption); (case k7 => rw [tabC_len]; decide)); all_goals (first | (intro c9 u9 g9 hc9; (unfold TTurn; intro I' oI' C' oC' D' m' ys' tl' h' tk' E' hC' hx' F' N' offK9 off' ne' hS'; (try (simp only [List.cons_append, List.nil_append] at N')); (try (simp only [List.cons_append, List.nil_append, LCg.Off3] at off')); (try (simp only [List.cons_append, List.nil_append] at hS')); (try dsimp only); k_fold)) | (intro ys9 tl9 g9 hy9)))
  | ((with_reducible show CSrc _ _ _ _ _ _ _ _ _ _ _ _ _ (Value.ref _) _); k_dflt (refine' CSrc.list (fun c v => ∃ t, v = .int (kdfLook wrC c (-1)) t) rfl ?k2 ?k3 ?k4 ?k5 ?k6 ?_ ?_; (case k5 => with_reducible assumption); (case k2 => k_asm); (case k3 => k_asm); (case k4 => k_mem); (case k6 => omega)); all_goals (first | (intro c9 u9 g9 hc9; (unfold CTurn; intro I' oI' C' oC' D' m' ys' h' tk' E' hC' hx' F' N' off' ne'; (try (simp only [LCg.Off3, and_true] at off')); (try dsimp only); k_fold)) | (intro ys9 g9 hy9; have hy9 := Each.ints hy9)))))
local macro_rules | `(tactic| walk_at "subscriptTail") => `(tactic| (k_here; (with_reducible show wpAny _ _ (subscriptTail _ _ (Value.ref _) (Value.int _ _)) _ _ _); (rename (_ ∈ List.map Prod.fst tabC) => hin8); (k_dflt (refine' kdf_item ?k1 ?k2 ?_; (case k1 => k_tabat); (case k2 => exact tab_has hin8))); intro _))
local macro_rules | `(tactic| walk_at "CompEnd") => `(tactic| first
  | (rename (LCg.Off3 _ _ _ (_ ++ _)) => offK8; k_dflt (exact LCg.CompEnd.intro (by k_asm) (by k_asm) _ (by kcf_all) (by exact off3_put (by omega) (by omega) (by omega) offK8) (by exact List.mem_append_left _ (by k_mem)) ⟨_, _, _, rfl, rfl⟩))
  | k_dflt (exact LCg.CompEnd.intro (by k_asm) (by k_asm) _ (by kcf_all) (by first | assumption | (simp only [LCg.Off3, and_true]; omega)) (by k_mem) ⟨rfl, ⟨_, rfl⟩⟩))
local macro_rules | `(tactic| walk_at "call builtin:dict.get") => `(tactic| (k_here; (try dsimp only [List.cons_append, List.nil_append]); (with_reducible show wpAny _ _ (call (Value.builtin "dict.get") [Value.ref _, Value.int _ _, Value.int _ _]) _ _ _); k_dflt (refine kdf_get2 (by k_tabat) ?_); intro _))
local macro_rules | `(tactic| walk_at "call type:dict") => `(tactic| (k_here; (with_reducible show wpAny _ _ (call (Value.type "dict") [Value.ref _]) _ _ _); (rename (Tups _ _ _) => tups8); (rename (LCg.Off1 _ (_ ++ _)) => off8); k_dflt (refine' dict_tups1 off8 tups8 rfl ?k1 ?k2 (Top.nolimit ?k3) ?k4 ?_; (case k1 => k_asm); (case k2 => k_asm); (case k3 => k_asm); (case k4 => exact wr_len)); intro d9 o9 kvs9 h9 tk9 F9 N9 l9 lo9 hd9 hf9; (try k_lt l9); k_dflt (replace hf9 : PyProof.V.FlatPairs PyData.int kvs9 (kdfD wrC) := hf9); clear tups8 off8; (try dsimp only)))
local macro_rules | `(tactic| walk_at "exec For Name Name cons nil") => `(tactic| (k_here; (with_reducible rename Fr _ _ _ _ => lF'); (with_unfolding_all refine' For_invVF lF' ?k1 ?k2 ?_; (case k1 => exact rfl); (case k2 => exact rfl); k_whole)))
local macro_rules | `(tactic| walk_at "pyIter ref") => `(tactic| (k_here; first
  | ((with_unfolding_all refine' floop 1000 (Str.ofString "found") (Str.ofString "units") (Str.ofString "unit") (fun c => (unitsOf c).flatMap hiLo) ?F ?N ?P ?l ?i ?b ?x ?m ?ap ?len rfl ?_ ?_; (case F => k_asm); (case N => k_asm); (case P => first | exact Pick.head | exact Pick.tail (Pick.head) | exact Pick.tail (Pick.tail (Pick.head)) | exact Pick.tail (Pick.tail (Pick.tail (Pick.head))) | exact Pick.tail (Pick.tail (Pick.tail (Pick.tail (Pick.head)))) | exact Pick.tail (Pick.tail (Pick.tail (Pick.tail (Pick.tail (Pick.head))))) | exact Pick.tail (Pick.tail (Pick.tail (Pick.tail (Pick.tail (Pick.tail (Pick.head)))))) | exact Pick.tail (Pick.tail (Pick.tail (Pick.tail (Pick.tail (Pick.tail (Pick.tail (Pick.head)))))))); (case l => k_mem); (case i => with_reducible assumption); (case b => exact IntsAre.cons _ _ (IntsAre.cons _ _ IntsAre.nil)); (case x => decide); (case m => rfl); (case ap => (simp only [OffL, and_true]; omega)); (case len => exact wr_fit (by assumption))); all_goals (first
    | (intro n9 t9 D9 us9 xs9 k9 q9 I9 oI9 h9 tk9 hm9 hi9 hl9 hap9 hoff9 F9 N9; (try simp only [OffL, and_true] at hap9); (rename (∀ c ∈ _, SignOk c) => hcs8); (have hs1 := sg0 hcs8 hm9); (have hs2 := sg1 hcs8 hm9); (try simp only [OffL, and_true] at hoff9); (try clear lF'); (try k_unmd); k_fold)
    | (intro q9 D9 us9 k9 h9 tk9 hi9 hl9 hap9 F9 N9; (try simp only [OffL, and_true] at hap9); (try clear lF'); (try dsimp only))))
  | ((with_unfolding_all refine' floop 1004 (Str.ofString "found") (Str.ofString "unit") (Str.ofString "unit") hiLo ?F ?N ?P ?l ?i ?b ?x ?m ?ap ?len rfl ?_ ?_; (case F => k_asm); (case N => k_asm); (case b => with_reducible assumption); (case P => first | exact Pick.head | exact Pick.tail (Pick.head) | exact Pick.tail (Pick.tail (Pick.head)) | exact Pick.tail (Pick.tail (Pick.tail (Pick.head))) | exact Pick.tail (Pick.tail (Pick.tail (Pick.tail (Pick.head)))) | exact Pick.tail (Pick.tail (Pick.tail (Pick.tail (Pick.tail (Pick.head))))) | exact Pick.tail (Pick.tail (Pick.tail (Pick.tail (Pick.tail (Pick.tail (Pick.head)))))) | exact Pick.tail (Pick.tail (Pick.tail (Pick.tail (Pick.tail (Pick.tail (Pick.tail (Pick.head)))))))); (case l => k_mem); (case i => first | exact IntsAre.cons _ _ (IntsAre.cons _ _ IntsAre.nil) | exact IntsAre.cons _ _ IntsAre.nil); (case x => decide); (case m => rfl); (case ap => (simp only [OffL, and_true]; omega)); (case len => first | exact wr_fit1 (by assumption) | exact wr_fit2 (by assumption))); all_goals (first
    | (intro n9 t9 D9 us9 xs9 k9 q9 I9 oI9 h9 tk9 hm9 hi9 hl9 hap9 hoff9 F9 N9; (try simp only [OffL, and_true] at hap9); (try simp only [OffL, and_true] at hoff9); (try clear lF'); (try k_unmd); k_fold)
    | (intro q9 D9 us9 k9 h9 tk9 hi9 hl9 hap9 F9 N9; (try simp only [OffL, and_true] at hap9); (try clear lF'); (try dsimp only))))))
local macro_rules | `(tactic| walk_at "LpPost") => `(tactic| dsimp only [LpPost])
local macro_rules | `(tactic| walk_at "binaryOp RShift int int") => `(tactic| (k_here; with_reducible (first | refine shr_8 ?_ | refine shr_10 ?_); intro _ _))
local macro_rules | `(tactic| walk_at "binaryOp BitOr int int") => `(tactic| (k_here; with_reducible (first | refine or_hi (by omega) (by omega) ?_ | refine or_lo (by omega) (by omega) ?_); intro _ _))
local macro_rules | `(tactic| walk_at "binaryOp BitAnd int int") => `(tactic| (k_here; with_reducible (first | refine and_1023 ?_ | refine and_255 ?_); intro _ _))
local macro_rules | `(tactic| walk_at "LpEnd") => `(tactic| first
  | k_dflt (exact LpEnd.intro _ (by k_asm) ⟨⟨_, _, _, rfl, w_two (by with_reducible assumption), rfl, (by (simp only [OffL, and_true]; omega))⟩, (by (intro z h1 h2 h3 h4; simp only [if_neg h1, if_neg h2, if_neg h3, if_neg h4]))⟩ (by k_asm) (by k_memK) (by (with_unfolding_all ((try simp only [List.nil_append, List.cons_append]); k_allIn))) (by k_all) (by (first | exact List.forall_mem_nil _ | (with_unfolding_all ((try simp only [List.nil_append, List.cons_append]); k_allIn)))))
  | k_dflt (exact LpEnd.intro _ (by k_asm) ⟨⟨_, _, _, rfl, w_big (by with_reducible assumption) (by with_reducible assumption), rfl, (by (simp only [OffL, and_true]; omega))⟩, (by (intro z h1 h2 h3 h4; simp only [if_neg h1, if_neg h2, if_neg h3, if_neg h4]))⟩ (by k_asm) (by k_memK) (by (with_unfolding_all ((try simp only [List.nil_append, List.cons_append]); k_allIn))) (by k_all) (by (first | exact List.forall_mem_nil _ | (with_unfolding_all ((try simp only [List.nil_append, List.cons_append]); k_allIn)))))
  | k_dflt (exact LpEnd.intro _ (by k_asm) ⟨⟨_, _, _, rfl, w_small (by with_reducible assumption) (by with_reducible assumption), rfl, (by (simp only [OffL, and_true]; omega))⟩, (by (intro z h1 h2 h3 h4; simp only [if_neg h1, if_neg h2, if_neg h3, if_neg h4]))⟩ (by k_asm) (by k_memK) (by (with_unfolding_all ((try simp only [List.nil_append, List.cons_append]); k_allIn))) (by k_all) (by (first | exact List.forall_mem_nil _ | (with_unfolding_all ((try simp only [List.nil_append, List.cons_append]); k_allIn))))))
local macro_rules | `(tactic| walk_at "call type:bytes") => `(tactic| (k_here; (with_reducible show wpAny _ _ (call (Value.type "bytes") [Value.ref _]) _ _ _); k_dflt (refine' KBa.make_K ?kbaF ?kbaN ?kbah ?kbal ?kbai ?kbar ?kban ?_; (case kbaF => k_asm); (case kbaN => k_asm); (case kbah => rfl); (case kbal => exact News.isList (by k_asm) (by k_mem)); (case kbai => with_reducible assumption); (case kbar => first | exact wr_in (by with_reducible assumption) | exact wr_in2 (by with_reducible assumption)); (case kban => first | omega | (rw [List.length_map]; omega))); intro h' t' k' F' N' hIn9; have hIn9 := KBa.ints_make hIn9))
theorem written_ok {w : World} {loose : List Str} {mean : ExcName → Option Value} {mg mb : Str → Option Value} {l d : Addr} {n : Nat} {vs : List Value} {cs : List Int} {o : Obj} {kvs : List (Int × Value)} (hv : IntsAre vs cs) (hb : cs.length ≤ 20) (hcs : ∀ c ∈ cs, SignOk c) (hne : @Ne Nat l d) (hlo : (d == sysModules) = false)
    (hd' : o.IsDictOf (PySem.intKind PySem.Challenge.rw_nn0192_01.row.prog w) kvs) (hf' : PyProof.V.FlatPairs PyData.int kvs (kdfD tabC)) :
    Spec 16 w loose mean mg mb 71 [(l, listOf vs.toArray n), (d, o)] [.ref l, .ref d] (fun r own' => (∃ b t, r = .bytes b t ∧ KBw.bInts b = octC cs) ∧ own' = [(l, listOf vs.toArray n), (d, o)]) := by
  w_on
  w_strict (refine' spec_ofC (binds := [(Str.ofString "codes", .ref l), (Str.ofString "table", .ref d)]) (by k_is) (by k_is) (fun s => BindsTo.of_eq rfl) (by rfl) (by decide +kernel) rfl rfl rfl (by decide) ?_; intro dp un gd cn cs L a ccd cl outer base g L' h₁ cells s tk Q E B hk F N Y l1 X T hd hu hret; k_cells Y; (try k_lt l1); (try simp only [List.cons_append, List.nil_append] at N); (try dsimp only); (try k_fold); k_steps; all_goals ((try dsimp only); (refine' hret _ _ _ _ _ ?ha (News.sub ?hb ?hs) ⟨⟨_, _, rfl, ?hc⟩, rfl⟩; (case ha => k_asm); (case hc => first | with_reducible exact (Eq.trans (by assumption) (wr_a (by assumption) (by assumption))) | with_reducible exact (Eq.trans (by assumption) (wr_b (by assumption) (by assumption))) | with_reducible exact (Eq.trans (by assumption) (wr_c (by assumption)))); (case hb => k_asm); (case hs => (with_unfolding_all k_allIn)))))
end

--deps: P12_bytes
/-! ### bytes(range(n)) -/
theorem rg_no_bytes : typeLookup (.type "range") "__bytes__" = pure none := by rw [typeLookup_type, builtinLookup_eq_fast]; kernel_rfl
theorem rg_no_index : typeLookup (.type "range") "__index__" = pure none := by rw [typeLookup_type, builtinLookup_eq_fast]; kernel_rfl
theorem rg_no_buffer : typeLookup (.type "range") "__buffer__" = pure none := by rw [typeLookup_type, builtinLookup_eq_fast]; kernel_rfl
theorem rg_split : splitId "range.__len__" = some ("range", "__len__") := by decide +kernel
theorem rg_sub : isSubtype (.type "range") (.type "range") = pure true := by rw [isSubtype_type]; kernel_rfl
section
variable {prog : Program} {w : World} {A : Around} {E : Value → Shared → Prop} {s : Shared}
/-- the loop of bytes(..) over any walked source of ints -/
theorem octs_loop {R : Result → Shared → Prop} {I S : Addr} {fp : List Addr} {ns : List Int} {P : Nat → Value → Prop} {St : Nat → Heap → Prop} (W : Walks prog w A.in1 I fp [I] ns.length P St) (hSf : S ∉ fp) (hIS : I ≠ S)
    (hP : ∀ i v, i < ns.length → P i v → ∃ n t, ns[i]? = some n ∧ v = .int n t) (hr : KBa.In ns) (hz : ns.length ≤ 1000) :
    ∀ (k i : Nat) (s : Shared), ns.length - i = k → i ≤ ns.length → St i s.heap → s.heap.get? S = some { cls := .type "bytearray", data := .bytearray (byteArr (ns.take i)) } →
      (∀ h' t k', (∀ b o, b ≠ I → b ≠ S → s.heap.get? b = some o → h'.get? b = some o) → R (.ok (.ret (.bytes (byteArr ns) t))) { s with heap := h', toks := k' }) →
      codeAny (model prog w) A (.builtin "bytes.__new__.loop" ⟨[.type "bytes", .ref I, .ref S], []⟩) R s := by
  intro k
  induction k with
  | zero =>
    intro i s hk hle hst hS hR
    have hin : i = ns.length := by omega
    subst hin
    refine codeAny_builtin F.bm_entry_loop ?_
    rw [Around.under_plainId F.bm_plain_loop _]
    show wpAny _ A.in1 (pyNext (.ref I) >>= _) _ _ s
    refine wpAny_bind (W.done s _ _ hst fun h' tk hm => ?_)
    have hS' : h'.get? S = some { cls := .type "bytearray", data := .bytearray (byteArr (ns.take ns.length)) } := hm S _ (fun q => hIS (List.mem_singleton.mp q).symm) hS
    refine wpAny_bind ?_
    unfold Builtin.Bytes.payload Builtin.Bytes.payload?
    refine wpAny_bind (wpAny_bind (wpAny_load hS' ?_))
    refine wpAny_pure (wpAny_pure ?_)
    rw [List.take_length]
    refine wpAny_bind (wpAny_mkBytes ?_ (by rw [byteArr_size, sizeLine_eq]; omega))
    show wpAny _ _ (if (Value.type "bytes" == Value.type "bytes") = true then _ else _) _ _ _
    refine bm_if_true (by decide) ?_
    have fin := fun t k' => hR h' t k' fun b o hb _ e => hm b o (fun q => hb (List.mem_singleton.mp q)) e
    first
      | exact wpAny_pure (fin _ _)
      | exact wpAny_bind (wpAny_pure (wpAny_pure (fin _ _)))
  | succ k ih =>
    intro i s hk hle hst hS hR
    refine codeAny_builtin F.bm_entry_loop ?_
    rw [Around.under_plainId F.bm_plain_loop _]
    show wpAny _ A.in1 (pyNext (.ref I) >>= _) _ _ s
    refine wpAny_bind (W.item i s _ _ (by omega) hst fun v h' tk hv hst' hm => ?_)
    obtain ⟨n, t, hn, rfl⟩ := hP i v (by omega) hv
    obtain ⟨h0, h1⟩ := hr n (List.mem_of_getElem? hn)
    have hS' : h'.get? S = some { cls := .type "bytearray", data := .bytearray (byteArr (ns.take i)) } := hm S _ (fun q => hIS (List.mem_singleton.mp q).symm) hS
    refine wpAny_bind (wpAny_holding (wpAny_of_eq (rfl : asIndex (.int n t) = pure n) ?_))
    refine wpAny_bind (wpAny_letGo ?_)
    refine bm_if_false (by simp only [Bool.or_eq_false_iff, decide_eq_false_iff_not]; omega) ?_
    refine wpAny_bind ?_
    show wpAny _ _ (updateBytearray S (·.push n.toNat.toUInt8)) _ _ _
    unfold updateBytearray
    refine wpAny_bind (wpAny_load hS' ?_)
    show wpAny _ _ (update S (Obj.mapBytearray (·.push n.toNat.toUInt8)) >>= fun _ => lookBehind S) _ _ _
    refine wpAny_bind (wpAny_update hS' ?_)
    have hS₂ : (h'.update S (Obj.mapBytearray (·.push n.toNat.toUInt8))).get? S = some { cls := .type "bytearray", data := .bytearray (byteArr (ns.take (i + 1))) } := by
      rw [byteArr_take hn]
      exact Heap.get?_update_self (Obj.mapBytearray (·.push n.toNat.toUInt8)) hS' rfl
    refine wpAny_lookBehind hS₂ ?_ ?_
    · show (if (byteArr (ns.take (i + 1))).size > sizeLine then some "bytearray:memory" else none) = none
      rw [if_neg]
      rw [byteArr_size, List.length_take, sizeLine_eq]
      omega
    · refine wpAny_pure ⟨plainId_quiet F.bm_plain_loop _, ih (i + 1) _ (by omega) (by omega) (W.frame _ _ _ hst' fun b hb o e => ?_) hS₂ fun h3 t' k' hk3 => ?_⟩
      · exact (Heap.get?_update_other _ _ (fun q : S = b => hSf (by rw [q]; exact hb))).trans e
      · exact hR h3 t' k' fun b o hbI hbS e => hk3 b o hbI hbS ((Heap.get?_update_other _ _ (Ne.symm hbS)).trans (hm b o (fun q => hbI (List.mem_singleton.mp q)) e))
theorem octs_range {r : Addr} {b : Int} {t u v : Tok} {n : Nat} {Q : Value → Shared → Prop} (hh : A.handled = none) (hr : IsRange s.heap r 0 b 1 t u v) (hsmall : Builtin.Range.small 0 b 1 = true) (hn : Builtin.Range.rangeSize 0 b 1 = (n : Int)) (hb : n ≤ 256)
    (hQ : ∀ h' t k, (∀ b o, s.heap.get? b = some o → h'.get? b = some o) → Q (.bytes (byteArr (rangeKs 0 n)) t) { s with heap := h', toks := k }) :
    wpAny (model prog w) A (call (.type "bytes") [.ref r]) Q E s := by
  have hin : KBa.In (rangeKs 0 n) := by
    intro x hx
    unfold rangeKs at hx
    obtain ⟨i, hi, rfl⟩ := List.mem_map.mp hx
    have := List.mem_range.mp hi
    omega
  refine callType_codes (Q₁ := fun obj s₁ => s₁.TypeIs obj "bytes" ∧ Q obj s₁) F.bm_called (F.bm_typeCall _) F.entry_object_init ?_ fun obj s₁ h₁ =>
    ⟨h₁.1, F.args_object_init_2 obj _, object_init_meets F.bm_called.init.lookup F.bm_called.made (by decide) prog w A.in1 _ s₁ ⟨h₁.1, rfl, h₁.2⟩⟩
  refine codeAny_of_tree ?_
  show wpAny _ A.in1.in1 (do checkBuiltinCall "bytes.__new__" ⟨[.type "bytes", .ref r], []⟩; again (.builtin "bytes.__new__" ⟨[.type "bytes", .ref r], []⟩)) _ _ s
  refine wpAny_bind (wpAny_of_eq (F.bm_newCall _) (wpAny_pure ⟨plainId_quiet F.bm_plain _, codeAny_builtin F.bm_entry ?_⟩))
  rw [Around.under_plainId F.bm_plain _]
  have hT : s.TypeIs (.ref r) "range" := ⟨_, hr, rfl⟩
  unfold Builtin.«bytes.__new__»
  refine wpAny_bind (wpAny_of_eq (a := true) rfl ?_)
  refine bm_if_false rfl ?_
  refine wpAny_bind (wpAny_of_eq F.bm_sub ?_)
  refine bm_if_false rfl ?_
  refine wpAny_bind (wpAny_of_eq (F.bm_bind _) ?_)
  refine wpAny_bind (wpAny_of_eq (a := ()) rfl ?_)
  refine wpAny_bind (wpAny_of_eq (a := ()) rfl ?_)
  refine bm_if_false rfl ?_
  refine wpAny_bind (wpAny_specialOf hT rg_no_bytes ?_)
  refine wpAny_bind (wpAny_bind ?_)
  show wpAny _ _ (load r >>= _) _ _ _
  refine wpAny_bind (wpAny_load hr ?_)
  refine wpAny_pure (wpAny_pure ?_)
  refine bm_if_false rfl ?_
  refine wpAny_bind (wpAny_specialOf hT rg_no_index ?_)
  refine bm_if_true rfl ?_
  first
    | show wpAny _ _ (Builtin.Bytes.buffer? "bytes.__new__" (.ref r) true >>= _) _ _ _
    | (refine wpAny_bind ?_; show wpAny _ _ (Builtin.Bytes.buffer? "bytes.__new__" (.ref r) true >>= _) _ _ _)
  refine wpAny_bind ?_
  unfold Builtin.Bytes.buffer?
  refine wpAny_bind (wpAny_specialOf hT rg_no_buffer ?_)
  refine wpAny_bind (wpAny_specialOf hT rg_no_buffer ?_)
  refine wpAny_pure ?_
  refine wpAny_bind (wpAny_tryCatch (wpAny_pyIter_range hr hsmall ?_))
  refine wpAny_bind (wpAny_holding ?_)
  have hr₁ := Heap.get?_push_of_some { cls := .type "range_iterator", data := .fields #[rawInt 0, rawInt (Builtin.Range.rangeSize 0 b 1), rawInt 1] } hr
  have hT₁ : ({ s with heap := s.heap.push { cls := .type "range_iterator", data := .fields #[rawInt 0, rawInt (Builtin.Range.rangeSize 0 b 1), rawInt 1] } } : Shared).TypeIs (.ref r) "range" := ⟨_, hr₁, rfl⟩
  unfold Builtin.Bytes.lengthHint
  refine wpAny_bind (wpAny_specialOf hT₁ F.slot_range_len.lookup ?_)
  dsimp only
  rw [rg_split]
  dsimp only
  refine wpAny_bind (wpAny_isInstance hT₁ rg_sub ?_)
  refine bm_if_false rfl ?_
  refine bm_if_false (by decide +kernel) ?_
  refine bm_if_true rfl ?_
  refine wpAny_bind (wpAny_rule ?_)
  refine wpAny_bind (wpAny_attempt (call_len_range hr₁ hn (by omega) ?_))
  refine wpAny_bind (m := asInt? _) (wpAny_pure ?_)
  refine bm_if_false (by have htl : Builtin.Bytes.tooLong ((n : Int).toNat) = false := by simp [Builtin.Bytes.tooLong, sizeLine]; omega
                         exact htl) ?_
  refine wpAny_pure ?_
  refine wpAny_bind ?_
  unfold Builtin.Bytes.newBytearray
  refine wpAny_newObj_type ?_ (Nat.zero_le _)
  have hsz : (s.heap.push { cls := .type "range_iterator", data := .fields #[rawInt 0, rawInt (Builtin.Range.rangeSize 0 b 1), rawInt 1] }).objs.size = s.heap.objs.size + 1 := Heap.size_push _ _
  have hne : s.heap.objs.size ≠ (s.heap.push { cls := .type "range_iterator", data := .fields #[rawInt 0, rawInt (Builtin.Range.rangeSize 0 b 1), rawInt 1] }).objs.size := by rw [hsz]; exact Nat.ne_of_lt (Nat.lt_succ_self _)
  have W := Walks.range (prog := prog) (w := w) (A := A.in1.in1) hh s.heap.objs.size 0 1 (rangeKs 0 n).length
  have hit : IsRangeIter ((s.heap.push { cls := .type "range_iterator", data := .fields #[rawInt 0, rawInt (Builtin.Range.rangeSize 0 b 1), rawInt 1] }).push { cls := .type "bytearray", data := .bytearray #[] }) s.heap.objs.size (0 + ((0 : Nat) : Int) * 1) (((rangeKs 0 n).length : Int) - ((0 : Nat) : Int)) 1 := by
    rw [rangeKs_length]
    show IsRangeIter _ _ _ _ _
    rw [hn]
    exact Heap.get?_push_of_some _ (by simpa using Heap.get?_push_size _ rfl)
  have main := octs_loop (R := wants (fun obj s₁ => s₁.TypeIs obj "bytes" ∧ Q obj s₁) E) (S := (s.heap.push { cls := .type "range_iterator", data := .fields #[rawInt 0, rawInt (Builtin.Range.rangeSize 0 b 1), rawInt 1] }).objs.size) W (fun hm => hne (List.mem_singleton.mp hm).symm) hne
    (fun i v hi ⟨t, e⟩ => ⟨_, t, (by rw [rangeKs_length] at hi; simp [rangeKs, hi]), e⟩) hin (by rw [rangeKs_length]; omega) (rangeKs 0 n).length 0 { s with heap := (s.heap.push { cls := .type "range_iterator", data := .fields #[rawInt 0, rawInt (Builtin.Range.rangeSize 0 b 1), rawInt 1] }).push { cls := .type "bytearray", data := .bytearray #[] }, toks := s.toks + 1 + 1 } rfl (Nat.zero_le _) hit (Heap.get?_push_size _ rfl)
    fun h' t k hk => ⟨PySem.W.typeIs_bytes _ _ _, hQ h' t k fun b o e => hk b o (Nat.ne_of_lt (Heap.lt_size e)) (by rw [hsz]; exact Nat.ne_of_lt (Nat.lt_succ_of_lt (Heap.lt_size e))) (Heap.get?_push_of_some _ (Heap.get?_push_of_some _ e))⟩
  exact wpAny_pure ⟨plainId_quiet F.bm_plain_loop _, main⟩
theorem octs_range_K {h₀ : Heap} {L : Addr} {m : Str → Option Value} {news : List (Addr × Obj)} {r : Addr} {b : Int} {t u v : Tok} {n : Nat} {Q : Value → Shared → Prop} (F : Fr h₀ L s.heap m) (N : News h₀ L s.heap news) (hh : A.handled = none) (hr : IsRange s.heap r 0 b 1 t u v) (hsmall : Builtin.Range.small 0 b 1 = true) (hn : Builtin.Range.rangeSize 0 b 1 = (n : Int)) (hb : n ≤ 256)
    (h : ∀ h' t k, Fr h₀ L h' m → News h₀ L h' news → KBw.bInts (byteArr (rangeKs 0 n)) = rangeKs 0 n → Q (.bytes (byteArr (rangeKs 0 n)) t) { s with heap := h', toks := k }) :
    wpAny (model prog w) A (call (.type "bytes") [.ref r]) Q E s :=
  octs_range hh hr hsmall hn hb fun h' t k hk => h h' t k (F.keptAll hk) (N.grown hk) (KBa.ints_make (by
    intro x hx
    unfold rangeKs at hx
    obtain ⟨i, hi, rfl⟩ := List.mem_map.mp hx
    have := List.mem_range.mp hi
    omega))
end

--deps: P25_wrwalk P24_round P20_lawread P13_text P05_table P26_brange
theorem pool_of {ns : List Int} {ys : List Value} (h : Each (fun (_ : Int) v => ∃ k t, v = Value.int k t ∧ 0 ≤ k) ns ys) (hl : ns.length ≤ 24) : ∃ ks, IntsAre ys ks ∧ PoolOk ks := by
  have key : ∀ {ns : List Int} {ys : List Value}, Each (fun (_ : Int) v => ∃ k t, v = Value.int k t ∧ 0 ≤ k) ns ys → ∃ ks, IntsAre ys ks ∧ (∀ x ∈ ks, 0 ≤ x) ∧ ks.length = ns.length := by
    intro ns ys h
    induction h with
    | nil => exact ⟨[], .nil, (fun _ h => nomatch h), rfl⟩
    | cons r _ ih =>
      obtain ⟨k, t, rfl, hk⟩ := r
      obtain ⟨ks, h1, h2, h3⟩ := ih
      exact ⟨k :: ks, .cons _ _ h1, (List.forall_mem_cons.mpr ⟨hk, h2⟩), by simp [h3]⟩
  obtain ⟨ks, h1, h2, h3⟩ := key h
  exact ⟨ks, h1, h2, by omega⟩
/-- a loop over a range from 0 that turns two lists of ints; `rest` of the ledger stands by -/
theorem lp2 {prog : Program} {w : World} {A : Around} {E : Value → Shared → Prop} {s : Shared} {env : Env} {h₀ : Heap} {x : Str} {body : List Stmt} {Q : Flow → Shared → Prop} {r p q : Addr} {n : Nat} {b₀ : Int} {t₀ u₀ v₀ : Tok} {vs₀ us₀ : List Value} {ns₀ cs₀ : List Int} {k₀ j₀ : Nat} {m₀ : Str → Option Value} {led rest : List (Addr × Obj)} (pn qn : Str) (J : Nat → List Int → List Int → Prop)
    (F : Fr h₀ env.locals s.heap m₀) (N : News h₀ env.locals s.heap led) (hr : IsRange s.heap r 0 b₀ 1 t₀ u₀ v₀) (hb : b₀ = (n : Int)) (hn : n ≤ 1000) (hpn : m₀ pn = some (.ref p)) (hqn : m₀ qn = some (.ref q))
    (P : Picks [(p, listOf vs₀.toArray k₀), (q, listOf us₀.toArray j₀)] led rest) (hv₀ : IntsAre vs₀ ns₀) (hu₀ : IntsAre us₀ cs₀) (hJ : J 0 ns₀ cs₀) (hh : A.handled = none)
    (turn : ∀ (i : Nat) t vs ns k us cs j I oI h tk, i < n → IntsAre vs ns → IntsAre us cs → J i ns cs → OffL I ((p, listOf vs.toArray k) :: (q, listOf us.toArray j) :: rest) →
      Fr h₀ env.locals h (fun z => if z = x then some (.int (i : Int) t) else m₀ z) → News h₀ env.locals h ((I, oI) :: (p, listOf vs.toArray k) :: (q, listOf us.toArray j) :: rest) →
      wpAny (model prog w) A (execs body env) (LpPost h₀ env.locals I oI [] (fun m' nx => (∃ vs' ns' k' us' cs' j', nx = (p, listOf vs'.toArray k') :: (q, listOf us'.toArray j') :: rest ∧ IntsAre vs' ns' ∧ IntsAre us' cs' ∧ J (i + 1) ns' cs') ∧ ∀ z, z ≠ x → m' z = m₀ z) { s with heap := h, toks := tk } Q) E { s with heap := h, toks := tk })
    (done : ∀ (q' : Str → Option Value) vs ns k us cs j h tk, IntsAre vs ns → IntsAre us cs → J n ns cs →
      Fr h₀ env.locals h (fun z => if z = x then q' z else m₀ z) → News h₀ env.locals h ((p, listOf vs.toArray k) :: (q, listOf us.toArray j) :: rest) → Q .next { s with heap := h, toks := tk }) :
    wpAny (model prog w) A (pyIter (.ref r)) (fun it s₂ => LoopAtV prog w A h₀ env x body Q E it s₂) E s := by
  subst hb
  have N1 : News h₀ env.locals s.heap ((p, listOf vs₀.toArray k₀) :: (q, listOf us₀.toArray j₀) :: rest) := fun y hy => N y (P.mem y hy)
  refine lp_range (n := n) (fun i m' nx => (∃ vs ns k us cs j, nx = (p, listOf vs.toArray k) :: (q, listOf us.toArray j) :: rest ∧ IntsAre vs ns ∧ IntsAre us cs ∧ J i ns cs) ∧ ∀ z, z ≠ x → m' z = m₀ z) hr
    (small_one (by decide) (by decide) (by omega) (by omega)) (by rw [rangeSize_nat]; omega) hh F N1 ⟨⟨vs₀, ns₀, k₀, us₀, cs₀, j₀, rfl, hv₀, hu₀, hJ⟩, fun _ _ => rfl⟩ ?_ ?_
  · rintro i t I oI m₁ nx h tk hi ⟨⟨vs, ns, k, us, cs, j, rfl, hv, hu, hj⟩, hm₁⟩ hoff F₁ N₁
    have e1 : (fun z => if z = x then some (Value.int ((0 : Int) + (i : Int)) t) else m₁ z) = fun z => if z = x then some (Value.int (i : Int) t) else m₀ z := by
      funext z
      by_cases h1 : z = x
      · simp only [if_pos h1, Int.zero_add]
      · simp only [if_neg h1]; exact hm₁ z h1
    rw [e1] at F₁
    exact turn i t vs ns k us cs j I oI h tk hi hv hu hj (OffL.of fun y hy e => hoff y hy e.symm) F₁ N₁
  · rintro m₁ nx h tk ⟨⟨vs, ns, k, us, cs, j, rfl, hv, hu, hj⟩, hm₁⟩ F₁ N₁
    refine done m₁ vs ns k us cs j h tk hv hu hj ?_ N₁
    have e1 : (fun z => if z = x then m₁ z else m₀ z) = m₁ := by
      funext z
      by_cases h1 : z = x
      · simp only [if_pos h1]
      · simp only [if_neg h1]; exact (hm₁ z h1).symm
    rw [e1]; exact F₁
/-! ### a call that takes the table alone: apart by what the objects are -/
def NotDict (o : Obj) : Prop := ∀ es ep, o.data ≠ .dict es ep
theorem nd_list {xs : Array Value} {n : Nat} : NotDict (listOf xs n) := fun _ _ h => by cases h
theorem nd_lst {ys : List Value} : NotDict (LCg.lst ys) := fun _ _ h => by cases h
theorem nd_cell {o : Obj} {v : Option Value} (h : o.data = .cell v) : NotDict o := fun _ _ q => by rw [h] at q; cases q
theorem nd_nil : ∀ q ∈ ([] : List (Addr × Obj)), NotDict q.2 := fun _ h => nomatch h
theorem nd_cons_list {a : Addr} {xs : Array Value} {n : Nat} {led : List (Addr × Obj)} (h : ∀ q ∈ led, NotDict q.2) : ∀ q ∈ (a, listOf xs n) :: led, NotDict q.2 := List.forall_mem_cons.mpr ⟨nd_list, h⟩
theorem nd_cons_lst {a : Addr} {ys : List Value} {led : List (Addr × Obj)} (h : ∀ q ∈ led, NotDict q.2) : ∀ q ∈ (a, LCg.lst ys) :: led, NotDict q.2 := List.forall_mem_cons.mpr ⟨nd_lst, h⟩
theorem nd_cons_cell {a : Addr} {o : Obj} {v : Option Value} {led : List (Addr × Obj)} (ho : o.data = .cell v) (h : ∀ q ∈ led, NotDict q.2) : ∀ q ∈ (a, o) :: led, NotDict q.2 := List.forall_mem_cons.mpr ⟨nd_cell ho, h⟩
theorem Spec.useD {lv : Nat} {w : World} {loose : List Str} {mean : ExcName → Option Value} {mg mb : Str → Option Value} {f d : Addr} {o : Obj} {kvs : List (Int × Value)} {led rest : List (Addr × Obj)} {args : List Value} {post : Value → List (Addr × Obj) → Prop} {dp un : Nat} {gd : Option (List Code)} {cn : Str} {cs : Scope} {a : Addr} {ccd : Value} {cl : List (Str × Addr)} {outer : List Env} {A₀ : Around} {base h₀ : Heap} {L : Addr} {m : Str → Option Value} {s : Shared} {Q E : Value → Shared → Prop}
    (B : Below A₀ base outer h₀) (F : Fr h₀ L s.heap m) (X : (hd.heap_39 w.params).In h₀) (N : News h₀ L s.heap led) (T : Top hd.view_39 loose mean mg mb h₀) (S : Spec lv w loose mean mg mb f [(d, o)] args post)
    (P : Picks [(d, o)] led rest) (ho : o.IsDictOf (PySem.intKind PySem.Challenge.rw_nn0192_01.row.prog w) kvs) (D : ∀ q ∈ rest, NotDict q.2) (hk : cs.kind = .function) (hd : dp + lv < recursionLimit) (hu : un + 8 * lv < cLine)
    (h : ∀ r own' h' tk', Fr h₀ L h' m → News h₀ L h' (own' ++ rest) → (∀ p ∈ own', ∀ q ∈ rest, p.1 ≠ q.1) → post r own' → Q r { s with heap := h', toks := tk' }) :
    wpAny (model PySem.Challenge.rw_nn0192_01.row.prog w) (ktrTop dp un gd cn cs L a ccd cl outer) (call (.ref f) args) Q E s := by
  refine Spec.use B F X N T S P (fun p hp q hq e => ?_) hk hd hu h
  rw [List.mem_singleton.mp hp] at e
  have h1 := (N _ (P.mem (d, o) (List.mem_append_left _ (List.Mem.head _)))).1
  have h2 := (N q (P.mem q (List.mem_append_right _ hq))).1
  rw [← e] at h2
  have e' : o = q.2 := Option.some.inj (h1.symm.trans h2)
  obtain ⟨es, ep, _, hdat, _⟩ := ho
  exact D q hq es ep (e' ▸ hdat)
/-! ### what the two loops keep -/
def J1 (i : Nat) (ns cs : List Int) : Prop := PoolOk ns ∧ (∀ c ∈ cs, SignOk c) ∧ cs.length ≤ 2 + i
def J2 (i : Nat) (ns ks : List Int) : Prop := PoolOk ns ∧ (∀ k ∈ ks, 0 ≤ k ∧ k < 256) ∧ ks.length ≤ 2 + i
theorem J1.put {i : Nat} {ns ns' cs : List Int} {c : Int} (h : J1 i ns cs) (hp : PoolOk ns') (hc : SignOk c) : J1 (i + 1) ns' (cs ++ [c]) :=
  ⟨hp, (List.forall_mem_append.mpr ⟨h.2.1, fun x hx => (List.mem_singleton.mp hx) ▸ hc⟩), by have := h.2.2; rw [List.length_append, List.length_singleton]; omega⟩
theorem J2.put {i : Nat} {ns ns' ks : List Int} {k : Int} (h : J2 i ns ks) (hp : PoolOk ns') (h0 : 0 ≤ k) (h1 : k < 256) : J2 (i + 1) ns' (ks ++ [k]) :=
  ⟨hp, (List.forall_mem_append.mpr ⟨h.2.1, fun x hx => (List.mem_singleton.mp hx) ▸ ⟨h0, h1⟩⟩), by have := h.2.2; rw [List.length_append, List.length_singleton]; omega⟩
theorem J1.nil {ns : List Int} (h : PoolOk ns) : J1 0 ns [] := ⟨h, (fun _ h => nomatch h), by simp⟩
theorem J1.two {ns : List Int} (h : PoolOk ns) : J1 0 ns [254, 255] := ⟨h, (by unfold SignOk; decide), by decide⟩
theorem J2.nil {ns : List Int} (h : PoolOk ns) : J2 0 ns [] := ⟨h, (fun _ h => nomatch h), by simp⟩
theorem J2.two {ns : List Int} (h : PoolOk ns) : J2 0 ns [254, 255] := ⟨h, by decide, by decide⟩
theorem J1.pool {i : Nat} {ns cs : List Int} (h : J1 i ns cs) : PoolOk ns := h.1
theorem J1.signs {i : Nat} {ns cs : List Int} (h : J1 i ns cs) : ∀ c ∈ cs, SignOk c := h.2.1
theorem J1.len {i : Nat} {ns cs : List Int} (h : J1 i ns cs) : cs.length ≤ 2 + i := h.2.2
theorem J2.pool {i : Nat} {ns cs : List Int} (h : J2 i ns cs) : PoolOk ns := h.1
theorem J2.octs {i : Nat} {ns cs : List Int} (h : J2 i ns cs) : KBa.In cs := h.2.1
theorem J2.len {i : Nat} {ns cs : List Int} (h : J2 i ns cs) : cs.length ≤ 2 + i := h.2.2
theorem J1.fin {i : Nat} {ns ns' cs : List Int} {c : Int} {vs us : List Value} (hp : PoolOk ns') (hv : IntsAre vs ns') (h : J1 i ns cs) (hc : SignOk c) (hu : IntsAre us (cs ++ [c])) : IntsAre vs ns' ∧ IntsAre us (cs ++ [c]) ∧ J1 (i + 1) ns' (cs ++ [c]) := ⟨hv, hu, h.put hp hc⟩
theorem J2.fin {i : Nat} {ns ns' cs : List Int} {c : Int} {vs us : List Value} (hp : PoolOk ns') (hv : IntsAre vs ns') (h : J2 i ns cs) (hu : IntsAre us (cs ++ [c])) (hc : 0 ≤ c ∧ c < 256) : IntsAre vs ns' ∧ IntsAre us (cs ++ [c]) ∧ J2 (i + 1) ns' (cs ++ [c]) := ⟨hv, hu, h.put hp hc.1 hc.2⟩
theorem menu4 {a : Int} (h0 : 0 ≤ a) (h1 : a < 256) : ∀ k : Nat, 0 ≤ ([a, 216, 220, 223] : List Int).getD k 0 ∧ ([a, 216, 220, 223] : List Int).getD k 0 < 256
  | 0 => ⟨h0, h1⟩
  | 1 => ⟨show (0 : Int) ≤ 216 by decide, show (216 : Int) < 256 by decide⟩
  | 2 => ⟨show (0 : Int) ≤ 220 by decide, show (220 : Int) < 256 by decide⟩
  | 3 => ⟨show (0 : Int) ≤ 223 by decide, show (223 : Int) < 256 by decide⟩
  | _ + 4 => by simp
theorem J1.len20 {i : Nat} {ns cs : List Int} (h : J1 i ns cs) (hi : i ≤ 18) : cs.length ≤ 20 := Nat.le_trans h.2.2 (by omega)
theorem J2.len20 {i : Nat} {ns cs : List Int} (h : J2 i ns cs) (hi : i ≤ 18) : cs.length ≤ 20 := Nat.le_trans h.2.2 (by omega)
theorem le_big {a : Nat} (h : a ≤ 20) : a ≤ 1000 := Nat.le_trans h (by decide)
theorem le_bytes {a : Nat} (h : a ≤ 20) : a ≤ 16777216 := Nat.le_trans h (by decide)
theorem le_hund {a : Nat} (h : a ≤ 20) : a ≤ 100000 := Nat.le_trans h (by decide)
theorem le_join {a : Nat} (h : a ≤ 20) : a ≤ 200000 := Nat.le_trans h (by decide)
theorem J1.start {ns cs : List Int} (h : PoolOk ns) (hc : cs = [] ∨ cs = [254, 255]) : J1 0 ns cs := by
  rcases hc with rfl | rfl
  · exact .nil h
  · exact .two h
theorem J2.start {ns cs : List Int} (h : PoolOk ns) (hc : cs = [] ∨ cs = [254, 255]) : J2 0 ns cs := by
  rcases hc with rfl | rfl
  · exact .nil h
  · exact .two h
/-! ### one of two lists -/
section
variable {prog : Program} {w : World} {A : Around} {E : Value → Shared → Prop} {s : Shared} {env : Env} {Q : Value → Shared → Prop}
def TwoPost (prog : Program) (w : World) (A : Around) (E : Value → Shared → Prop) (env : Env) (body orelse : PySem.Expr) (Q : Value → Shared → Prop) (c : Bool) (s : Shared) : Prop :=
  if c then wpAny (model prog w) A (eval body env) Q E s else wpAny (model prog w) A (eval orelse env) Q E s
theorem IfExp_two {test body orelse : PySem.Expr} {pos : Pos} (h : wpAny (model prog w) A (isTrue test env (eval test env)) (TwoPost prog w A E env body orelse Q) E s) : wpAny (model prog w) A (eval (.IfExp test body orelse pos) env) Q E s := IfExp_ h
theorem two_lists {h₀ : Heap} {L : Addr} {m : Str → Option Value} {news : List (Addr × Obj)} {c : Bool} {k1 k2} {p1 p2 p3 p4 : Pos} (F : Fr h₀ L s.heap m) (N : News h₀ L s.heap news)
    (h : ∀ l us cs n h' tk, Fr h₀ L h' m → News h₀ L h' ((l, listOf (List.toArray us) n) :: news) → (∀ p ∈ news, p.1 < l) → IntsAre us cs → (cs = [] ∨ cs = [254, 255]) → Q (.ref l) { s with heap := h', toks := tk }) :
    TwoPost prog w A E env (.List [.Constant (.int 254) k1 p1, .Constant (.int 255) k2 p2] p3) (.List [] p4) Q c s := by
  unfold TwoPost
  cases c with
  | true =>
    rw [if_pos rfl]
    refine List_ (spliced_more (wpAny_Constant_int (spliced_more (wpAny_Constant_int (spliced_none ?_)))))
    exact newList_K (s := { s with toks := s.toks + 1 + 1 }) F N fun l h' F' N' l1 => h l _ [254, 255] 0 h' _ F' N' l1 (.cons _ _ (.cons _ _ .nil)) (.inr rfl)
  | false =>
    rw [if_neg Bool.false_ne_true]
    refine List_ (spliced_none ?_)
    exact newList_K F N fun l h' F' N' l1 => h l _ [] 0 h' _ F' N' l1 .nil (.inl rfl)
end
/-! ### contracts as the law wants them -/
section
variable {w : World} {loose : List Str} {mean : ExcName → Option Value} {mg mb : Str → Option Value}
theorem octets_law {cs : List Int} {t : Tok} (hcs : ∀ c ∈ cs, SignOk c) (hl : cs.length ≤ 20) :
    Spec 16 w loose mean mg mb 40 [] [.str (KStt.txt cs) t] (fun r own' => (∃ b t, r = .bytes b t ∧ KBw.bInts b = octC cs) ∧ own' = []) := by
  have e : KStt.codes (KStt.txt cs) = cs := codes_txt fun c hc => (hcs c hc).1
  have h := octets_ok (w := w) (loose := loose) (mean := mean) (mg := mg) (mb := mb) (x := KStt.txt cs) (t := t) (by rw [txt_size]; omega) (by rw [e]; exact fun c hc => ⟨(hcs c hc).1, (hcs c hc).2.1⟩)
  rwa [e] at h
theorem text_law {b : Array UInt8} {tb : Tok} {ks : List Int} (hb : KBw.bInts b = ks) (hl : ks.length ≤ 1000) :
    Spec 16 w loose mean mg mb 45 [] [.bytes b tb] (fun r own' => (∃ t, r = .str (KStt.txt (textC ks)) t) ∧ (∀ c ∈ textC ks, 0 ≤ c) ∧ (KStt.txt (textC ks)).cps.size ≤ 100000 ∧ own' = []) :=
  Spec.mono (text_ok hb hl) fun r own' h => ⟨h.1, textC_in (fun k hk => by subst hb; exact KBw.ints_in hk), (by rw [txt_size]; have := textC_len ks; omega), h.2⟩
theorem back_law {b : Array UInt8} {tb : Tok} {cs : List Int} (hb : KBw.bInts b = octC cs) (hcs : ∀ c ∈ cs, SignOk c) (hl : cs.length ≤ 20) :
    Spec 16 w loose mean mg mb 45 [] [.bytes b tb] (fun r own' => (∃ t, r = .str (KStt.txt cs) t) ∧ own' = []) := by
  have h := text_ok (w := w) (loose := loose) (mean := mean) (mg := mg) (mb := mb) (tb := tb) hb (octC_len (by omega))
  rwa [textC_octC hcs] at h
end
section
variable {prog : Program} {w : World} {A : Around} {E : Value → Shared → Prop} {s : Shared} {Q : Value → Shared → Prop}
theorem ne_bytes_law {b c : Array UInt8} {t u : Tok} {ks : List Int} (hb : KBw.bInts b = ks) (hc : KBw.bInts c = ks) (h : Q (.bool false) s) : wpAny (model prog w) A (compareOp .NotEq (.bytes b t) (.bytes c u)) Q E s := by
  refine ne_bytes ?_
  rw [bInts_inj (hb.trans hc.symm), bne_self_eq_false]
  exact h
theorem ne_txt_law {x : Str} {t u : Tok} (h : Q (.bool false) s) : wpAny (model prog w) A (compareOp .NotEq (.str x t) (.str x u)) Q E s := by
  refine PyProof.Rows.ne_str ?_
  rw [bne_self_eq_false]
  exact h
theorem ne_ints_law {h₀ : Heap} {L a b : Addr} {news : List (Addr × Obj)} {vs us : List Value} {k j : Nat} {ns ms : List Int} (N : News h₀ L s.heap news) (ha : (a, listOf vs.toArray k) ∈ news) (hb : (b, listOf us.toArray j) ∈ news) (hi : IntsAre vs ns) (hj : IntsAre us ms) (e : ns = ms) (hu : A.units + 64 < cLine) (h : Q (.bool false) s) :
    wpAny (model prog w) A (compareOp .NotEq (.ref a) (.ref b)) Q E s :=
  ne_intsK (News.isList N ha) hi (News.isList N hb) hj hu (by rw [decide_eq_true e]; exact h)
theorem eq_ints_law {h₀ : Heap} {L a b : Addr} {news : List (Addr × Obj)} {vs us : List Value} {k j : Nat} {ns ms : List Int} (N : News h₀ L s.heap news) (ha : (a, listOf vs.toArray k) ∈ news) (hb : (b, listOf us.toArray j) ∈ news) (hi : IntsAre vs ns) (hj : IntsAre us ms) (e : ns = ms) (hu : A.units + 64 < cLine) (h : Q (.bool true) s) :
    wpAny (model prog w) A (compareOp .Eq (.ref a) (.ref b)) Q E s :=
  eq_intsK (News.isList N ha) hi (News.isList N hb) hj hu (by rw [decide_eq_true e]; exact h)
end
theorem ord_ints {l : List Int} {ys : List Value} (h : Each (fun c v => ∃ t, v = Value.int c t) (KStt.codes (KStt.txt l)) ys) (hl : ∀ c ∈ l, 0 ≤ c) : IntsAre ys l := by
  have := h.ints
  rwa [codes_txt hl, List.map_id'] at this
theorem chr_strs {cs : List Int} {ys : List Value} (h : Each (fun c v => ∃ t, v = Value.str (chS c) t) cs ys) : StrsAre ys (cs.map chS) := h.strs
theorem whole_same : textC (rangeKs 0 256) = (stepKs 0 1 256).map fun k => kdfLook tabC k 65533 := by decide +kernel

--deps: P26_lawb Dev
section
local macro_rules | `(tactic| walk_at "eval ListComp") => `(tactic| (k_here; k_dflt (refine ListComp_M (F₀ := by k_asm) (by with_unfolding_all rfl) (by decide) (by rfl) (by decide) (by rfl) ?_)))
local macro_rules | `(tactic| walk_at "exec Assign cons ListComp") => `(tactic| (k_here; k_dflt (refine Assign_ListComp_M (F₀ := by k_asm) (by rfl) (by with_unfolding_all rfl) (by with_unfolding_all rfl) (by decide) (by rfl) (by decide) (by rfl) (by rfl) (by rfl) ?_)))
local macro_rules | `(tactic| walk_at "CSrc") => `(tactic| (k_here; first
  | ((with_reducible show CSrc _ _ _ _ _ _ _ _ _ _ _ _ _ (Value.str _ _) _); k_dflt (refine' CSrc.text (fun c v => ∃ t, v = Value.int c t) rfl ?k2 ?k3 ?k4 ?_ ?_; (case k2 => k_asm); (case k3 => k_asm); (case k4 => with_reducible assumption)); all_goals (first | (intro c9 u9 g9 hc9; (unfold CTurn; intro I' oI' C' oC' D' m' ys' h' tk' E' hC' hx' F' N' off' ne'; (try (simp only [LCg.Off3, and_true] at off')); (try dsimp only); k_fold)) | (intro ys9 g9 hy9; have hy9 := ord_ints hy9 (by with_reducible assumption))))
  | ((with_reducible show CSrc _ _ _ _ _ _ _ _ _ _ _ _ _ (Value.ref _) _); (rename IsRange _ _ _ _ _ _ _ _ => rgX); k_dflt (refine' CSrc.range (n := 256) (fun c v => ∃ t, v = Value.int (kdfLook tabC c 65533) t) rfl ?k2 ?k3 rgX ?k4 ?k5 ?k6 ?_ ?_; (case k2 => k_asm); (case k3 => k_asm); (case k4 => decide +kernel); (case k5 => decide +kernel); (case k6 => decide)); all_goals (first | (intro c9 u9 g9 hc9; (unfold CTurn; intro I' oI' C' oC' D' m' ys' h' tk' E' hC' hx' F' N' off' ne'; (try (simp only [LCg.Off3, and_true] at off')); (try dsimp only); k_fold)) | (intro ys9 g9 hy9; have hy9 := Each.ints hy9)))
  | ((with_reducible show CSrc _ _ _ _ _ _ _ _ _ _ _ _ _ (Value.ref _) _); (rename (∀ c ∈ _, SignOk c) => hcs8); k_dflt (refine' CSrc.list (fun c v => ∃ t, v = Value.str (chS c) t) rfl ?k2 ?k3 ?k4 ?k5 ?k6 ?_ ?_; (case k5 => with_reducible assumption); (case k2 => k_asm); (case k3 => k_asm); (case k4 => k_mem); (case k6 => exact le_hund (by with_reducible assumption))); all_goals (first | (intro c9 u9 g9 hc9; have hs1 := sg0 hcs8 hc9; have hs2 := sg1 hcs8 hc9; (try k_unmd); (unfold CTurn; intro I' oI' C' oC' D' m' ys' h' tk' E' hC' hx' F' N' off' ne'; (try (simp only [LCg.Off3, and_true] at off')); (try dsimp only); k_fold)) | (intro ys9 g9 hy9; have hy9 := chr_strs hy9)))
  | ((with_reducible show CSrc _ _ _ _ _ _ _ _ _ _ _ _ _ (Value.ref _) _); k_dflt (refine' CSrc.list (fun c v => ∃ k t, v = Value.int k t ∧ 0 ≤ k) rfl ?k2 ?k3 ?k4 ?k5 ?k6 ?_ ?_; (case k5 => with_reducible assumption); (case k2 => k_asm); (case k3 => k_asm); (case k4 => k_mem); (case k6 => omega)); all_goals (first | (intro c9 u9 g9 hc9; (unfold CTurn; intro I' oI' C' oC' D' m' ys' h' tk' E' hC' hx' F' N' off' ne'; (try (simp only [LCg.Off3, and_true] at off')); (try dsimp only); k_fold)) | (intro ys9 g9 hy9; obtain ⟨ks9, hi9, hpo9⟩ := pool_of hy9 (by omega))))))
local macro_rules | `(tactic| walk_at "CompEnd") => `(tactic| first
  | k_dflt (exact LCg.CompEnd.intro (by k_asm) (by k_asm) _ (by kcf_all) (by first | assumption | (simp only [LCg.Off3, and_true]; omega)) (by first | trivial | k_mem) ⟨rfl, ⟨_, rfl⟩⟩)
  | k_dflt (exact LCg.CompEnd.intro (by k_asm) (by k_asm) _ (by kcf_all) (by first | assumption | (simp only [LCg.Off3, and_true]; omega)) (by k_mem) ⟨rfl, ⟨_, _, rfl, by (first | omega | exact Int.fmod_nonneg_of_pos _ (by decide))⟩⟩))
local macro_rules | `(tactic| walk_at "call builtin:chr") => `(tactic| (k_here; (with_reducible show wpAny _ _ (call (Value.builtin "chr") [Value.int _ _]) _ _ _); k_dflt (refine' chr_of_range ?k1 ?k2 ?_; (case k1 => omega); (case k2 => omega); k_whole)))
local macro_rules | `(tactic| walk_at "call builtin:str.join") => `(tactic| (k_here; (try dsimp only [List.cons_append, List.nil_append]); (with_reducible show wpAny _ _ (call (Value.builtin _) [Value.str _ _, Value.ref _]) _ _ _); k_dflt (refine' join_K ?k1 ?k2 ?k3 ?k4 ?_; (case k1 => k_asm); (case k2 => k_mem); (case k3 => with_reducible assumption); (case k4 => exact le_join (by with_reducible assumption)); k_whole); intro _ _))
local macro_rules | `(tactic| walk_at "call builtin:dict.get") => `(tactic| (k_here; (try dsimp only [List.cons_append, List.nil_append]); (with_reducible show wpAny _ _ (call (Value.builtin "dict.get") [Value.ref _, Value.int _ _, Value.int _ _]) _ _ _); k_dflt (refine kdf_get2 (by k_tabat) ?_); intro _))
local macro_rules | `(tactic| walk_at "call builtin:list.append") => `(tactic| (k_here; (try dsimp only [List.cons_append, List.nil_append]); (with_reducible show wpAny _ _ (call (Value.builtin _) [Value.ref _, Value.int _ _]) _ _ _); k_dflt (refine' app_ints ?k1 ?k2 ?k3 ?k4 ?k5 ?k6 ?_; (case k1 => k_asm); (case k2 => k_asm); (case k3 => k_updF); (case k4 => with_reducible assumption); (case k5 => with_reducible assumption); (case k6 => omega); k_whole); intro us' h' hi' hl' F' N'; (try dsimp only at N'); (try k_sweep)))
local macro_rules | `(tactic| walk_at "call ref") => `(tactic| first
  | (k_here; (with_reducible show wpAny _ _ (call (Value.ref 52) _) _ _ _); k_dflt (refine' Spec.use ?B ?F ?X ?N ?T (take_gives ?sa ?sb ?sc ?sd) ?P ?D ?hk ?hd ?hu ?_; (case B => k_asm); (case F => k_asm); (case X => k_asm); (case N => k_asm); (case T => k_asm); (case sb => with_reducible assumption); (case sa => with_reducible assumption); (case sc => decide); (case sd => decide); (case P => (first | exact Picks.nil | (refine' Picks.cons ?pp ?pq; (case pp => first | exact Pick.head | exact Pick.tail (Pick.head) | exact Pick.tail (Pick.tail (Pick.head)) | exact Pick.tail (Pick.tail (Pick.tail (Pick.head))) | exact Pick.tail (Pick.tail (Pick.tail (Pick.tail (Pick.head)))) | exact Pick.tail (Pick.tail (Pick.tail (Pick.tail (Pick.tail (Pick.head))))) | exact Pick.tail (Pick.tail (Pick.tail (Pick.tail (Pick.tail (Pick.tail (Pick.head)))))) | exact Pick.tail (Pick.tail (Pick.tail (Pick.tail (Pick.tail (Pick.tail (Pick.tail (Pick.head)))))))); (case pq => first | exact Picks.nil | (refine' Picks.cons ?pp ?pq; (case pp => first | exact Pick.head | exact Pick.tail (Pick.head) | exact Pick.tail (Pick.tail (Pick.head)) | exact Pick.tail (Pick.tail (Pick.tail (Pick.head))) | exact Pick.tail (Pick.tail (Pick.tail (Pick.tail (Pick.head)))) | exact Pick.tail (Pick.tail (Pick.tail (Pick.tail (Pick.tail (Pick.head))))) | exact Pick.tail (Pick.tail (Pick.tail (Pick.tail (Pick.tail (Pick.tail (Pick.head)))))) | exact Pick.tail (Pick.tail (Pick.tail (Pick.tail (Pick.tail (Pick.tail (Pick.tail (Pick.head)))))))); (case pq => first | exact Picks.nil | (refine' Picks.cons ?pp ?pq; (case pp => first | exact Pick.head | exact Pick.tail (Pick.head) | exact Pick.tail (Pick.tail (Pick.head)) | exact Pick.tail (Pick.tail (Pick.tail (Pick.head))) | exact Pick.tail (Pick.tail (Pick.tail (Pick.tail (Pick.head)))) | exact Pick.tail (Pick.tail (Pick.tail (Pick.tail (Pick.tail (Pick.head))))) | exact Pick.tail (Pick.tail (Pick.tail (Pick.tail (Pick.tail (Pick.tail (Pick.head)))))) | exact Pick.tail (Pick.tail (Pick.tail (Pick.tail (Pick.tail (Pick.tail (Pick.tail (Pick.head)))))))); (case pq => exact Picks.nil)))))))); (case D => (first | exact List.forall_mem_nil _ | (refine' apart_cons ?pa ?pb; (case pa => k_all); (case pb => first | exact List.forall_mem_nil _ | (refine' apart_cons ?pa ?pb; (case pa => k_all); (case pb => first | exact List.forall_mem_nil _ | (refine' apart_cons ?pa ?pb; (case pa => k_all); (case pb => exact List.forall_mem_nil _)))))))); (case hk => first | exact rfl | assumption); (case hd => ktr_room); (case hu => ktr_units)); intro r9 own9 h9 tk9 F9 N9 D9 hp9; ((obtain ⟨⟨v9, t9, er9, hlo9, hhi9⟩, vs9, ns9, n9, hi9, hp9, eo9⟩ := hp9; subst er9; subst eo9)); (replace D9 := ApartL.of D9); (try simp only [ApartL, OffL, and_true] at D9); (try simp only [List.cons_append, List.nil_append] at N9); (try dsimp only); (try k_sweep); (try k_fold))
  | (k_here; (with_reducible show wpAny _ _ (call (Value.ref 59) _) _ _ _); k_dflt (refine' Spec.use ?B ?F ?X ?N ?T (table_ok) ?P ?D ?hk ?hd ?hu ?_; (case B => k_asm); (case F => k_asm); (case X => k_asm); (case N => k_asm); (case T => k_asm);  (case P => (first | exact Picks.nil | (refine' Picks.cons ?pp ?pq; (case pp => first | exact Pick.head | exact Pick.tail (Pick.head) | exact Pick.tail (Pick.tail (Pick.head)) | exact Pick.tail (Pick.tail (Pick.tail (Pick.head))) | exact Pick.tail (Pick.tail (Pick.tail (Pick.tail (Pick.head)))) | exact Pick.tail (Pick.tail (Pick.tail (Pick.tail (Pick.tail (Pick.head))))) | exact Pick.tail (Pick.tail (Pick.tail (Pick.tail (Pick.tail (Pick.tail (Pick.head)))))) | exact Pick.tail (Pick.tail (Pick.tail (Pick.tail (Pick.tail (Pick.tail (Pick.tail (Pick.head)))))))); (case pq => first | exact Picks.nil | (refine' Picks.cons ?pp ?pq; (case pp => first | exact Pick.head | exact Pick.tail (Pick.head) | exact Pick.tail (Pick.tail (Pick.head)) | exact Pick.tail (Pick.tail (Pick.tail (Pick.head))) | exact Pick.tail (Pick.tail (Pick.tail (Pick.tail (Pick.head)))) | exact Pick.tail (Pick.tail (Pick.tail (Pick.tail (Pick.tail (Pick.head))))) | exact Pick.tail (Pick.tail (Pick.tail (Pick.tail (Pick.tail (Pick.tail (Pick.head)))))) | exact Pick.tail (Pick.tail (Pick.tail (Pick.tail (Pick.tail (Pick.tail (Pick.tail (Pick.head)))))))); (case pq => first | exact Picks.nil | (refine' Picks.cons ?pp ?pq; (case pp => first | exact Pick.head | exact Pick.tail (Pick.head) | exact Pick.tail (Pick.tail (Pick.head)) | exact Pick.tail (Pick.tail (Pick.tail (Pick.head))) | exact Pick.tail (Pick.tail (Pick.tail (Pick.tail (Pick.head)))) | exact Pick.tail (Pick.tail (Pick.tail (Pick.tail (Pick.tail (Pick.head))))) | exact Pick.tail (Pick.tail (Pick.tail (Pick.tail (Pick.tail (Pick.tail (Pick.head)))))) | exact Pick.tail (Pick.tail (Pick.tail (Pick.tail (Pick.tail (Pick.tail (Pick.tail (Pick.head)))))))); (case pq => exact Picks.nil)))))))); (case D => (first | exact List.forall_mem_nil _ | (refine' apart_cons ?pa ?pb; (case pa => k_all); (case pb => first | exact List.forall_mem_nil _ | (refine' apart_cons ?pa ?pb; (case pa => k_all); (case pb => first | exact List.forall_mem_nil _ | (refine' apart_cons ?pa ?pb; (case pa => k_all); (case pb => exact List.forall_mem_nil _)))))))); (case hk => first | exact rfl | assumption); (case hd => ktr_room); (case hu => ktr_units)); intro r9 own9 h9 tk9 F9 N9 D9 hp9; ((obtain ⟨d9, o9, kvs9, er9, eo9, lo9, hd9, hf9⟩ := hp9; subst er9; subst eo9)); (replace D9 := ApartL.of D9); (try simp only [ApartL, OffL, and_true] at D9); (try simp only [List.cons_append, List.nil_append] at N9); (try dsimp only); (try k_sweep); (try k_fold))
  | (k_here; (with_reducible show wpAny _ _ (call (Value.ref 66) _) _ _ _); k_dflt (refine' Spec.use ?B ?F ?X ?N ?T (sign_ok ?sa ?sb ?sc ?sd ?se ?sf) ?P ?D ?hk ?hd ?hu ?_; (case B => k_asm); (case F => k_asm); (case X => k_asm); (case N => k_asm); (case T => k_asm); (case sb => with_reducible assumption); (case sa => with_reducible assumption); (case sd => with_reducible assumption); (case se => with_reducible assumption); (case sf => with_reducible assumption); (case sc => omega); (case P => (first | exact Picks.nil | (refine' Picks.cons ?pp ?pq; (case pp => first | exact Pick.head | exact Pick.tail (Pick.head) | exact Pick.tail (Pick.tail (Pick.head)) | exact Pick.tail (Pick.tail (Pick.tail (Pick.head))) | exact Pick.tail (Pick.tail (Pick.tail (Pick.tail (Pick.head)))) | exact Pick.tail (Pick.tail (Pick.tail (Pick.tail (Pick.tail (Pick.head))))) | exact Pick.tail (Pick.tail (Pick.tail (Pick.tail (Pick.tail (Pick.tail (Pick.head)))))) | exact Pick.tail (Pick.tail (Pick.tail (Pick.tail (Pick.tail (Pick.tail (Pick.tail (Pick.head)))))))); (case pq => first | exact Picks.nil | (refine' Picks.cons ?pp ?pq; (case pp => first | exact Pick.head | exact Pick.tail (Pick.head) | exact Pick.tail (Pick.tail (Pick.head)) | exact Pick.tail (Pick.tail (Pick.tail (Pick.head))) | exact Pick.tail (Pick.tail (Pick.tail (Pick.tail (Pick.head)))) | exact Pick.tail (Pick.tail (Pick.tail (Pick.tail (Pick.tail (Pick.head))))) | exact Pick.tail (Pick.tail (Pick.tail (Pick.tail (Pick.tail (Pick.tail (Pick.head)))))) | exact Pick.tail (Pick.tail (Pick.tail (Pick.tail (Pick.tail (Pick.tail (Pick.tail (Pick.head)))))))); (case pq => first | exact Picks.nil | (refine' Picks.cons ?pp ?pq; (case pp => first | exact Pick.head | exact Pick.tail (Pick.head) | exact Pick.tail (Pick.tail (Pick.head)) | exact Pick.tail (Pick.tail (Pick.tail (Pick.head))) | exact Pick.tail (Pick.tail (Pick.tail (Pick.tail (Pick.head)))) | exact Pick.tail (Pick.tail (Pick.tail (Pick.tail (Pick.tail (Pick.head))))) | exact Pick.tail (Pick.tail (Pick.tail (Pick.tail (Pick.tail (Pick.tail (Pick.head)))))) | exact Pick.tail (Pick.tail (Pick.tail (Pick.tail (Pick.tail (Pick.tail (Pick.tail (Pick.head)))))))); (case pq => exact Picks.nil)))))))); (case D => (first | exact List.forall_mem_nil _ | (refine' apart_cons ?pa ?pb; (case pa => k_all); (case pb => first | exact List.forall_mem_nil _ | (refine' apart_cons ?pa ?pb; (case pa => k_all); (case pb => first | exact List.forall_mem_nil _ | (refine' apart_cons ?pa ?pb; (case pa => k_all); (case pb => exact List.forall_mem_nil _)))))))); (case hk => first | exact rfl | assumption); (case hd => ktr_room); (case hu => ktr_units)); intro r9 own9 h9 tk9 F9 N9 D9 hp9; ((obtain ⟨⟨v9, t9, er9, hs9⟩, vs9, ns9, n9, hi9, hp9, eo9⟩ := hp9; subst er9; subst eo9)); (replace D9 := ApartL.of D9); (try simp only [ApartL, OffL, and_true] at D9); (try simp only [List.cons_append, List.nil_append] at N9); (try dsimp only); (try k_sweep); (try k_fold))
  | (k_here; (with_reducible show wpAny _ _ (call (Value.ref 40) _) _ _ _); k_dflt (refine' Spec.use ?B ?F ?X ?N ?T (octets_law ?sa ?sb) ?P ?D ?hk ?hd ?hu ?_; (case B => k_asm); (case F => k_asm); (case X => k_asm); (case N => k_asm); (case T => k_asm); (case sa => with_reducible assumption); (case sb => with_reducible assumption); (case P => (first | exact Picks.nil | (refine' Picks.cons ?pp ?pq; (case pp => first | exact Pick.head | exact Pick.tail (Pick.head) | exact Pick.tail (Pick.tail (Pick.head)) | exact Pick.tail (Pick.tail (Pick.tail (Pick.head))) | exact Pick.tail (Pick.tail (Pick.tail (Pick.tail (Pick.head)))) | exact Pick.tail (Pick.tail (Pick.tail (Pick.tail (Pick.tail (Pick.head))))) | exact Pick.tail (Pick.tail (Pick.tail (Pick.tail (Pick.tail (Pick.tail (Pick.head)))))) | exact Pick.tail (Pick.tail (Pick.tail (Pick.tail (Pick.tail (Pick.tail (Pick.tail (Pick.head)))))))); (case pq => first | exact Picks.nil | (refine' Picks.cons ?pp ?pq; (case pp => first | exact Pick.head | exact Pick.tail (Pick.head) | exact Pick.tail (Pick.tail (Pick.head)) | exact Pick.tail (Pick.tail (Pick.tail (Pick.head))) | exact Pick.tail (Pick.tail (Pick.tail (Pick.tail (Pick.head)))) | exact Pick.tail (Pick.tail (Pick.tail (Pick.tail (Pick.tail (Pick.head))))) | exact Pick.tail (Pick.tail (Pick.tail (Pick.tail (Pick.tail (Pick.tail (Pick.head)))))) | exact Pick.tail (Pick.tail (Pick.tail (Pick.tail (Pick.tail (Pick.tail (Pick.tail (Pick.head)))))))); (case pq => first | exact Picks.nil | (refine' Picks.cons ?pp ?pq; (case pp => first | exact Pick.head | exact Pick.tail (Pick.head) | exact Pick.tail (Pick.tail (Pick.head)) | exact Pick.tail (Pick.tail (Pick.tail (Pick.head))) | exact Pick.tail (Pick.tail (Pick.tail (Pick.tail (Pick.head)))) | exact Pick.tail (Pick.tail (Pick.tail (Pick.tail (Pick.tail (Pick.head))))) | exact Pick.tail (Pick.tail (Pick.tail (Pick.tail (Pick.tail (Pick.tail (Pick.head)))))) | exact Pick.tail (Pick.tail (Pick.tail (Pick.tail (Pick.tail (Pick.tail (Pick.tail (Pick.head)))))))); (case pq => exact Picks.nil)))))))); (case D => (first | exact List.forall_mem_nil _ | (refine' apart_cons ?pa ?pb; (case pa => k_all); (case pb => first | exact List.forall_mem_nil _ | (refine' apart_cons ?pa ?pb; (case pa => k_all); (case pb => first | exact List.forall_mem_nil _ | (refine' apart_cons ?pa ?pb; (case pa => k_all); (case pb => exact List.forall_mem_nil _)))))))); (case hk => first | exact rfl | assumption); (case hd => ktr_room); (case hu => ktr_units)); intro r9 own9 h9 tk9 F9 N9 D9 hp9; ((obtain ⟨⟨b9, t9, er9, hb9⟩, eo9⟩ := hp9; subst er9; subst eo9)); (replace D9 := ApartL.of D9); (try simp only [ApartL, OffL, and_true] at D9); (try simp only [List.cons_append, List.nil_append] at N9); (try dsimp only); (try k_sweep); (try k_fold))
  | (k_here; (with_reducible show wpAny _ _ (call (Value.ref 71) _) _ _ _); k_dflt (refine' Spec.use ?B ?F ?X ?N ?T (written_ok ?sa ?sb ?sc ?sd ?se ?sf ?sg) ?P ?D ?hk ?hd ?hu ?_; (case B => k_asm); (case F => k_asm); (case X => k_asm); (case N => k_asm); (case T => k_asm); (case sc => with_reducible assumption); (case sa => with_reducible assumption); (case sb => with_reducible assumption); (case sd => omega); (case se => with_reducible assumption); (case sf => with_reducible assumption); (case sg => with_reducible assumption); (case P => (first | exact Picks.nil | (refine' Picks.cons ?pp ?pq; (case pp => first | exact Pick.head | exact Pick.tail (Pick.head) | exact Pick.tail (Pick.tail (Pick.head)) | exact Pick.tail (Pick.tail (Pick.tail (Pick.head))) | exact Pick.tail (Pick.tail (Pick.tail (Pick.tail (Pick.head)))) | exact Pick.tail (Pick.tail (Pick.tail (Pick.tail (Pick.tail (Pick.head))))) | exact Pick.tail (Pick.tail (Pick.tail (Pick.tail (Pick.tail (Pick.tail (Pick.head)))))) | exact Pick.tail (Pick.tail (Pick.tail (Pick.tail (Pick.tail (Pick.tail (Pick.tail (Pick.head)))))))); (case pq => first | exact Picks.nil | (refine' Picks.cons ?pp ?pq; (case pp => first | exact Pick.head | exact Pick.tail (Pick.head) | exact Pick.tail (Pick.tail (Pick.head)) | exact Pick.tail (Pick.tail (Pick.tail (Pick.head))) | exact Pick.tail (Pick.tail (Pick.tail (Pick.tail (Pick.head)))) | exact Pick.tail (Pick.tail (Pick.tail (Pick.tail (Pick.tail (Pick.head))))) | exact Pick.tail (Pick.tail (Pick.tail (Pick.tail (Pick.tail (Pick.tail (Pick.head)))))) | exact Pick.tail (Pick.tail (Pick.tail (Pick.tail (Pick.tail (Pick.tail (Pick.tail (Pick.head)))))))); (case pq => first | exact Picks.nil | (refine' Picks.cons ?pp ?pq; (case pp => first | exact Pick.head | exact Pick.tail (Pick.head) | exact Pick.tail (Pick.tail (Pick.head)) | exact Pick.tail (Pick.tail (Pick.tail (Pick.head))) | exact Pick.tail (Pick.tail (Pick.tail (Pick.tail (Pick.head)))) | exact Pick.tail (Pick.tail (Pick.tail (Pick.tail (Pick.tail (Pick.head))))) | exact Pick.tail (Pick.tail (Pick.tail (Pick.tail (Pick.tail (Pick.tail (Pick.head)))))) | exact Pick.tail (Pick.tail (Pick.tail (Pick.tail (Pick.tail (Pick.tail (Pick.tail (Pick.head)))))))); (case pq => exact Picks.nil)))))))); (case D => (first | exact List.forall_mem_nil _ | (refine' apart_cons ?pa ?pb; (case pa => k_all); (case pb => first | exact List.forall_mem_nil _ | (refine' apart_cons ?pa ?pb; (case pa => k_all); (case pb => first | exact List.forall_mem_nil _ | (refine' apart_cons ?pa ?pb; (case pa => k_all); (case pb => exact List.forall_mem_nil _)))))))); (case hk => first | exact rfl | assumption); (case hd => ktr_room); (case hu => ktr_units)); intro r9 own9 h9 tk9 F9 N9 D9 hp9; ((obtain ⟨⟨b9, t9, er9, hb9⟩, eo9⟩ := hp9; subst er9; subst eo9)); (replace D9 := ApartL.of D9); (try simp only [ApartL, OffL, and_true] at D9); (try simp only [List.cons_append, List.nil_append] at N9); (try dsimp only); (try k_sweep); (try k_fold))
  | (k_here; (with_reducible show wpAny _ _ (call (Value.ref 45) _) _ _ _); k_dflt (refine' Spec.use ?B ?F ?X ?N ?T (back_law ?sa ?sb ?sc) ?P ?D ?hk ?hd ?hu ?_; (case B => k_asm); (case F => k_asm); (case X => k_asm); (case N => k_asm); (case T => k_asm); (case sb => with_reducible assumption); (case sa => with_reducible assumption); (case sc => with_reducible assumption); (case P => (first | exact Picks.nil | (refine' Picks.cons ?pp ?pq; (case pp => first | exact Pick.head | exact Pick.tail (Pick.head) | exact Pick.tail (Pick.tail (Pick.head)) | exact Pick.tail (Pick.tail (Pick.tail (Pick.head))) | exact Pick.tail (Pick.tail (Pick.tail (Pick.tail (Pick.head)))) | exact Pick.tail (Pick.tail (Pick.tail (Pick.tail (Pick.tail (Pick.head))))) | exact Pick.tail (Pick.tail (Pick.tail (Pick.tail (Pick.tail (Pick.tail (Pick.head)))))) | exact Pick.tail (Pick.tail (Pick.tail (Pick.tail (Pick.tail (Pick.tail (Pick.tail (Pick.head)))))))); (case pq => first | exact Picks.nil | (refine' Picks.cons ?pp ?pq; (case pp => first | exact Pick.head | exact Pick.tail (Pick.head) | exact Pick.tail (Pick.tail (Pick.head)) | exact Pick.tail (Pick.tail (Pick.tail (Pick.head))) | exact Pick.tail (Pick.tail (Pick.tail (Pick.tail (Pick.head)))) | exact Pick.tail (Pick.tail (Pick.tail (Pick.tail (Pick.tail (Pick.head))))) | exact Pick.tail (Pick.tail (Pick.tail (Pick.tail (Pick.tail (Pick.tail (Pick.head)))))) | exact Pick.tail (Pick.tail (Pick.tail (Pick.tail (Pick.tail (Pick.tail (Pick.tail (Pick.head)))))))); (case pq => first | exact Picks.nil | (refine' Picks.cons ?pp ?pq; (case pp => first | exact Pick.head | exact Pick.tail (Pick.head) | exact Pick.tail (Pick.tail (Pick.head)) | exact Pick.tail (Pick.tail (Pick.tail (Pick.head))) | exact Pick.tail (Pick.tail (Pick.tail (Pick.tail (Pick.head)))) | exact Pick.tail (Pick.tail (Pick.tail (Pick.tail (Pick.tail (Pick.head))))) | exact Pick.tail (Pick.tail (Pick.tail (Pick.tail (Pick.tail (Pick.tail (Pick.head)))))) | exact Pick.tail (Pick.tail (Pick.tail (Pick.tail (Pick.tail (Pick.tail (Pick.tail (Pick.head)))))))); (case pq => exact Picks.nil)))))))); (case D => (first | exact List.forall_mem_nil _ | (refine' apart_cons ?pa ?pb; (case pa => k_all); (case pb => first | exact List.forall_mem_nil _ | (refine' apart_cons ?pa ?pb; (case pa => k_all); (case pb => first | exact List.forall_mem_nil _ | (refine' apart_cons ?pa ?pb; (case pa => k_all); (case pb => exact List.forall_mem_nil _)))))))); (case hk => first | exact rfl | assumption); (case hd => ktr_room); (case hu => ktr_units)); intro r9 own9 h9 tk9 F9 N9 D9 hp9; ((obtain ⟨⟨t9, er9⟩, eo9⟩ := hp9; subst er9; subst eo9)); (replace D9 := ApartL.of D9); (try simp only [ApartL, OffL, and_true] at D9); (try simp only [List.cons_append, List.nil_append] at N9); (try dsimp only); (try k_sweep); (try k_fold))
  | (k_here; (with_reducible show wpAny _ _ (call (Value.ref 45) _) _ _ _); k_dflt (refine' Spec.use ?B ?F ?X ?N ?T (text_law ?sa ?sb) ?P ?D ?hk ?hd ?hu ?_; (case B => k_asm); (case F => k_asm); (case X => k_asm); (case N => k_asm); (case T => k_asm); (case sa => with_reducible assumption); (case sb => first | exact le_big (by with_reducible assumption) | (rw [rangeKs_length]; decide)); (case P => (first | exact Picks.nil | (refine' Picks.cons ?pp ?pq; (case pp => first | exact Pick.head | exact Pick.tail (Pick.head) | exact Pick.tail (Pick.tail (Pick.head)) | exact Pick.tail (Pick.tail (Pick.tail (Pick.head))) | exact Pick.tail (Pick.tail (Pick.tail (Pick.tail (Pick.head)))) | exact Pick.tail (Pick.tail (Pick.tail (Pick.tail (Pick.tail (Pick.head))))) | exact Pick.tail (Pick.tail (Pick.tail (Pick.tail (Pick.tail (Pick.tail (Pick.head)))))) | exact Pick.tail (Pick.tail (Pick.tail (Pick.tail (Pick.tail (Pick.tail (Pick.tail (Pick.head)))))))); (case pq => first | exact Picks.nil | (refine' Picks.cons ?pp ?pq; (case pp => first | exact Pick.head | exact Pick.tail (Pick.head) | exact Pick.tail (Pick.tail (Pick.head)) | exact Pick.tail (Pick.tail (Pick.tail (Pick.head))) | exact Pick.tail (Pick.tail (Pick.tail (Pick.tail (Pick.head)))) | exact Pick.tail (Pick.tail (Pick.tail (Pick.tail (Pick.tail (Pick.head))))) | exact Pick.tail (Pick.tail (Pick.tail (Pick.tail (Pick.tail (Pick.tail (Pick.head)))))) | exact Pick.tail (Pick.tail (Pick.tail (Pick.tail (Pick.tail (Pick.tail (Pick.tail (Pick.head)))))))); (case pq => first | exact Picks.nil | (refine' Picks.cons ?pp ?pq; (case pp => first | exact Pick.head | exact Pick.tail (Pick.head) | exact Pick.tail (Pick.tail (Pick.head)) | exact Pick.tail (Pick.tail (Pick.tail (Pick.head))) | exact Pick.tail (Pick.tail (Pick.tail (Pick.tail (Pick.head)))) | exact Pick.tail (Pick.tail (Pick.tail (Pick.tail (Pick.tail (Pick.head))))) | exact Pick.tail (Pick.tail (Pick.tail (Pick.tail (Pick.tail (Pick.tail (Pick.head)))))) | exact Pick.tail (Pick.tail (Pick.tail (Pick.tail (Pick.tail (Pick.tail (Pick.tail (Pick.head)))))))); (case pq => exact Picks.nil)))))))); (case D => (first | exact List.forall_mem_nil _ | (refine' apart_cons ?pa ?pb; (case pa => k_all); (case pb => first | exact List.forall_mem_nil _ | (refine' apart_cons ?pa ?pb; (case pa => k_all); (case pb => first | exact List.forall_mem_nil _ | (refine' apart_cons ?pa ?pb; (case pa => k_all); (case pb => exact List.forall_mem_nil _)))))))); (case hk => first | exact rfl | assumption); (case hd => ktr_room); (case hu => ktr_units)); intro r9 own9 h9 tk9 F9 N9 D9 hp9; ((obtain ⟨⟨t9, er9⟩, hnn9, hsz9, eo9⟩ := hp9; subst er9; subst eo9)); (replace D9 := ApartL.of D9); (try simp only [ApartL, OffL, and_true] at D9); (try simp only [List.cons_append, List.nil_append] at N9); (try dsimp only); (try k_sweep); (try k_fold))
  | (k_here; (with_reducible show wpAny _ _ (call (Value.ref 76) _) _ _ _); k_dflt (refine' Spec.useD ?B ?F ?X ?N ?T (lawread_ok ?sa ?sb ?sc ?sd ?se) ?P ?O ?D ?hk ?hd ?hu ?_; (case B => k_asm); (case F => k_asm); (case X => k_asm); (case N => k_asm); (case T => k_asm); (case sa => with_reducible assumption); (case sb => exact le_big (by with_reducible assumption)); (case sc => with_reducible assumption); (case sd => with_reducible assumption); (case se => with_reducible assumption); (case P => (first | exact Picks.nil | (refine' Picks.cons ?pp ?pq; (case pp => first | exact Pick.head | exact Pick.tail (Pick.head) | exact Pick.tail (Pick.tail (Pick.head)) | exact Pick.tail (Pick.tail (Pick.tail (Pick.head))) | exact Pick.tail (Pick.tail (Pick.tail (Pick.tail (Pick.head)))) | exact Pick.tail (Pick.tail (Pick.tail (Pick.tail (Pick.tail (Pick.head))))) | exact Pick.tail (Pick.tail (Pick.tail (Pick.tail (Pick.tail (Pick.tail (Pick.head)))))) | exact Pick.tail (Pick.tail (Pick.tail (Pick.tail (Pick.tail (Pick.tail (Pick.tail (Pick.head)))))))); (case pq => first | exact Picks.nil | (refine' Picks.cons ?pp ?pq; (case pp => first | exact Pick.head | exact Pick.tail (Pick.head) | exact Pick.tail (Pick.tail (Pick.head)) | exact Pick.tail (Pick.tail (Pick.tail (Pick.head))) | exact Pick.tail (Pick.tail (Pick.tail (Pick.tail (Pick.head)))) | exact Pick.tail (Pick.tail (Pick.tail (Pick.tail (Pick.tail (Pick.head))))) | exact Pick.tail (Pick.tail (Pick.tail (Pick.tail (Pick.tail (Pick.tail (Pick.head)))))) | exact Pick.tail (Pick.tail (Pick.tail (Pick.tail (Pick.tail (Pick.tail (Pick.tail (Pick.head)))))))); (case pq => first | exact Picks.nil | (refine' Picks.cons ?pp ?pq; (case pp => first | exact Pick.head | exact Pick.tail (Pick.head) | exact Pick.tail (Pick.tail (Pick.head)) | exact Pick.tail (Pick.tail (Pick.tail (Pick.head))) | exact Pick.tail (Pick.tail (Pick.tail (Pick.tail (Pick.head)))) | exact Pick.tail (Pick.tail (Pick.tail (Pick.tail (Pick.tail (Pick.head))))) | exact Pick.tail (Pick.tail (Pick.tail (Pick.tail (Pick.tail (Pick.tail (Pick.head)))))) | exact Pick.tail (Pick.tail (Pick.tail (Pick.tail (Pick.tail (Pick.tail (Pick.tail (Pick.head)))))))); (case pq => exact Picks.nil)))))))); (case O => with_reducible assumption); (case D => (repeat' (with_reducible first | refine nd_cons_list ?_ | refine nd_cons_lst ?_ | refine nd_cons_cell (by assumption) ?_ | exact nd_nil))); (case hk => first | exact rfl | assumption); (case hd => ktr_room); (case hu => ktr_units)); intro r9 own9 h9 tk9 F9 N9 D9 hp9; ((obtain ⟨D9, us9, n9, er9, hi9, eo9⟩ := hp9; subst er9; subst eo9)); (clear D9); (try simp only [List.cons_append, List.nil_append] at N9); (try dsimp only); (try k_sweep); (try k_fold)))
local macro_rules | `(tactic| walk_at "exec For Name Call cons nil") => `(tactic| (k_here; (with_reducible rename Fr _ _ _ _ => lF'); (with_unfolding_all refine' For_invVF lF' ?k1 ?k2 ?_; (case k1 => exact rfl); (case k2 => exact rfl); k_whole)))
local macro_rules | `(tactic| walk_at "call type:range") => `(tactic| (k_here; (with_reducible show wpAny _ _ (call (Value.type "range") [Value.int _ _]) _ _ _); k_dflt (refine' range1_rows ?k1 ?k2 ?_; (case k1 => k_asm); (case k2 => k_asm)); intro h' tk' t1' u1' v1' hR' F' N' hk'))
local macro_rules | `(tactic| walk_at "eval IfExp") => `(tactic| (k_here; (with_reducible refine IfExp_two ?_)))
local macro_rules | `(tactic| walk_at "TwoPost") => `(tactic| (k_dflt (refine' two_lists ?k1 ?k2 ?_; (case k1 => k_asm); (case k2 => k_asm)); intro l9 us9 cs9 n9 h9 tk9 F9 N9 l8 hi9 hc9; (try k_lt l8); (try k_sweep)))
local macro_rules | `(tactic| walk_at "LpPost") => `(tactic| dsimp only [LpPost])
local macro_rules | `(tactic| walk_at "pyIter ref") => `(tactic| (k_here; (rename IsRange _ _ _ _ _ _ _ _ => rgX); first
  | ((with_unfolding_all refine' lp2 (Str.ofString "pool") (Str.ofString "row") J2 ?F ?N rgX ?z ?nn ?m1 ?m2 ?P ?i ?j ?J rfl ?_ ?_; (case F => k_asm); (case N => k_asm); (case z => exact (Int.toNat_of_nonneg (by omega)).symm); (case nn => omega); (case m1 => rfl); (case m2 => rfl); (case P => (first | exact Picks.nil | (refine' Picks.cons ?pp ?pq; (case pp => first | exact Pick.head | exact Pick.tail (Pick.head) | exact Pick.tail (Pick.tail (Pick.head)) | exact Pick.tail (Pick.tail (Pick.tail (Pick.head))) | exact Pick.tail (Pick.tail (Pick.tail (Pick.tail (Pick.head)))) | exact Pick.tail (Pick.tail (Pick.tail (Pick.tail (Pick.tail (Pick.head))))) | exact Pick.tail (Pick.tail (Pick.tail (Pick.tail (Pick.tail (Pick.tail (Pick.head)))))) | exact Pick.tail (Pick.tail (Pick.tail (Pick.tail (Pick.tail (Pick.tail (Pick.tail (Pick.head)))))))); (case pq => first | exact Picks.nil | (refine' Picks.cons ?pp ?pq; (case pp => first | exact Pick.head | exact Pick.tail (Pick.head) | exact Pick.tail (Pick.tail (Pick.head)) | exact Pick.tail (Pick.tail (Pick.tail (Pick.head))) | exact Pick.tail (Pick.tail (Pick.tail (Pick.tail (Pick.head)))) | exact Pick.tail (Pick.tail (Pick.tail (Pick.tail (Pick.tail (Pick.head))))) | exact Pick.tail (Pick.tail (Pick.tail (Pick.tail (Pick.tail (Pick.tail (Pick.head)))))) | exact Pick.tail (Pick.tail (Pick.tail (Pick.tail (Pick.tail (Pick.tail (Pick.tail (Pick.head)))))))); (case pq => first | exact Picks.nil | (refine' Picks.cons ?pp ?pq; (case pp => first | exact Pick.head | exact Pick.tail (Pick.head) | exact Pick.tail (Pick.tail (Pick.head)) | exact Pick.tail (Pick.tail (Pick.tail (Pick.head))) | exact Pick.tail (Pick.tail (Pick.tail (Pick.tail (Pick.head)))) | exact Pick.tail (Pick.tail (Pick.tail (Pick.tail (Pick.tail (Pick.head))))) | exact Pick.tail (Pick.tail (Pick.tail (Pick.tail (Pick.tail (Pick.tail (Pick.head)))))) | exact Pick.tail (Pick.tail (Pick.tail (Pick.tail (Pick.tail (Pick.tail (Pick.tail (Pick.head)))))))); (case pq => exact Picks.nil)))))))); (case i => with_reducible assumption); (case j => with_reducible assumption); (case J => exact J2.start (by with_reducible assumption) (by with_reducible assumption))); all_goals (first
    | (intro i9 t9 vs9 ns9 k9 us9 cs9 j9 I9 oI9 h9 tk9 hin9 hv9 hu9 hj9 hoff9 F9 N9; (try simp only [OffL, and_true] at hoff9); (have hpo9 := J2.pool hj9); (have hln9 := J2.len hj9); (try clear lF'); (try k_unmd); k_fold)
    | (intro q9 vs9 ns9 k9 us9 cs9 j9 h9 tk9 hv9 hu9 hj9 F9 N9; (have hpo9 := J2.pool hj9); (have hoc9 := J2.octs hj9); (have hln9 := J2.len20 hj9 (by omega)); (try clear lF'); (try dsimp only))))
  | ((with_unfolding_all refine' lp2 (Str.ofString "pool") (Str.ofString "codes") J1 ?F ?N rgX ?z ?nn ?m1 ?m2 ?P ?i ?j ?J rfl ?_ ?_; (case F => k_asm); (case N => k_asm); (case z => exact (Int.toNat_of_nonneg (by omega)).symm); (case nn => omega); (case m1 => rfl); (case m2 => rfl); (case P => (first | exact Picks.nil | (refine' Picks.cons ?pp ?pq; (case pp => first | exact Pick.head | exact Pick.tail (Pick.head) | exact Pick.tail (Pick.tail (Pick.head)) | exact Pick.tail (Pick.tail (Pick.tail (Pick.head))) | exact Pick.tail (Pick.tail (Pick.tail (Pick.tail (Pick.head)))) | exact Pick.tail (Pick.tail (Pick.tail (Pick.tail (Pick.tail (Pick.head))))) | exact Pick.tail (Pick.tail (Pick.tail (Pick.tail (Pick.tail (Pick.tail (Pick.head)))))) | exact Pick.tail (Pick.tail (Pick.tail (Pick.tail (Pick.tail (Pick.tail (Pick.tail (Pick.head)))))))); (case pq => first | exact Picks.nil | (refine' Picks.cons ?pp ?pq; (case pp => first | exact Pick.head | exact Pick.tail (Pick.head) | exact Pick.tail (Pick.tail (Pick.head)) | exact Pick.tail (Pick.tail (Pick.tail (Pick.head))) | exact Pick.tail (Pick.tail (Pick.tail (Pick.tail (Pick.head)))) | exact Pick.tail (Pick.tail (Pick.tail (Pick.tail (Pick.tail (Pick.head))))) | exact Pick.tail (Pick.tail (Pick.tail (Pick.tail (Pick.tail (Pick.tail (Pick.head)))))) | exact Pick.tail (Pick.tail (Pick.tail (Pick.tail (Pick.tail (Pick.tail (Pick.tail (Pick.head)))))))); (case pq => first | exact Picks.nil | (refine' Picks.cons ?pp ?pq; (case pp => first | exact Pick.head | exact Pick.tail (Pick.head) | exact Pick.tail (Pick.tail (Pick.head)) | exact Pick.tail (Pick.tail (Pick.tail (Pick.head))) | exact Pick.tail (Pick.tail (Pick.tail (Pick.tail (Pick.head)))) | exact Pick.tail (Pick.tail (Pick.tail (Pick.tail (Pick.tail (Pick.head))))) | exact Pick.tail (Pick.tail (Pick.tail (Pick.tail (Pick.tail (Pick.tail (Pick.head)))))) | exact Pick.tail (Pick.tail (Pick.tail (Pick.tail (Pick.tail (Pick.tail (Pick.tail (Pick.head)))))))); (case pq => exact Picks.nil)))))))); (case i => with_reducible assumption); (case j => with_reducible assumption); (case J => exact J1.start (by with_reducible assumption) (by with_reducible assumption))); all_goals (first
    | (intro i9 t9 vs9 ns9 k9 us9 cs9 j9 I9 oI9 h9 tk9 hin9 hv9 hu9 hj9 hoff9 F9 N9; (try simp only [OffL, and_true] at hoff9); (have hpo9 := J1.pool hj9); (have hln9 := J1.len hj9); (try clear lF'); (try k_unmd); k_fold)
    | (intro q9 vs9 ns9 k9 us9 cs9 j9 h9 tk9 hv9 hu9 hj9 F9 N9; (have hpo9 := J1.pool hj9); (have hcs9 := J1.signs hj9); (have hln9 := J1.len20 hj9 (by omega)); (try clear lF'); (try dsimp only))))))
local macro_rules | `(tactic| walk_at "LpEnd") => `(tactic| first
  | k_dflt (exact LpEnd.intro _ (by k_asm) ⟨⟨_, _, _, _, _, _, rfl, J1.fin (by with_reducible assumption) (by with_reducible assumption) (by with_reducible assumption) (by with_reducible assumption) (by with_reducible assumption)⟩, (by (intro z h1; first | rfl | (simp [h1]; done) | (simp_all; done)))⟩ (by k_asm) (by k_memK) (by (with_unfolding_all ((try simp only [List.nil_append, List.cons_append]); k_allIn))) (by k_all) (by (first | exact List.forall_mem_nil _ | (with_unfolding_all ((try simp only [List.nil_append, List.cons_append]); k_allIn)))))
  | k_dflt (exact LpEnd.intro _ (by k_asm) ⟨⟨_, _, _, _, _, _, rfl, J2.fin (by with_reducible assumption) (by with_reducible assumption) (by with_reducible assumption) (by with_reducible assumption) (by exact menu4 (by omega) (by omega) _)⟩, (by (intro z h1; first | rfl | (simp [h1]; done) | (simp_all; done)))⟩ (by k_asm) (by k_memK) (by (with_unfolding_all ((try simp only [List.nil_append, List.cons_append]); k_allIn))) (by k_all) (by (first | exact List.forall_mem_nil _ | (with_unfolding_all ((try simp only [List.nil_append, List.cons_append]); k_allIn))))))
local macro_rules | `(tactic| walk_at "call type:bytes") => `(tactic| (k_here; (with_reducible show wpAny _ _ (call (Value.type "bytes") [Value.ref _]) _ _ _); first
  | (k_dflt (refine' KBa.make_K ?kbaF ?kbaN ?kbah ?kbal ?kbai ?kbar ?kban ?_; (case kbaF => k_asm); (case kbaN => k_asm); (case kbah => rfl); (case kbal => exact News.isList (by k_asm) (by k_mem)); (case kbai => with_reducible assumption); (case kbar => with_reducible assumption); (case kban => exact le_bytes (by with_reducible assumption))); intro h' t' k' F' N' hIn9; have hIn9 := KBa.ints_make hIn9)
  | ((rename IsRange _ _ _ _ _ _ _ _ => rgX); k_dflt (refine' octs_range_K (n := 256) ?k1 ?k2 rfl rgX ?k4 ?k5 ?k6 ?_; (case k1 => k_asm); (case k2 => k_asm); (case k4 => decide +kernel); (case k5 => decide +kernel); (case k6 => decide)); intro h' t' k' F' N' hIn9)))
local macro_rules | `(tactic| walk_at "compareOp NotEq bytes bytes") => `(tactic| (k_here; k_dflt (refine' ne_bytes_law ?k1 ?k2 ?_; (case k1 => with_reducible assumption); (case k2 => with_reducible assumption))))
local macro_rules | `(tactic| walk_at "compareOp NotEq str str") => `(tactic| (k_here; k_dflt (refine ne_txt_law ?_)))
local macro_rules | `(tactic| walk_at "compareOp NotEq ref ref") => `(tactic| (k_here; k_dflt (refine' ne_ints_law ?k1 ?k2 ?k3 ?k4 ?k5 ?k6 ?k7 ?_; (case k1 => k_asm); (case k2 => k_mem); (case k3 => k_mem); (case k4 => with_reducible assumption); (case k5 => with_reducible assumption); (case k6 => exact whole_same); (case k7 => units_room))))
local macro_rules | `(tactic| walk_at "compareOp Eq ref ref") => `(tactic| (k_here; k_dflt (refine' eq_ints_law ?k1 ?k2 ?k3 ?k4 ?k5 ?k6 ?k7 ?_; (case k1 => k_asm); (case k2 => k_mem); (case k3 => k_mem); (case k4 => with_reducible assumption); (case k5 => with_reducible assumption); (case k6 => rfl); (case k7 => units_room))))
theorem law_holds : PySem.Challenge.rw_nn0192_01.Holds := by
  refine hd ?_
  w_on
  w_strict (k_go0; (all_goals try k_fold); k_steps)
end

end Mine
theorem PySem.Challenge.cw_nn0192_01_holds : PySem.Challenge.rw_nn0192_01.Holds := by
  exact Mine.law_holds
