import PyProof.Rows.All
import Wide.All
import OpenK.AllK
import Wide.FinOn
import Lean
import PySem.Challenge.RW_rh0202_01
set_option Elab.async false

/-! part LTop -/
section
open PySem PySem.W PyProof.Rows
set_option maxRecDepth 100000
set_option maxHeartbeats 8000000
namespace Mine
open_top hd for PySem.Challenge.rw_rh0202_01
theorem top_off : True := by
  w_top off
  trivial
end Mine
end

/-! part C0 -/
section
set_option maxRecDepth 100000
set_option maxHeartbeats 8000000
namespace Mine
open PySem PySem.W PyProof.Rows PySem.Spec PySem.Calls

abbrev Led := List (Addr × Obj)

/-- a mark that ends a walk -/
def Stop (P : Prop) : Prop := P
theorem Stop.of {P : Prop} (h : Stop P) : P := h
theorem Stop.go {P : Prop} (h : P) : Stop P := h

/-- what a call of one of the text's own functions does, seen from any caller -/
def Gives (w : World) (mean : ExcName → Option Value) (mg mb : Str → Option Value) (D : Nat) (f : Addr) (news : Led) (vs : List Value) (Ret : Value → Led → Prop) : Prop :=
  ∀ (dp un : Nat) (gd : Option (List Code)) (env : Env) (outer : List Env) (A₀ : Around) (base h₀ : Heap) (L : Addr) (m : Str → Option Value) (s : Shared) (Q E : Value → Shared → Prop),
    Below A₀ base outer h₀ → Fr h₀ L s.heap m → (Mine.hd.heap_39 w.params).In h₀ → News h₀ L s.heap news → Top Mine.hd.view_39 (looseW Mine.hd.view_39 [Str.ofString "FIELDS", Str.ofString "KNOWN_ATTRS"]) mean mg mb h₀ →
    env.frame = some L → env.scope.kind = .function → dp + D < recursionLimit → un + 8 * D < cLine →
    (∀ r tl h' tk', (∀ b o, s.heap.get? b = some o → h'.get? b = some o) → Fr h₀ L h' m → News h₀ L h' (tl ++ news) → (∀ p ∈ tl, ∀ q ∈ news, q.1 < p.1) → Ret r tl → Q r { s with heap := h', toks := tk' }) →
    wpAny (model PySem.Challenge.rw_rh0202_01.row.prog w) { handled := none, depth := dp, frames := some (env :: outer), guards := gd, units := un } (call (.ref f) vs) Q E s

section
variable {prog : Program} {w : World} {A₀ A : Around} {s : Shared} {base h₀ : Heap} {outer : List Env} {L : Addr} {m mg mb : Str → Option Value} {env : Env} {news : List (Addr × Obj)} {K : Frag} {p : Program} {loose : List Str} {mean : ExcName → Option Value}
  {R : Result → Shared → Prop} {name qual : Str} {params : Arguments} {body : List Stmt} {scope : Scope} {dV kV doc pm cdv ct oc : Value} {an od : Option Addr} {osl : Array (Option Value)} {f : Addr} {args : Args} {binds : List (Str × Value)}

theorem enterP (B : Below A₀ base outer h₀) (F : Fr h₀ L s.heap m) (X₀ : K.In h₀) (N : News h₀ L s.heap news) (T : Top p loose mean mg mb h₀) (hA : A.frames = some (env :: outer)) (hf : env.frame = some L) (hke : env.scope.kind = .function)
    (ho : K.lookup f = some ⟨oc, od, .func (fnOf name qual params body scope dV kV doc pm an cdv ct), osl⟩) (hcd : codeIn K cdv qual = true) (hroom : A.depth < recursionLimit)
    (hbind : BindsTo s (fnOf name qual params body scope dV kV doc pm an cdv ct) args binds) (hloc : ∀ y ∈ binds, scope.names.lookup y.1 = some .local)
    (h : ∀ g L' h₁, Fr h₀ L g m → Fr g L' h₁ (fun y => binds.reverse.lookup y) → News g L' h₁ news → Below A base (env :: outer) g → K.In g → Top p loose mean mg mb g → GSub s.heap g (news.map (·.1)) → (∀ p ∈ news, p.1 < L') →
      wpAny (model prog w) (A.deeper (envOf qual scope L' f cdv)) (execs body (envOf qual scope L' f cdv))
        (fun fl s' => LeaveK h₀ L m g R (match fl with | .ret v => v | _ => .none) s')
        (fun e s' => wpAny (model prog w) (A.deeper (envOf qual scope L' f cdv)) (leaving (envOf qual scope L' f cdv) e) (fun _ s'' => R (.error e) s'') (fun e' s'' => R (.error e') s'') s')
        { s with heap := h₁, toks := s.toks + binds.length })
    (hco : scope.isCoroutine = false) (hgen : scope.isGenerator = false) (hk : scope.kind = .function)
    (hcell : ∀ x ∈ scope.names, x.2 ≠ .cell) : codeAny (model prog w) A (.call (.ref f) args) R s := by
  obtain ⟨FG, BG, st, lv⟩ := groundX (R := R) B F N hA hf hke
  refine codeAny_call_def (fd := fnX name qual params body scope [] dV kV doc pm an cdv ct) (body := body) (binds := binds) hroom ((X₀.keeps F.keep) _ _ ho) rfl (T.nolimit.keeps F.keep) (codeRec_of (X₀.keeps F.keep) hcd) rfl hbind hcell hloc (fun h₁ hns hk₁ => ?_) hco hgen hk
  exact wpAny_mono (h _ s.heap.objs.size h₁ FG ⟨hns, fun b o e => hk₁ b o (of_hideAll _ e), Nat.le_of_eq (hideAll_size _ _)⟩
    (fun p hp => ⟨hk₁ _ _ (N p hp).1, Nat.ne_of_lt (Heap.lt_size (N p hp).1), hideAll_none _ (List.mem_map_of_mem hp)⟩) BG (X₀.keeps st) (T.keeps st) (fun b o e n => hideAll_get _ e n) (fun p hp => Heap.lt_size (N p hp).1)) (fun fl s' hl => lv _ _ hl) fun _ _ y => y

theorem enterC (B : Below A₀ base outer h₀) (F : Fr h₀ L s.heap m) (X₀ : K.In h₀) (N : News h₀ L s.heap news) (T : Top p loose mean mg mb h₀) (hA : A.frames = some (env :: outer)) (hf : env.frame = some L) (hke : env.scope.kind = .function)
    (ho : K.lookup f = some ⟨oc, od, .func (fnOf name qual params body scope dV kV doc pm an cdv ct), osl⟩) (hcd : codeIn K cdv qual = true) (hroom : A.depth < recursionLimit)
    (hbind : BindsTo s (fnOf name qual params body scope dV kV doc pm an cdv ct) args binds) (hkind : (binds.all fun y => scope.names.lookup y.1 == some .local || scope.names.lookup y.1 == some .cell) = true)
    (hnd : ((cellsFrom 0 scope.names []).map (·.1)).Nodup)
    (h : ∀ g L' h₁ tk cells, Fr h₀ L g m → Fr g L' h₁ (bindL (envOfC qual scope L' f cdv).kindOf binds fun _ => none) → News g L' h₁ (cells ++ news) →
      CellsAre (bindC (envOfC qual scope L' f cdv).kindOf binds fun _ => none) (cellsFrom (L' + 1) scope.names []) cells → Below A base (env :: outer) g → K.In g → Top p loose mean mg mb g → GSub s.heap g (news.map (·.1)) → (∀ p ∈ news, p.1 < L') →
      wpAny (model prog w) (A.deeper (envOfC qual scope L' f cdv)) (execs body (envOfC qual scope L' f cdv))
        (fun fl s' => LeaveK h₀ L m g R (match fl with | .ret v => v | _ => .none) s')
        (fun e s' => wpAny (model prog w) (A.deeper (envOfC qual scope L' f cdv)) (leaving (envOfC qual scope L' f cdv) e) (fun _ s'' => R (.error e) s'') (fun e' s'' => R (.error e') s'') s')
        { s with heap := h₁, toks := tk })
    (hco : scope.isCoroutine = false) (hgen : scope.isGenerator = false) (hk : scope.kind = .function) : codeAny (model prog w) A (.call (.ref f) args) R s := by
  obtain ⟨FG, BG, st, lv⟩ := groundX (R := R) B F N hA hf hke
  refine codeAny_call_function hroom ((X₀.keeps F.keep) _ _ ho) rfl hco hgen rfl (codeRec_of (X₀.keeps F.keep) hcd) (hbind _ _ _ _ ?_)
  refine wpAny_newFunctionEnv_cells hk (kindsX hkind _) fun env' he' s' x => ?_
  subst he'
  refine ⟨(T.nolimit.keeps F.keep).keeps x.toInCall.keep, codeAny_func ?_⟩
  obtain ⟨h₁, tk, rfl, _⟩ := x.done
  have hk₁ := x.toInCall.keep
  obtain ⟨cells, NC, Y⟩ := Cl.news (h₀ := s.heap) (Nat.le_refl _) fun n c hm => ⟨x.cell n c (lookup_of_mem_nodup (cellsFrom_names scope.names 0 (s.heap.objs.size + 1) [] [] rfl ▸ hnd) hm), x.above n c hm⟩
  refine wpAny_mono (h _ s.heap.objs.size h₁ tk cells FG ⟨x.toInCall.ns, fun b o e => hk₁ b o (of_hideAll _ e), Nat.le_of_eq (hideAll_size _ _)⟩ (fun p hp => ?_) Y BG (X₀.keeps st) (T.keeps st) (fun b o e n => hideAll_get _ e n) (fun p hp => Heap.lt_size (N p hp).1)) (fun fl s' hl => lv _ _ hl) fun _ _ y => y
  rcases List.mem_append.mp hp with hp | hp
  · refine ⟨(NC p hp).1, (NC p hp).2.1, ?_⟩
    cases q : (hideAll s.heap (news.map (·.1))).get? p.1 with
    | none => rfl
    | some o => have := of_hideAll _ q; rw [(NC p hp).2.2] at this; cases this
  · exact ⟨hk₁ _ _ (N p hp).1, Nat.ne_of_lt (Heap.lt_size (N p hp).1), hideAll_none _ (List.mem_map_of_mem hp)⟩
end

/-- the end of a contract's walk -/
theorem give {Q : Value → Shared → Prop} {Ret : Value → Led → Prop} {s : Shared} {h₀ g : Heap} {L L' : Addr} {m m' : Str → Option Value} {news all : Led} {r : Value} {h' : Heap} {tk : Nat}
    (hret : ∀ r tl h' tk', (∀ b o, s.heap.get? b = some o → h'.get? b = some o) → Fr h₀ L h' m → News h₀ L h' (tl ++ news) → (∀ p ∈ tl, ∀ q ∈ news, q.1 < p.1) → Ret r tl → Q r { s with heap := h', toks := tk' })
    (N : News h₀ L s.heap news) (kG : GSub s.heap g (news.map (·.1))) (F' : Fr g L' h' m') (N' : News g L' h' all) (kF : Fr h₀ L h' m) (kN : News h₀ L h' all) (tl : Led)
    (sub : ∀ p ∈ tl ++ news, p ∈ all) (lt : ∀ p ∈ tl, ∀ q ∈ news, q.1 < p.1) (hr : Ret r tl) : Q r { s with heap := h', toks := tk } :=
  hret r tl h' tk (elt_after (InElt.start _) kG N F' N' fun p hp => sub p (List.mem_append_right _ hp)) kF (fun p hp => kN p (sub p hp)) lt hr

/-- what can be walked over: its length and what its items are -/
inductive Src (prog : Program) (w : World) (h : Heap) : Value → Nat → (Nat → Value → Prop) → Prop
  | list {a : Addr} {its : Array Value} : h.IsList a its → Src prog w h (.ref a) its.size (fun i v => its[i]? = some v)
  | tuple {a : Addr} {its : Array Value} : h.IsTuple a its → Src prog w h (.ref a) its.size (fun i v => its[i]? = some v)
  | range {r : Addr} {a b c : Int} {t u v : Tok} {n : Nat} : IsRange h r a b c t u v → Builtin.Range.small a b c = true → Builtin.Range.rangeSize a b c = (n : Int) → Src prog w h (.ref r) n (fun i v => i < n ∧ ∃ t, v = .int (a + (i : Int) * c) t)
  | dict {K : Type} [DecidableEq K] {knd : KeyKind prog w K} {d : Addr} {kvs : List (K × Value)} : h.DictOf knd d kvs → (d == sysModules) = false → Src prog w h (.ref d) kvs.length (fun i v => ∃ k x, kvs[i]? = some (k, x) ∧ knd.is k v = true)

section
variable {prog : Program} {w : World} {A : Around} {E : Value → Shared → Prop} {s : Shared}

theorem src_iter {xv : Value} {n : Nat} {P : Nat → Value → Prop} {Q : Value → Shared → Prop} (hh : A.handled = none) (S : Src prog w s.heap xv n P)
    (h : ∀ fp St oI, Walks prog w A s.heap.objs.size fp [s.heap.objs.size] n P St → St 0 (s.heap.push oI) → (∀ b ∈ fp, b < (s.heap.push oI).objs.size) → Q (.ref s.heap.objs.size) { s with heap := s.heap.push oI }) :
    wpAny (model prog w) A (pyIter xv) Q E s := by
  have two : ∀ {a : Addr} {oI : Obj}, a < s.heap.objs.size → ∀ b ∈ [s.heap.objs.size, a], b < (s.heap.push oI).objs.size := fun ha b hb => by
    rw [Heap.size_push]
    rcases List.mem_cons.mp hb with rfl | hb
    · exact Nat.lt_succ_self _
    · rw [List.mem_singleton.mp hb]; exact Nat.lt_succ_of_lt ha
  cases S with
  | list hl =>
    have hlt := (show _ < s.heap.objs.size by obtain ⟨_, e, _⟩ := hl; exact Heap.lt_size e)
    exact wpAny_pyIter_list hl (h _ _ _ (Walks.list hh _ _ (Nat.ne_of_lt hlt) _) ⟨⟨_, Heap.get?_push_size _ rfl, rfl, rfl⟩, hl.push _⟩ (two hlt))
  | tuple hl =>
    have hlt := (show _ < s.heap.objs.size by obtain ⟨_, e, _⟩ := hl; exact Heap.lt_size e)
    exact wpAny_pyIter_tuple hl (h _ _ _ (Walks.tuple hh _ _ (Nat.ne_of_lt hlt) _) ⟨⟨_, Heap.get?_push_size _ rfl, rfl, rfl⟩, hl.at fun o e => Heap.get?_push_of_some _ e⟩ (two hlt))
  | @range r a b c t u v n hr hsm hn =>
    refine wpAny_pyIter_range hr hsm (h _ _ _ (Walks.range hh _ a c n).bound ?_ ?_)
    · show IsRangeIter _ _ _ _ _
      rw [hn]; simpa using Heap.get?_push_size _ rfl
    · intro b hb
      rw [Heap.size_push, List.mem_singleton.mp hb]; exact Nat.lt_succ_self _
  | dict hd lo =>
    obtain ⟨ep, hD⟩ := hd.dictAt
    exact wpAny_pyIter_dict lo hD (h _ _ _ (Walks.dictKeys hh _ _ (Nat.ne_of_lt hD.lt_size) _ ep) ⟨⟨_, Heap.get?_push_size _ rfl, rfl, rfl⟩, hD.push _⟩ (two hD.lt_size))

theorem up_of {s₁ : Shared} {oI : Obj} {s₃ : Heap} (hk : ∀ b o, b ∉ [s₁.heap.objs.size] → (s₁.heap.push oI).get? b = some o → s₃.get? b = some o) : ∀ b o, s₁.heap.get? b = some o → s₃.get? b = some o :=
  fun b o e => hk b o (fun hm => by rw [List.mem_singleton.mp hm] at e; exact Nat.lt_irrefl _ (Heap.lt_size e)) (Heap.get?_push_of_some _ e)

/-- the tests of a clause, as one word -/
abbrev testsAt (ifs : List Expr) (cenv : Env) : Sem Bool := forIn ifs true fun c r => if r = true then do let ok ← isTrue c cenv (eval c cenv); pure (ForInStep.yield ok) else pure (ForInStep.yield r)

variable {h₀ : Heap} {L : Addr} {m : Str → Option Value} {env : Env}

theorem new_of {s₁ : Shared} {oI : Obj} {a : Addr} (ha : (s₁.heap.push oI).objs.size ≤ a) : s₁.heap.get? a = none := by
  cases e : s₁.heap.get? a with
  | none => rfl
  | some o =>
    rw [Heap.size_push] at ha
    exact absurd (Nat.lt_of_lt_of_le (Heap.lt_size e) (Nat.le_of_succ_le ha)) (Nat.lt_irrefl _)
theorem none_of_push {h : Heap} {oI : Obj} {a : Addr} (e : (h.push oI).get? a = none) : h.get? a = none := by
  cases q : h.get? a with
  | none => rfl
  | some o => rw [Heap.get?_push_of_some _ q] at e; cases e
theorem ne_of_new {h : Heap} {a b : Addr} {o : Obj} (ea : h.get? a = none) (eb : h.get? b = some o) : b ≠ a := fun e => by rw [e, ea] at eb; cases eb
theorem none_keep {h₀ h : Heap} {a : Addr} (k : ∀ b o, h₀.get? b = some o → h.get? b = some o) (e : h.get? a = none) : h₀.get? a = none := by
  cases q : h₀.get? a with
  | none => rfl
  | some o => rw [k _ _ q] at e; cases e
theorem Fr.live (F : Fr h₀ L h m) : ∃ o, h.get? L = some o := let ⟨o, _, _, e, _⟩ := F.ns; ⟨o, e⟩
theorem news_new {h' : Heap} {news : Led} {D : Addr} {oD : Obj} {h₁ : Heap} (F : Fr h₀ L h₁ m) (N : News h₀ L h₁ news) (up : ∀ b o, h₁.get? b = some o → h'.get? b = some o) (hD : h₁.get? D = none) (e : h'.get? D = some oD) :
    News h₀ L h' ((D, oD) :: news) := fun p hp => by
  rcases List.mem_cons.mp hp with rfl | hp
  · obtain ⟨o, hL⟩ := Fr.live F
    exact ⟨e, Ne.symm (ne_of_new hD hL), none_keep F.keep hD⟩
  · exact ⟨up _ _ (N p hp).1, (N p hp).2⟩

/-- what is asked of a quiet list comprehension behind its source -/
inductive LcGo (prog : Program) (w : World) (A : Around) (h₀ : Heap) (L : Addr) (m : Str → Option Value) (env : Env) (elt : Expr) (x : Str) (ifs : List Expr) (scope : Scope) (cl : List (Str × Addr)) (p : Value → Bool) (Fy : Value → Value → Prop) (Q : Value → Shared → Prop) (xv : Value) (s₁ : Shared) : Prop
  | mk (n : Nat) (P : Nat → Value → Prop) (news : Led) : Src prog w s₁.heap xv n P → n ≤ sizeLine → Fr h₀ L s₁.heap m → News h₀ L s₁.heap news → (∀ C oC i v m₂ (s₃ : Shared) E', P i v → LCg.NsObj oC m₂ → m₂ x = some v → (∀ b o, s₁.heap.get? b = some o → s₃.heap.get? b = some o) → Fr h₀ L s₃.heap m → News h₀ L s₃.heap ((C, oC) :: news) →
        wpAny (model prog w) A (testsAt ifs (compEnvC scope cl C env)) (fun ok s₄ => ok = p v ∧ Keeps s₃ s₄) E' s₃) → (∀ C oC i v m₂ (s₃ : Shared) E', P i v → p v = true → LCg.NsObj oC m₂ → m₂ x = some v → (∀ b o, s₁.heap.get? b = some o → s₃.heap.get? b = some o) → Fr h₀ L s₃.heap m → News h₀ L s₃.heap ((C, oC) :: news) →
        wpAny (model prog w) A (eval elt (compEnvC scope cl C env)) (fun y s₄ => Fy v y ∧ Keeps s₃ s₄) E' s₃) → (∀ D k ys (vs : List Value) h tk, vs.length = n → (∀ (j : Nat) v, vs[j]? = some v → P j v) → Paired Fy (vs.filter p) ys → (∀ b o, s₁.heap.get? b = some o → h.get? b = some o) → Fr h₀ L h m → News h₀ L h ((D, listOf ys.toArray k) :: news) →
        (∀ q ∈ news, q.1 ≠ D) → Q (.ref D) { s₁ with heap := h, toks := tk }) → LcGo prog w A h₀ L m env elt x ifs scope cl p Fy Q xv s₁

/-- a list comprehension whose elements are plain values and change nothing that stands -/
theorem lc_quiet {elt iter : Expr} {x : Str} {px : Pos} {ifs : List Expr} {scope : Scope} {cl : List (Str × Addr)} {pos : Pos} {Q : Value → Shared → Prop} (F₀ : Fr h₀ L s.heap m) (p : Value → Bool) (Fy : Value → Value → Prop)
    (hh : A.handled = none) (hclos : closureFor scope env = pure cl) (hcell : ∀ y ∈ scope.names, y.2 ≠ .cell) (hkind : scope.kind = .function)
    (hnames : ∀ y ∈ scope.names, y.2 = .local → scope.names.lookup y.1 = some .local) (hx : scope.names.lookup x = some .local)
    (h : wpAny (model prog w) A (eval iter env) (LcGo prog w A h₀ L m env elt x ifs scope cl p Fy Q) E s)
    (hs : ∀ x, foldedSetIterable iter env x = pure x := by intro _; rfl) :
    wpAny (model prog w) A (eval (.ListComp elt [⟨.Name x px, iter, ifs, 0⟩] scope pos) env) Q E s := by
  refine wpAny_ListComp_free p Fy hclos hcell hkind hnames hx (wpAny_mono h (fun xv s₁ h₁ => ?_) fun _ _ e => e) hs
  obtain ⟨n, P, news, S, hsz, F, N, ht, he, hQ⟩ := h₁
  refine src_iter hh S fun fp St oI W hst hfp => ⟨_, fp, _, n, P, St, rfl, W, hsz, hst, hfp, ⟨?_, ?_⟩, ?_⟩
  · intro C i v s₃ m₃ E' hC hP hn hm hk htk
    obtain ⟨oC, eC, nC⟩ := LCg.ns_obj hn
    have up := up_of hk
    exact ht C oC i v m₃ s₃ E' hP nC hm up (F.keeps up) (news_new F N up (new_of hC) eC)
  · intro C i v s₃ m₃ E' hC hP hp hn hm hk htk
    obtain ⟨oC, eC, nC⟩ := LCg.ns_obj hn
    have up := up_of hk
    exact he C oC i v m₃ s₃ E' hP hp nC hm up (F.keeps up) (news_new F N up (new_of hC) eC)
  · intro D h' tk ys vs hD _ hpl hlen hP hF hk
    obtain ⟨k, eD⟩ := hpl
    have up := up_of hk
    have hD' := none_of_push hD
    have N' := news_new F N up hD' eD
    obtain ⟨l⟩ := ys
    exact hQ D k l vs h' tk hlen hP hF up (F.keeps up) N' fun q hq => ne_of_new hD' (N q hq).1
end

theorem keeps_self {s : Shared} : Keeps s s := ⟨s.heap, s.toks, rfl, fun _ _ e => e⟩
theorem keeps_toks {s : Shared} {tk : Nat} : Keeps s { s with toks := tk } := ⟨s.heap, tk, rfl, fun _ _ e => e⟩
theorem keeps_heap {s : Shared} {h : Heap} {tk : Nat} (k : ∀ b o, s.heap.get? b = some o → h.get? b = some o) : Keeps s { s with heap := h, toks := tk } := ⟨h, tk, rfl, k⟩


theorem ints_of_paired (f : Int → Int) (g : Nat → Int) : ∀ {vs ys : List Value} (o : Nat), Paired (fun v y => ∃ k t u, v = Value.int k t ∧ y = Value.int (f k) u) vs ys → (∀ (j : Nat) v, vs[j]? = some v → ∃ t, v = Value.int (g (o + j)) t) →
    IntsAre ys ((List.range' o vs.length).map fun j => f (g j))
  | _, _, _, .nil, _ => .nil
  | v :: vs, y :: ys, o, .cons hv h, H => by
    obtain ⟨k, t, u, rfl, rfl⟩ := hv
    obtain ⟨t', e⟩ := H 0 _ rfl
    cases e
    exact IntsAre.cons _ _ (ints_of_paired f g (o + 1) h fun j v hj => by
      obtain ⟨t, e⟩ := H (j + 1) v (by simpa using hj)
      exact ⟨t, by rw [e, show o + (j + 1) = o + 1 + j from Nat.add_right_comm o j 1]⟩)

theorem filter_all (vs : List Value) : vs.filter (fun _ => true) = vs := by simp

theorem nat_and_255 (x : Nat) : x &&& 255 = x % 256 := Nat.and_two_pow_sub_one_eq_mod x 8
theorem bitAnd_255 {x : Int} (h : 0 ≤ x) : Builtin.bitAnd x 255 = x % 256 := by
  rw [bitAnd_pp h (by decide)]
  show ((x.toNat &&& 255 : Nat) : Int) = _
  rw [nat_and_255]
  exact (Int.natCast_emod x.toNat 256).trans (congrArg (· % 256) (Int.toNat_of_nonneg h))

/-- big-endian octets of a number, as ints -/
def be (n : Int) : Nat → List Int
  | 1 => [n]
  | 2 => [n / 256, n % 256]
  | _ => [n / 16777216, n / 65536 % 256, n / 256 % 256, n % 256]


/-- a contract, put to use -/
theorem use {w : World} {mean : ExcName → Option Value} {mg mb : Str → Option Value} {D : Nat} {f : Addr} {news : Led} {vs : List Value} {Ret : Value → Led → Prop} (C : Gives w mean mg mb D f news vs Ret)
    {dp un : Nat} {gd : Option (List Code)} {env : Env} {outer : List Env} {A₀ : Around} {base h₀ : Heap} {L : Addr} {m : Str → Option Value} {s : Shared} {Q E : Value → Shared → Prop}
    (B : Below A₀ base outer h₀) (F : Fr h₀ L s.heap m) (X : (Mine.hd.heap_39 w.params).In h₀) (N : News h₀ L s.heap news) (T : Top Mine.hd.view_39 (looseW Mine.hd.view_39 [Str.ofString "FIELDS", Str.ofString "KNOWN_ATTRS"]) mean mg mb h₀)
    (hf : env.frame = some L) (hk : env.scope.kind = .function) (hd : dp + D < recursionLimit) (hu : un + 8 * D < cLine)
    (ret : ∀ r tl h' tk', (∀ b o, s.heap.get? b = some o → h'.get? b = some o) → Fr h₀ L h' m → News h₀ L h' (tl ++ news) → (∀ p ∈ tl, ∀ q ∈ news, q.1 < p.1) → Ret r tl → Q r { s with heap := h', toks := tk' }) :
    wpAny (model PySem.Challenge.rw_rh0202_01.row.prog w) { handled := none, depth := dp, frames := some (env :: outer), guards := gd, units := un } (call (.ref f) vs) Q E s :=
  C dp un gd env outer A₀ base h₀ L m s Q E B F X N T hf hk hd hu ret

theorem room_in {dp D d R : Nat} (h : dp + D < R) (e : d + 1 ≤ D) : dp + 1 + d < R :=
  Nat.lt_of_le_of_lt (Nat.le_trans (Nat.le_of_eq (Nat.add_right_comm dp 1 d)) (Nat.add_le_add_left e dp)) h
theorem units_in {un D d R : Nat} (h : un + 8 * D < R) (e : 8 * d + 3 ≤ 8 * D) : un + 3 + 8 * d < R :=
  Nat.lt_of_le_of_lt (Nat.le_trans (Nat.le_of_eq (Nat.add_right_comm un 3 (8 * d))) (Nat.add_le_add_left e un)) h
theorem units_eq {un D R : Nat} (h : un + 8 * D < R) (e : 68 ≤ 8 * D) : un + 3 + 1 + 64 < R := Nat.lt_of_le_of_lt (Nat.add_le_add_left e un) h
theorem units_ne {un D R : Nat} (h : un + 8 * D < R) (e : 67 ≤ 8 * D) : un + 3 + 64 < R := Nat.lt_of_le_of_lt (Nat.add_le_add_left e un) h
theorem le_size {a b : Nat} (h : a ≤ b) (e : b ≤ 16777216) : a ≤ sizeLine := Nat.le_trans h (sizeLine_eq ▸ e)
/-- `omega` for the small ones, at a small price -/
theorem up1 {c : Int} (h : 0 ≤ c) : 0 ≤ c + 1 := Int.add_nonneg h (by decide)
theorem up2 {c : Int} (h : 0 ≤ c) : 0 ≤ c + 1 + 1 := up1 (up1 h)
theorem shift_add {i k n : Nat} (h : i + (k + 1) = n) : i + 1 + k = n := (Nat.add_right_comm i 1 k).trans h
theorem le_of_not {a b j : Nat} (e : a = b) (h : ¬ j < a) : b ≤ j := e ▸ Nat.le_of_not_lt h
theorem same_list {us vs : List Value} (hlen : us.length = vs.length) (h : ∀ (j : Nat) v, us[j]? = some v → vs.toArray[j]? = some v) : us = vs := by
  refine List.ext_getElem? fun j => ?_
  cases e : us[j]? with
  | some v => exact (List.getElem?_toArray (xs := vs)).symm.trans (h j v e) |>.symm
  | none => exact (List.getElem?_eq_none (le_of_not hlen (Nat.not_lt.mpr (List.getElem?_eq_none_iff.mp e)))).symm
theorem pick1 {a b : Nat} {P : Prop} (h : b < a ∧ P) : a ≠ b := Nat.ne_of_gt h.1
theorem pick2 {a b c1 : Nat} {P : Prop} (h : c1 < a ∧ b < a ∧ P) : a ≠ b := Nat.ne_of_gt h.2.1
theorem pick3 {a b c1 c2 : Nat} {P : Prop} (h : c1 < a ∧ c2 < a ∧ b < a ∧ P) : a ≠ b := Nat.ne_of_gt h.2.2.1
theorem pick4 {a b c1 c2 c3 : Nat} {P : Prop} (h : c1 < a ∧ c2 < a ∧ c3 < a ∧ b < a ∧ P) : a ≠ b := Nat.ne_of_gt h.2.2.2.1
theorem pick5 {a b c1 c2 c3 c4 : Nat} {P : Prop} (h : c1 < a ∧ c2 < a ∧ c3 < a ∧ c4 < a ∧ b < a ∧ P) : a ≠ b := Nat.ne_of_gt h.2.2.2.2.1
theorem pick6 {a b c1 c2 c3 c4 c5 : Nat} {P : Prop} (h : c1 < a ∧ c2 < a ∧ c3 < a ∧ c4 < a ∧ c5 < a ∧ b < a ∧ P) : a ≠ b := Nat.ne_of_gt h.2.2.2.2.2.1
theorem pick7 {a b c1 c2 c3 c4 c5 c6 : Nat} {P : Prop} (h : c1 < a ∧ c2 < a ∧ c3 < a ∧ c4 < a ∧ c5 < a ∧ c6 < a ∧ b < a ∧ P) : a ≠ b := Nat.ne_of_gt h.2.2.2.2.2.2.1
theorem pick8 {a b c1 c2 c3 c4 c5 c6 c7 : Nat} {P : Prop} (h : c1 < a ∧ c2 < a ∧ c3 < a ∧ c4 < a ∧ c5 < a ∧ c6 < a ∧ c7 < a ∧ b < a ∧ P) : a ≠ b := Nat.ne_of_gt h.2.2.2.2.2.2.2.1
theorem gt1 {a b : Nat} {P : Prop} (h : b < a ∧ P) : b < a := h.1
theorem gt2 {a b c1 : Nat} {P : Prop} (h : c1 < a ∧ b < a ∧ P) : b < a := h.2.1
theorem gt3 {a b c1 c2 : Nat} {P : Prop} (h : c1 < a ∧ c2 < a ∧ b < a ∧ P) : b < a := h.2.2.1
theorem gt4 {a b c1 c2 c3 : Nat} {P : Prop} (h : c1 < a ∧ c2 < a ∧ c3 < a ∧ b < a ∧ P) : b < a := h.2.2.2.1
theorem gt5 {a b c1 c2 c3 c4 : Nat} {P : Prop} (h : c1 < a ∧ c2 < a ∧ c3 < a ∧ c4 < a ∧ b < a ∧ P) : b < a := h.2.2.2.2.1
theorem gt6 {a b c1 c2 c3 c4 c5 : Nat} {P : Prop} (h : c1 < a ∧ c2 < a ∧ c3 < a ∧ c4 < a ∧ c5 < a ∧ b < a ∧ P) : b < a := h.2.2.2.2.2.1
theorem gt7 {a b c1 c2 c3 c4 c5 c6 : Nat} {P : Prop} (h : c1 < a ∧ c2 < a ∧ c3 < a ∧ c4 < a ∧ c5 < a ∧ c6 < a ∧ b < a ∧ P) : b < a := h.2.2.2.2.2.2.1
theorem gt8 {a b c1 c2 c3 c4 c5 c6 c7 : Nat} {P : Prop} (h : c1 < a ∧ c2 < a ∧ c3 < a ∧ c4 < a ∧ c5 < a ∧ c6 < a ∧ c7 < a ∧ b < a ∧ P) : b < a := h.2.2.2.2.2.2.2.1
theorem lt_of_shift {i k n : Nat} (h : i + (k + 1) = n) : i < n := h ▸ Nat.lt_add_of_pos_right (Nat.succ_pos k)
theorem room_at {dp D R : Nat} (h : dp + D < R) : dp < R := Nat.lt_of_le_of_lt (Nat.le_add_right _ _) h
end Mine
end

section
open PySem PySem.W PyProof.Rows PySem.Spec PySem.Calls
open Mine

/-! part C1 -/
section
set_option maxRecDepth 100000
set_option maxHeartbeats 8000000
namespace Mine
open PySem PySem.W PyProof.Rows PySem.Spec PySem.Calls



/-- a result of bytes -/
inductive BytesRet (l : List Int) : Value → Led → Prop
  | mk (l' : List Int) (t : Tok) (e : l' = l) : BytesRet l (.bytes (byteArr l') t) []
/-- a contract whose result is bytes, put to use -/
theorem use_bytes {w : World} {mean : ExcName → Option Value} {mg mb : Str → Option Value} {D : Nat} {f : Addr} {news : Led} {vs : List Value} {l : List Int} (C : Gives w mean mg mb D f news vs (BytesRet l))
    {dp un : Nat} {gd : Option (List Code)} {env : Env} {outer : List Env} {A₀ : Around} {base h₀ : Heap} {L : Addr} {m : Str → Option Value} {s : Shared} {Q E : Value → Shared → Prop}
    (B : Below A₀ base outer h₀) (F : Fr h₀ L s.heap m) (X : (Mine.hd.heap_39 w.params).In h₀) (N : News h₀ L s.heap news) (T : Top Mine.hd.view_39 (looseW Mine.hd.view_39 [Str.ofString "FIELDS", Str.ofString "KNOWN_ATTRS"]) mean mg mb h₀)
    (hf : env.frame = some L) (hk : env.scope.kind = .function) (hd : dp + D < recursionLimit) (hu : un + 8 * D < cLine)
    (ret : ∀ t h' tk', (∀ b o, s.heap.get? b = some o → h'.get? b = some o) → Fr h₀ L h' m → News h₀ L h' news → Q (.bytes (byteArr l) t) { s with heap := h', toks := tk' }) :
    wpAny (model PySem.Challenge.rw_rh0202_01.row.prog w) { handled := none, depth := dp, frames := some (env :: outer), guards := gd, units := un } (call (.ref f) vs) Q E s :=
  use C B F X N T hf hk hd hu fun r tl h' tk' up F N _ e => by
    cases e with
    | mk l' t e => subst e; exact ret t h' tk' up F N

variable {w : World} {mean : ExcName → Option Value} {mg mb : Str → Option Value}

def FyNum (n : Int) (v y : Value) : Prop := ∃ k t u, v = .int k t ∧ y = .int (Builtin.bitAnd (n.fdiv (2 ^ (8 * k).toNat)) 255) u

local macro_rules | `(tactic| walk_at "eval ListComp") => `(tactic| refine Stop.of ?_)
local macro_rules | `(tactic| walk_at "LcGo") => `(tactic| refine Stop.of ?_)
local macro_rules | `(tactic| walk_at "call type:bytes") => `(tactic| refine Stop.of ?_)

theorem octet {n d : Int} (h0 : 0 ≤ n) (hd : 0 ≤ d) : Builtin.bitAnd (n.fdiv d) 255 = n / d % 256 := by
  rw [Int.fdiv_eq_ediv_of_nonneg _ hd, bitAnd_255 (Int.ediv_nonneg h0 hd)]
theorem octet_top {n d : Int} (h0 : 0 ≤ n) (hd : 0 < d) (h1 : n < 256 * d) : Builtin.bitAnd (n.fdiv d) 255 = n / d ∧ 0 ≤ n / d ∧ n / d < 256 :=
  have a := Int.ediv_nonneg h0 (Int.le_of_lt hd)
  have b := Int.ediv_lt_of_lt_mul hd h1
  ⟨(octet h0 (Int.le_of_lt hd)).trans (Int.emod_eq_of_lt a b), a, b⟩
theorem octet_low {n : Int} (h0 : 0 ≤ n) : Builtin.bitAnd (n.fdiv 1) 255 = n % 256 := (octet h0 (by decide)).trans (congrArg (· % 256) (Int.ediv_one n))
theorem mod_b (x : Int) : 0 ≤ x % 256 ∧ x % 256 < 256 := ⟨Int.emod_nonneg _ (by decide), Int.emod_lt_of_pos _ (by decide)⟩
theorem fdiv_none {n d : Int} (h0 : 0 ≤ n) (h1 : n < d) : n.fdiv d = 0 := (Int.fdiv_eq_ediv_of_nonneg _ (Int.le_trans h0 (Int.le_of_lt h1))).trans (Int.ediv_eq_zero_of_lt h0 h1)

/-- the octets of a number, the highest first, as the text draws them -/
noncomputable def octetsOf (n : Int) (z : Nat) : List Int := (List.range' 0 z).map fun (j : Nat) => Builtin.bitAnd (n.fdiv (2 ^ (8 * ((z : Int) - 1 + (j : Int) * -1)).toNat)) 255

theorem be_1 {n : Int} (h0 : 0 ≤ n) (h1 : n < 256) : octetsOf n 1 = be n 1 ∧ ∀ x ∈ be n 1, 0 ≤ x ∧ x < 256 :=
  ⟨congrArg (fun a => [a]) ((octet_low h0).trans (Int.emod_eq_of_lt h0 h1)), List.forall_mem_cons.mpr ⟨⟨h0, h1⟩, List.forall_mem_nil _⟩⟩
theorem be_2 {n : Int} (h0 : 0 ≤ n) (h1 : n < 65536) : octetsOf n 2 = be n 2 ∧ ∀ x ∈ be n 2, 0 ≤ x ∧ x < 256 :=
  have a := octet_top (d := 256) h0 (by decide) h1
  ⟨(congrArg (fun x => [x, Builtin.bitAnd (n.fdiv 1) 255]) a.1).trans (congrArg (fun x => [n / 256, x]) (octet_low h0)), List.forall_mem_cons.mpr ⟨a.2, List.forall_mem_cons.mpr ⟨mod_b n, List.forall_mem_nil _⟩⟩⟩
theorem be_4 {n : Int} (h0 : 0 ≤ n) (h1 : n < 4294967296) : octetsOf n 4 = be n 4 ∧ ∀ x ∈ be n 4, 0 ≤ x ∧ x < 256 := by
  have a := octet_top (d := 16777216) h0 (by decide) h1
  refine ⟨?_, List.forall_mem_cons.mpr ⟨a.2, List.forall_mem_cons.mpr ⟨mod_b _, List.forall_mem_cons.mpr ⟨mod_b _, List.forall_mem_cons.mpr ⟨mod_b n, List.forall_mem_nil _⟩⟩⟩⟩⟩
  show [Builtin.bitAnd (n.fdiv 16777216) 255, Builtin.bitAnd (n.fdiv 65536) 255, Builtin.bitAnd (n.fdiv 256) 255, Builtin.bitAnd (n.fdiv 1) 255] = _
  rw [a.1, octet h0 (by decide : (0:Int) ≤ 65536), octet h0 (by decide : (0:Int) ≤ 256), octet_low h0]
  rfl

theorem place_at {z i : Nat} (h : i < z) : 0 ≤ (z : Int) - 1 + (i : Int) * -1 := by omega
theorem size_of (z : Nat) (h : z ≤ 4) (h1 : 1 ≤ z) : Builtin.Range.small ((z : Int) - 1) (-1) (-1) = true ∧ Builtin.Range.rangeSize ((z : Int) - 1) (-1) (-1) = (z : Int) :=
  match z, h1, h with
  | 1, _, _ => by decide
  | 2, _, _ => by decide
  | 3, _, _ => by decide
  | 4, _, _ => by decide

theorem put_number {news : Led} (n : Int) (z : Nat) (t u : Tok) (h1 : 1 ≤ z) (h4 : z ≤ 4) (h0 : 0 ≤ n) (hz : n.fdiv (2 ^ (8 * (z : Int)).toNat) = 0) (hl : octetsOf n z = be n z ∧ ∀ x ∈ be n z, 0 ≤ x ∧ x < 256) :
    Gives w mean mg mb 2 81 news [.int n t, .int z u] (BytesRet (be n z)) := by
  unfold Gives
  k_fill
  intro dp un gd env outer A₀ base h₀ L m s Q E B F X N T hf hke hd hu hret
  refine wpAny_call ?_
  k_dflt (first | (refine' enterP ?k1 ?k2 ?k3 ?k4 ?k5 ?kA ?kF ?kK ?k6 ?k7 ?k8 ?k9 ?kB ?_ ?c2 ?c3 ?c4 ?c5; (case kA => exact rfl); (case kF => first | exact rfl | assumption); (case kK => first | exact rfl | assumption); (case k1 => k_asm); (case k2 => k_asm); (case k3 => k_asm); (case k4 => k_asm); (case k5 => k_asm); (case k6 => k_is); (case k7 => k_is); (case k8 => (first | exact room_at (by assumption) | ktr_room)); (case k9 => exact BindsTo.of_eq rfl); (case c5 => decide); (case kB => exact locs rfl); (case c2 => exact rfl); (case c3 => exact rfl); (case c4 => exact rfl); k_whole; intro g' L' h' FG' F' N' B' X' T' kG' l1; (try k_lt l1); (try dsimp only); (try k_lift B'); (try k_fold)) | (refine' enterC ?k1 ?k2 ?k3 ?k4 ?k5 ?kA ?kF ?kK ?k6 ?k7 ?k8 ?k9 ?kB ?kD ?_ ?c2 ?c3 ?c4; (case kA => exact rfl); (case kF => first | exact rfl | assumption); (case kK => first | exact rfl | assumption); (case k1 => k_asm); (case k2 => k_asm); (case k3 => k_asm); (case k4 => k_asm); (case k5 => k_asm); (case k6 => k_is); (case k7 => k_is); (case k8 => (first | exact room_at (by assumption) | ktr_room)); (case k9 => exact BindsTo.of_eq rfl); (case kB => exact rfl); (case kD => decide +kernel); (case c2 => exact rfl); (case c3 => exact rfl); (case c4 => exact rfl); k_whole; intro g' L' h' tk' cells' FG' F' N' Y' B' X' T' kG' l1; (try k_lt l1); k_cells Y'; (try simp only [List.cons_append, List.nil_append] at N'); (try dsimp only); (try k_lift B'); (try k_fold)))
  have hz1 : 0 ≤ 8 * (z : Int) := Int.mul_nonneg (by decide) (Int.natCast_nonneg z)
  repeat (first | (exfalso; exact absurd hz (by assumption)) | (k_unfold; (try dsimp only)) | walk1 | (dsimp only; walk1))
  refine Stop.go ?_
  k_dflt (refine lc_quiet (by k_asm) (fun _ => true) (FyNum n) rfl (by with_unfolding_all rfl) (by decide) (by rfl) (by decide) (by rfl) ?_ (by intro _; rfl))
  repeat (first | (k_unfold; (try dsimp only)) | walk1 | (dsimp only; walk1))
  refine Stop.go ?_
  refine ⟨_, _, _, Src.range (by assumption) (size_of z h4 h1).1 (n := z) (size_of z h4 h1).2, (Nat.le_trans h4 (by decide)), by k_asm, by k_asm, ?ht, ?he, ?hq⟩
  case ht => intros; exact wpAny_tests_nil ⟨rfl, keeps_self⟩
  case he =>
    rintro C oC i v m₂ s₃ E' ⟨hi, t', rfl⟩ _ hC hm up F3 N3
    have hi' := place_at hi
    generalize (z : Int) - 1 + (i : Int) * -1 = k at hm hi'
    refine wpAny_mono (Q := fun y s₄ => Stop (FyNum n (.int k t') y ∧ Keeps s₃ s₄)) ?_ (fun _ _ h => h) (fun _ _ e => e)
    repeat (first | (k_unfold; (try dsimp only)) | walk1 | (dsimp only; walk1))
    exact Stop.go ⟨⟨_, _, _, rfl, rfl⟩, keeps_toks⟩
  case hq =>
    intro D k ys vs h9 tk9 hlen hvs hP up F9 N9 ne9
    rw [filter_all] at hP
    have hI := ints_of_paired (fun k => Builtin.bitAnd (n.fdiv (2 ^ (8 * k).toNat)) 255) (fun j => (z:Int) - 1 + (j:Int) * -1) 0 hP (fun j v hj => by
      obtain ⟨_, t, e⟩ := hvs j v hj
      exact ⟨t, by rw [e, Nat.zero_add]⟩)
    rw [hlen] at hI
    replace hI : IntsAre ys (be n z) := hl.1 ▸ hI
    repeat (first | (k_unfold; (try dsimp only)) | walk1 | (dsimp only; walk1))
    refine Stop.go ?_
    k_dflt (refine bytes_K (by k_asm) (by k_asm) ⟨_, (N9 _ (List.mem_cons_self ..)).1, rfl, _, rfl⟩ hI hl.2 (by rw [hI.length, ← hl.1]; exact Nat.le_trans (by rw [octetsOf, List.length_map, List.length_range']; exact h4) (by decide)) rfl ?_)
    intro h8 t8 tk8 F8 N8 _
    repeat (first | (k_unfold; (try dsimp only)) | walk1 | (dsimp only; walk1))
    refine give hret N (by assumption) F8 N8 (by assumption) (by assumption) [] (fun p hp => ?_) (fun _ h => nomatch h) (.mk _ _ rfl)
    repeat (first | exact hp | apply List.mem_cons_of_mem)

local macro_rules | `(tactic| walk_at "call ref") => `(tactic| refine Stop.of ?_)

theorem put_u8 {news : Led} (n : Int) (t : Tok) (h0 : 0 ≤ n) (h1 : n < 256) :
    Gives w mean mg mb 3 88 news [.int n t] (BytesRet (be n 1)) := by
  unfold Gives
  k_fill
  intro dp un gd env outer A₀ base h₀ L m s Q E B F X N T hf hke hd hu hret
  refine wpAny_call ?_
  k_dflt (first | (refine' enterP ?k1 ?k2 ?k3 ?k4 ?k5 ?kA ?kF ?kK ?k6 ?k7 ?k8 ?k9 ?kB ?_ ?c2 ?c3 ?c4 ?c5; (case kA => exact rfl); (case kF => first | exact rfl | assumption); (case kK => first | exact rfl | assumption); (case k1 => k_asm); (case k2 => k_asm); (case k3 => k_asm); (case k4 => k_asm); (case k5 => k_asm); (case k6 => k_is); (case k7 => k_is); (case k8 => (first | exact room_at (by assumption) | ktr_room)); (case k9 => exact BindsTo.of_eq rfl); (case c5 => decide); (case kB => exact locs rfl); (case c2 => exact rfl); (case c3 => exact rfl); (case c4 => exact rfl); k_whole; intro g' L' h' FG' F' N' B' X' T' kG' l1; (try k_lt l1); (try dsimp only); (try k_lift B'); (try k_fold)) | (refine' enterC ?k1 ?k2 ?k3 ?k4 ?k5 ?kA ?kF ?kK ?k6 ?k7 ?k8 ?k9 ?kB ?kD ?_ ?c2 ?c3 ?c4; (case kA => exact rfl); (case kF => first | exact rfl | assumption); (case kK => first | exact rfl | assumption); (case k1 => k_asm); (case k2 => k_asm); (case k3 => k_asm); (case k4 => k_asm); (case k5 => k_asm); (case k6 => k_is); (case k7 => k_is); (case k8 => (first | exact room_at (by assumption) | ktr_room)); (case k9 => exact BindsTo.of_eq rfl); (case kB => exact rfl); (case kD => decide +kernel); (case c2 => exact rfl); (case c3 => exact rfl); (case c4 => exact rfl); k_whole; intro g' L' h' tk' cells' FG' F' N' Y' B' X' T' kG' l1; (try k_lt l1); k_cells Y'; (try simp only [List.cons_append, List.nil_append] at N'); (try dsimp only); (try k_lift B'); (try k_fold)))
  repeat (first | (k_unfold; (try dsimp only)) | walk1 | (dsimp only; walk1))
  refine Stop.go ?_
  k_dflt (refine use_bytes (put_number n 1 _ _ (by decide) (by decide) h0 (fdiv_none h0 h1) (be_1 h0 h1)) (by k_asm) (by k_asm) (by k_asm) (by k_asm) (by k_asm) rfl rfl (room_in hd (Nat.le_of_ble_eq_true rfl)) (units_in hu (Nat.le_of_ble_eq_true rfl)) ?_)
  intro t9 h9 tk9 up9 F9 N9
  repeat (first | (k_unfold; (try dsimp only)) | walk1 | (dsimp only; walk1))
  refine give hret N (by assumption) F9 N9 (by assumption) (by assumption) [] (fun p hp => hp) (fun _ h => nomatch h) (.mk _ _ rfl)

theorem put_u16 {news : Led} (n : Int) (t : Tok) (h0 : 0 ≤ n) (h1 : n < 65536) :
    Gives w mean mg mb 3 95 news [.int n t] (BytesRet (be n 2)) := by
  unfold Gives
  k_fill
  intro dp un gd env outer A₀ base h₀ L m s Q E B F X N T hf hke hd hu hret
  refine wpAny_call ?_
  k_dflt (first | (refine' enterP ?k1 ?k2 ?k3 ?k4 ?k5 ?kA ?kF ?kK ?k6 ?k7 ?k8 ?k9 ?kB ?_ ?c2 ?c3 ?c4 ?c5; (case kA => exact rfl); (case kF => first | exact rfl | assumption); (case kK => first | exact rfl | assumption); (case k1 => k_asm); (case k2 => k_asm); (case k3 => k_asm); (case k4 => k_asm); (case k5 => k_asm); (case k6 => k_is); (case k7 => k_is); (case k8 => (first | exact room_at (by assumption) | ktr_room)); (case k9 => exact BindsTo.of_eq rfl); (case c5 => decide); (case kB => exact locs rfl); (case c2 => exact rfl); (case c3 => exact rfl); (case c4 => exact rfl); k_whole; intro g' L' h' FG' F' N' B' X' T' kG' l1; (try k_lt l1); (try dsimp only); (try k_lift B'); (try k_fold)) | (refine' enterC ?k1 ?k2 ?k3 ?k4 ?k5 ?kA ?kF ?kK ?k6 ?k7 ?k8 ?k9 ?kB ?kD ?_ ?c2 ?c3 ?c4; (case kA => exact rfl); (case kF => first | exact rfl | assumption); (case kK => first | exact rfl | assumption); (case k1 => k_asm); (case k2 => k_asm); (case k3 => k_asm); (case k4 => k_asm); (case k5 => k_asm); (case k6 => k_is); (case k7 => k_is); (case k8 => (first | exact room_at (by assumption) | ktr_room)); (case k9 => exact BindsTo.of_eq rfl); (case kB => exact rfl); (case kD => decide +kernel); (case c2 => exact rfl); (case c3 => exact rfl); (case c4 => exact rfl); k_whole; intro g' L' h' tk' cells' FG' F' N' Y' B' X' T' kG' l1; (try k_lt l1); k_cells Y'; (try simp only [List.cons_append, List.nil_append] at N'); (try dsimp only); (try k_lift B'); (try k_fold)))
  repeat (first | (k_unfold; (try dsimp only)) | walk1 | (dsimp only; walk1))
  refine Stop.go ?_
  k_dflt (refine use_bytes (put_number n 2 _ _ (by decide) (by decide) h0 (fdiv_none h0 h1) (be_2 h0 h1)) (by k_asm) (by k_asm) (by k_asm) (by k_asm) (by k_asm) rfl rfl (room_in hd (Nat.le_of_ble_eq_true rfl)) (units_in hu (Nat.le_of_ble_eq_true rfl)) ?_)
  intro t9 h9 tk9 up9 F9 N9
  repeat (first | (k_unfold; (try dsimp only)) | walk1 | (dsimp only; walk1))
  refine give hret N (by assumption) F9 N9 (by assumption) (by assumption) [] (fun p hp => hp) (fun _ h => nomatch h) (.mk _ _ rfl)

theorem put_u32 {news : Led} (n : Int) (t : Tok) (h0 : 0 ≤ n) (h1 : n < 4294967296) :
    Gives w mean mg mb 3 102 news [.int n t] (BytesRet (be n 4)) := by
  unfold Gives
  k_fill
  intro dp un gd env outer A₀ base h₀ L m s Q E B F X N T hf hke hd hu hret
  refine wpAny_call ?_
  k_dflt (first | (refine' enterP ?k1 ?k2 ?k3 ?k4 ?k5 ?kA ?kF ?kK ?k6 ?k7 ?k8 ?k9 ?kB ?_ ?c2 ?c3 ?c4 ?c5; (case kA => exact rfl); (case kF => first | exact rfl | assumption); (case kK => first | exact rfl | assumption); (case k1 => k_asm); (case k2 => k_asm); (case k3 => k_asm); (case k4 => k_asm); (case k5 => k_asm); (case k6 => k_is); (case k7 => k_is); (case k8 => (first | exact room_at (by assumption) | ktr_room)); (case k9 => exact BindsTo.of_eq rfl); (case c5 => decide); (case kB => exact locs rfl); (case c2 => exact rfl); (case c3 => exact rfl); (case c4 => exact rfl); k_whole; intro g' L' h' FG' F' N' B' X' T' kG' l1; (try k_lt l1); (try dsimp only); (try k_lift B'); (try k_fold)) | (refine' enterC ?k1 ?k2 ?k3 ?k4 ?k5 ?kA ?kF ?kK ?k6 ?k7 ?k8 ?k9 ?kB ?kD ?_ ?c2 ?c3 ?c4; (case kA => exact rfl); (case kF => first | exact rfl | assumption); (case kK => first | exact rfl | assumption); (case k1 => k_asm); (case k2 => k_asm); (case k3 => k_asm); (case k4 => k_asm); (case k5 => k_asm); (case k6 => k_is); (case k7 => k_is); (case k8 => (first | exact room_at (by assumption) | ktr_room)); (case k9 => exact BindsTo.of_eq rfl); (case kB => exact rfl); (case kD => decide +kernel); (case c2 => exact rfl); (case c3 => exact rfl); (case c4 => exact rfl); k_whole; intro g' L' h' tk' cells' FG' F' N' Y' B' X' T' kG' l1; (try k_lt l1); k_cells Y'; (try simp only [List.cons_append, List.nil_append] at N'); (try dsimp only); (try k_lift B'); (try k_fold)))
  repeat (first | (k_unfold; (try dsimp only)) | walk1 | (dsimp only; walk1))
  refine Stop.go ?_
  k_dflt (refine use_bytes (put_number n 4 _ _ (by decide) (by decide) h0 (fdiv_none h0 h1) (be_4 h0 h1)) (by k_asm) (by k_asm) (by k_asm) (by k_asm) (by k_asm) rfl rfl (room_in hd (Nat.le_of_ble_eq_true rfl)) (units_in hu (Nat.le_of_ble_eq_true rfl)) ?_)
  intro t9 h9 tk9 up9 F9 N9
  repeat (first | (k_unfold; (try dsimp only)) | walk1 | (dsimp only; walk1))
  refine give hret N (by assumption) F9 N9 (by assumption) (by assumption) [] (fun p hp => hp) (fun _ h => nomatch h) (.mk _ _ rfl)

end Mine
end

/-! part J -/
section
set_option maxRecDepth 100000
set_option maxHeartbeats 8000000
namespace Mine
open PySem PySem.W PyProof.Rows PySem.Spec PySem.Calls PySem.Builtin

theorem take_eq {id : String} {b : Array UInt8} {t : Tok} : Bytes.takeBufferQuiet? id (.bytes b t) 0 = pure (some (b, none)) := by
  unfold Bytes.takeBufferQuiet? Bytes.takeBuffer?
  rw [KBy.special_eq KBy.look_buffer, KBy.own_buffer]
  simp only [pure_bind]
  have h : Bytes.buffer? id (.bytes b t) ((0:Int) == Bytes.fullReadOnly) = pure (some b) := KBy.buffer_eq
  simp only [h]
  rfl

section
variable {M : Model} {A : Around} {E : Value → Shared → Prop} {s : Shared}

theorem forIn_pure {β : Type} {f : Nat → β → Sem (ForInStep β)} (g : Nat → β → β) (I : β → Prop) : ∀ (l : List Nat) {b : β} {Q : β → Shared → Prop},
    (∀ i ∈ l, ∀ b, I b → I (g i b) ∧ ∀ (P : ForInStep β → Shared → Prop), P (.yield (g i b)) s → wpAny M A (f i b) P E s) → I b → Q (l.foldl (fun b i => g i b) b) s → wpAny M A (forIn l b f) Q E s
  | [], _, _, _, _, h => wpAny_pure h
  | i :: l, b, Q, H, hb, h => by
    rw [List.forIn_cons]
    obtain ⟨h1, h2⟩ := H i (List.mem_cons_self ..) b hb
    exact wpAny_bind (h2 _ (forIn_pure g I l (fun j hj => H j (List.mem_cons_of_mem _ hj)) h1 h))

/-- one part of a join -/
def partOf (items : Array Value) (i : Nat) : Array UInt8 := match items.getD i .none with
  | .bytes b _ => b
  | _ => #[]

abbrev JS := Array (Array UInt8) × List (Value × Option Value)
def jstep (items : Array Value) (i : Nat) (b : JS) : JS := (b.1.push (partOf items i), b.2 ++ [(items.getD i .none, none)])
def jInv (b : JS) : Prop := b.2.any (fun x => x.1.onHeap) = false ∧ b.2.all (fun x => x.2.isNone) = true

theorem fold_parts (items : Array Value) : ∀ (l : List Nat) (b : JS), b.2.all (fun x => x.2.isNone) = true →
    (l.foldl (fun b i => jstep items i b) b).1.toList = b.1.toList ++ l.map (partOf items) ∧ (l.foldl (fun b i => jstep items i b) b).2.all (fun x => x.2.isNone) = true
  | [], b, h => by simpa using h
  | i :: l, b, h => by
    have := fold_parts items l (jstep items i b) (by show (b.2 ++ [_]).all _ = true; rw [List.all_append, h]; rfl)
    rw [List.foldl_cons, this.1]
    refine ⟨?_, this.2⟩
    simp [jstep]
theorem range_is (n : Nat) : List.range' (Std.Legacy.Range.start [:n]) (Std.Legacy.Range.size [:n]) (Std.Legacy.Range.step [:n]) = List.range n := by
  simp [Std.Legacy.Range.size, List.range_eq_range']

theorem letGo_all : ∀ (l : List (Value × Option Value)) (keep : List Value) {Q : Unit → Shared → Prop}, l.all (fun x => x.2.isNone) = true → Q () s → wpAny M A (Bytes.joinLetGo l keep) Q E s
  | [], _, _, _, h => wpAny_pure h
  | (x, none) :: l, keep, Q, hl, h => by
    unfold Bytes.joinLetGo
    simp only [List.all_cons, Option.isNone_none, Bool.true_and] at hl
    dsimp only
    refine wpAny_bind ?_
    unfold letGo
    exact wpAny_bind (wpAny_holding (wpAny_point (wpAny_pure (letGo_all l keep hl h))))
  | (x, some v) :: l, _, _, hl, _ => by simp at hl

theorem join_tree {D : Addr} {t : Tok} {items : Array Value} {Q : PySem.Fin → Shared → Prop} (hl : s.heap.IsList D items) (hne : 0 < items.size) (hb : ∀ i, i < items.size → ∃ b t, items.getD i .none = .bytes b t)
    (hsz : (Bytes.joined #[] ((List.range items.size).map (partOf items))).size ≤ 16777216) (hsz2 : ((List.range items.size).map (partOf items)).foldl (fun n b => n + b.size) 0 ≤ 16777216)
    (h : ∀ t k, Q (.done (.ret (.bytes (Bytes.joined #[] ((List.range items.size).map (partOf items))) t))) { s with toks := k }) :
    wpAny M A (Builtin.«bytes.join» ⟨[.bytes #[] t, .ref D], []⟩) Q E s := by
  obtain ⟨o, ho, hc, n, hd⟩ := id hl
  have hseq : ∀ {P : Option (Array Value) → Shared → Prop}, P (some items) s → wpAny M A (seqItems? (.ref D)) P E s := fun hP => by
    unfold seqItems?
    refine wpAny_bind (wpAny_load ho ?_)
    rw [hd]
    exact wpAny_pure hP
  unfold Builtin.«bytes.join» Bytes.joinM
  refine wpAny_bind (wpAny_of_eq (a := (Value.bytes #[] t, Value.ref D)) rfl ?_)
  dsimp only
  rw [if_pos (by decide)]
  refine wpAny_bind ?_
  unfold Bytes.joinItems
  refine wpAny_bind (wpAny_typeOf hl.typeIs ?_)
  rw [if_pos (by decide)]
  refine wpAny_pure (wpAny_bind (hseq ?_))
  dsimp only
  rw [if_pos (by decide)]
  rcases items with ⟨_ | ⟨x, _ | ⟨y, r⟩⟩⟩
  · exact absurd hne (Nat.lt_irrefl _)
  · obtain ⟨b, t', e⟩ := hb 0 hne
    have e' : x = .bytes b t' := e
    subst e'
    refine wpAny_bind (wpAny_typeOf (typeIs_bytes s _ _) ?_)
    rw [if_pos (by decide)]
    refine wpAny_bind (wpAny_rule (wpAny_pure ?_))
    have := h t' s.toks
    have q : Bytes.joined #[] ((List.range (⟨[Value.bytes b t']⟩ : Array Value).size).map (partOf ⟨[Value.bytes b t']⟩)) = b := by
      show #[] ++ b = b
      simp
    rw [q] at this
    exact this
  · refine wpAny_bind ?_
    rw [Std.Legacy.Range.forIn_eq_forIn_range']
    refine forIn_pure (jstep ⟨x :: y :: r⟩) jInv _ (fun i hi b hI => ?_) ⟨rfl, rfl⟩ ?_
    · have hi' : i < (⟨x :: y :: r⟩ : Array Value).size := by
        have := List.mem_range'_1.mp hi
        simpa [Std.Legacy.Range.size] using this.2
      obtain ⟨bb, t', e⟩ := hb i hi'
      refine ⟨⟨?_, ?_⟩, fun P hP => ?_⟩
      · show (b.2 ++ [_]).any _ = false
        rw [List.any_append, hI.1, e]; rfl
      · show (b.2 ++ [_]).all _ = true
        rw [List.all_append, hI.2]; rfl
      · refine wpAny_bind (hseq ?_)
        dsimp only
        rw [hI.1, e, if_neg (by decide)]
        refine wpAny_bind (wpAny_holding ?_)
        rw [take_eq]
        refine wpAny_pure ?_
        dsimp only
        refine wpAny_bind (hseq ?_)
        dsimp only
        rw [if_neg (by simp)]
        refine wpAny_pure ?_
        have : jstep ⟨x :: y :: r⟩ i b = (b.1.push bb, b.2 ++ [(.bytes bb t', none)]) := by
          unfold jstep partOf; rw [e]
        rw [this] at hP
        exact hP
    · rw [range_is]
      have fp := fold_parts ⟨x :: y :: r⟩ (List.range (⟨x :: y :: r⟩ : Array Value).size) (#[], []) rfl
      generalize (List.range (⟨x :: y :: r⟩ : Array Value).size).foldl (fun b i => jstep ⟨x :: y :: r⟩ i b) (#[], []) = J at fp ⊢
      obtain ⟨parts, taken⟩ := J
      obtain ⟨f1, f2⟩ := fp
      simp only [List.nil_append] at f1
      refine wpAny_bind (wpAny_of_eq (a := (#[] : Array UInt8)) rfl ?_)
      rw [← f1] at h hsz hsz2
      rw [if_neg ?_]
      · refine wpAny_bind (wpAny_mkBytes ?_ (by rw [sizeLine_eq]; exact hsz))
        refine wpAny_bind (wpAny_holding (wpAny_point ?_))
        exact wpAny_bind (letGo_all taken _ f2 (wpAny_pure (h _ _)))
      · rw [KBy.tooLong_not]
        · exact Bool.false_ne_true
        · have : (#[] : Array UInt8).size * (parts.size - 1) = 0 := by simp
          rw [this, ← Array.foldl_toList]
          exact hsz2
end

/-- the octets of a list of bytes values, as ints -/
inductive BytesAre : List Value → List (List Int) → Prop
  | nil : BytesAre [] []
  | cons {vs : List Value} {bs : List (List Int)} (l : List Int) (t : Tok) : BytesAre vs bs → BytesAre (.bytes (byteArr l) t :: vs) (l :: bs)

theorem byteArr_app (a b : List Int) : byteArr a ++ byteArr b = byteArr (a ++ b) := by simp [byteArr]
theorem BytesAre.length {vs : List Value} {bs : List (List Int)} (h : BytesAre vs bs) : vs.length = bs.length := by
  induction h with
  | nil => rfl
  | cons _ _ _ ih => simp [ih]
theorem BytesAre.parts {vs : List Value} {bs : List (List Int)} (h : BytesAre vs bs) : (List.range vs.length).map (partOf vs.toArray) = bs.map byteArr := by
  have : ∀ {vs : List Value} {bs : List (List Int)}, BytesAre vs bs → vs.map (fun v => match v with | .bytes b _ => b | _ => #[]) = bs.map byteArr := by
    intro vs bs h
    induction h with
    | nil => rfl
    | cons l t _ ih => simp [ih]
  rw [← this h]
  apply List.ext_getElem
  · simp
  · intro i h1 h2
    simp at h1
    simp [partOf, h1]
theorem BytesAre.at {vs : List Value} {bs : List (List Int)} (h : BytesAre vs bs) : ∀ i, i < vs.toArray.size → ∃ b t, vs.toArray.getD i .none = .bytes b t := by
  induction h with
  | nil => intro i hi; exact absurd hi (Nat.not_lt_zero _)
  | @cons vs bs l t h ih =>
    intro i hi
    cases i with
    | zero => exact ⟨_, _, rfl⟩
    | succ i =>
      obtain ⟨b, t', e⟩ := ih i (by simpa using hi)
      refine ⟨b, t', ?_⟩
      simp at hi e ⊢
      exact e
theorem joined_is (bs : List (List Int)) : Bytes.joined #[] (bs.map byteArr) = byteArr bs.flatten := by
  have : ∀ (bs : List (List Int)) (k : Nat) (acc : List Int), ((bs.map byteArr).zipIdx k).foldl (fun out (x : Array UInt8 × Nat) => (if x.2 > 0 then out ++ #[] else out) ++ x.1) (byteArr acc) = byteArr (acc ++ bs.flatten) := by
    intro bs
    induction bs with
    | nil => intro k acc; simp
    | cons b bs ih =>
      intro k acc
      simp only [List.map_cons, List.zipIdx_cons, List.foldl_cons]
      have e : (if k > 0 then byteArr acc ++ #[] else byteArr acc) ++ byteArr b = byteArr (acc ++ b) := by
        rw [← byteArr_app]; split <;> simp
      rw [e, ih]
      simp
  have := this bs 0 []
  exact this
theorem sizes_is (bs : List (List Int)) : (bs.map byteArr).foldl (fun n b => n + b.size) 0 = bs.flatten.length := by
  have : ∀ (bs : List (List Int)) (k : Nat), (bs.map byteArr).foldl (fun n b => n + b.size) k = k + bs.flatten.length := by
    intro bs
    induction bs with
    | nil => intro k; simp
    | cons b bs ih => intro k; simp [ih, byteArr, Nat.add_assoc]
  simpa using this bs 0

theorem slot_join : Slot "bytes" "join" "bytes.join" :=
  .of (owner := "bytes") (n := "join") (by rw [typeLookup_type, builtinLookup_eq_fast]; kernel_rfl) (by decide +kernel) (by decide +kernel) (by decide +kernel)
    (by first | exact .inl (by decide +kernel) | exact .inr (by decide +kernel)) (by rw [isSubtype_type]; kernel_rfl)
theorem type_join : typeOf (.builtin "bytes.join") = pure (.type "method_descriptor") := by show builtinType _ = _; rw [builtinType_eq_fast]; kernel_rfl
theorem entry_join : entryFor table "bytes.join" = some Builtin.«bytes.join» := by first | exact entryFor_of_fast (by kernel_rfl) | exact entryFor_of_tree (by kernel_rfl)
theorem args_join (a b : Value) : argsOk "bytes.join" ⟨[a, b], []⟩ := by
  unfold argsOk; rw [signature?_of (id := "bytes.join") (n := ['n', 'i', 'o', 'j']) (o := ['s', 'e', 't', 'y', 'b']) (by kernel_rfl) FB.owner_bytes]; kernel_rfl

section
variable {prog : Program} {w : World} {A : Around} {E : Value → Shared → Prop} {s : Shared}
theorem join_bytes {D : Addr} {t : Tok} {vs : List Value} {bs : List (List Int)} {Q : Value → Shared → Prop} (hl : s.heap.IsList D vs.toArray) (hb : BytesAre vs bs) (hne : bs ≠ []) (hsz : bs.flatten.length ≤ 16777216)
    (h : ∀ t k, Q (.bytes (byteArr bs.flatten) t) { s with toks := k }) : wpAny (model prog w) A (call (.builtin "bytes.join") [.bytes #[] t, .ref D]) Q E s := by
  refine wpAny_call_entry slot_join (typeIs_bytes s _ _) entry_join ?_ (args_join _ _)
  have hlen := hb.length
  have e := hb.parts
  have e' : (List.range vs.toArray.size).map (partOf vs.toArray) = bs.map byteArr := by rw [List.size_toArray]; exact e
  refine join_tree hl ?_ hb.at ?_ ?_ ?_
  · rw [List.size_toArray, hlen]
    exact List.length_pos_iff.mpr hne
  · rw [e', joined_is]
    show (byteArr _).size ≤ _
    rw [show (byteArr bs.flatten).size = bs.flatten.length by simp only [byteArr, List.size_toArray, List.length_map]]
    exact hsz
  · rw [e', sizes_is]; exact hsz
  · intro t' k
    rw [e', joined_is]
    exact ⟨_, rfl, h t' k⟩
theorem method_join {M : Model} {b : Array UInt8} {t : Tok} {pl : Sem Bool} {Q : Value × List Value → Shared → Prop} (h : Q (.builtin "bytes.join", [.bytes b t]) s) : wpAny M A (getMethod (.bytes b t) "join" pl) Q E s := by
  with_reducible exact KBd.method_of (.bytes b t) (PySem.W.typeIs_bytes _ _ _) slot_join type_join KBd.noRef h
end
end Mine
end

/-! part C2 -/
section
set_option maxRecDepth 100000
set_option maxHeartbeats 8000000
namespace Mine
open PySem PySem.W PyProof.Rows PySem.Spec PySem.Calls



variable {w : World} {mean : ExcName → Option Value} {mg mb : Str → Option Value}

section
variable {prog : Program} {w : World} {A : Around} {E : Value → Shared → Prop} {s : Shared} {Q : Value → Shared → Prop}
theorem bytes_eq {a b : List Int} {t : Tok} (h : a = b) : Value.bytes (byteArr a) t = Value.bytes (byteArr b) t := by rw [h]
theorem bytes_add {a b c : List Int} {t u : Tok} (e : a ++ b = c) (hsz : c.length ≤ 16777216) (h : ∀ t' k, Q (.bytes (byteArr c) t') { s with toks := k }) : wpAny (model prog w) A (binaryOp .Add (.bytes (byteArr a) t) (.bytes (byteArr b) u)) Q E s := by
  subst e
  refine KBy.add_bytes (by rw [byteArr_size, byteArr_size]; simpa using hsz) fun t' k => ?_
  rw [byteArr_app]; exact h t' k
theorem bytes_len {a : List Int} {t : Tok} (hsz : a.length ≤ 16777216) (h : Q (.int (a.length : Nat) (s.toks + 1)) { s with toks := s.toks + 1 + 1 }) : wpAny (model prog w) A (call (.builtin "len") [.bytes (byteArr a) t]) Q E s := by
  refine len_bytes (by rw [byteArr_size]; exact Nat.le_trans hsz (by decide)) ?_
  rw [byteArr_size]; exact h
end

/-- the calls of the small ones, by their contracts -/
local macro_rules | `(tactic| walk_at "call ref") => `(tactic| refine Stop.of ?_)

theorem put_attr {news : Led} (fl code : Int) (l : List Int) (t u v : Tok) (h0 : 0 ≤ fl) (h1 : fl < 256) (h2 : Builtin.bitAnd fl (Builtin.bitNot 16) = fl) (h3 : 0 ≤ code) (h4 : code < 256) (h5 : l.length ≤ 255) :
    Gives w mean mg mb 4 132 news [.int fl t, .int code u, .bytes (byteArr l) v] (BytesRet ([fl, code, (l.length : Int)] ++ l)) := by
  unfold Gives
  k_fill
  intro dp un gd env outer A₀ base h₀ L m s Q E B F X N T hf hke hd hu hret
  refine wpAny_call ?_
  k_dflt (first | (refine' enterP ?k1 ?k2 ?k3 ?k4 ?k5 ?kA ?kF ?kK ?k6 ?k7 ?k8 ?k9 ?kB ?_ ?c2 ?c3 ?c4 ?c5; (case kA => exact rfl); (case kF => first | exact rfl | assumption); (case kK => first | exact rfl | assumption); (case k1 => k_asm); (case k2 => k_asm); (case k3 => k_asm); (case k4 => k_asm); (case k5 => k_asm); (case k6 => k_is); (case k7 => k_is); (case k8 => (first | exact room_at (by assumption) | ktr_room)); (case k9 => exact BindsTo.of_eq rfl); (case c5 => decide); (case kB => exact locs rfl); (case c2 => exact rfl); (case c3 => exact rfl); (case c4 => exact rfl); k_whole; intro g' L' h' FG' F' N' B' X' T' kG' l1; (try k_lt l1); (try dsimp only); (try k_lift B'); (try k_fold)) | (refine' enterC ?k1 ?k2 ?k3 ?k4 ?k5 ?kA ?kF ?kK ?k6 ?k7 ?k8 ?k9 ?kB ?kD ?_ ?c2 ?c3 ?c4; (case kA => exact rfl); (case kF => first | exact rfl | assumption); (case kK => first | exact rfl | assumption); (case k1 => k_asm); (case k2 => k_asm); (case k3 => k_asm); (case k4 => k_asm); (case k5 => k_asm); (case k6 => k_is); (case k7 => k_is); (case k8 => (first | exact room_at (by assumption) | ktr_room)); (case k9 => exact BindsTo.of_eq rfl); (case kB => exact rfl); (case kD => decide +kernel); (case c2 => exact rfl); (case c3 => exact rfl); (case c4 => exact rfl); k_whole; intro g' L' h' tk' cells' FG' F' N' Y' B' X' T' kG' l1; (try k_lt l1); k_cells Y'; (try simp only [List.cons_append, List.nil_append] at N'); (try dsimp only); (try k_lift B'); (try k_fold)))
  repeat (first | ((with_reducible show wpAny _ _ (call (Value.ref 88) _) _ _ _); (refine use_bytes (put_u8 _ _ (by first | omega | decide) (by first | omega | decide)) (by k_asm) (by k_asm) (by k_asm) (by k_asm) (by k_asm) rfl rfl (room_in (by assumption) (by decide)) (units_in (by assumption) (by decide)) ?_); intro t' h' tk' up' F' N'; (try dsimp only); (try k_sweep)) | ((with_reducible show wpAny _ _ (call (Value.ref 95) _) _ _ _); (refine use_bytes (put_u16 _ _ (by first | omega | decide) (by first | omega | decide)) (by k_asm) (by k_asm) (by k_asm) (by k_asm) (by k_asm) rfl rfl (room_in (by assumption) (by decide)) (units_in (by assumption) (by decide)) ?_); intro t' h' tk' up' F' N'; (try dsimp only); (try k_sweep)) | ((with_reducible show wpAny _ _ (call (Value.ref 102) _) _ _ _); (refine use_bytes (put_u32 _ _ (by first | omega | decide) (by first | omega | decide)) (by k_asm) (by k_asm) (by k_asm) (by k_asm) (by k_asm) rfl rfl (room_in (by assumption) (by decide)) (units_in (by assumption) (by decide)) ?_); intro t' h' tk' up' F' N'; (try dsimp only); (try k_sweep)) | ((with_reducible show wpAny _ _ (binaryOp _ (Value.bytes _ _) (Value.bytes _ _)) _ _ _); ((refine bytes_add rfl ?z ?_; (case z => (simp only [List.length_append, be, List.length_cons, List.length_nil]; omega))); intro _ _)) | ((with_reducible show wpAny _ _ (call (Value.builtin _) [Value.bytes (byteArr _) _]) _ _ _); (refine bytes_len ?z ?_; (case z => omega))) | (k_unfold; (try dsimp only)) | walk1 | (dsimp only; walk1))
  refine give hret N (by assumption) (by assumption) (by assumption) (by assumption) (by assumption) [] (fun p hp => ?_) (fun _ h => nomatch h) (.mk _ _ ?_)
  · repeat (first | exact hp | apply List.mem_cons_of_mem)
  · simp only [be, List.cons_append, List.nil_append, h2]

theorem put_value_origin {news : Led} (n : Int) (u : Tok) (t : Tok) (h0 : 0 ≤ n) (h1 : n < 256) :
    Gives w mean mg mb 5 137 news [.str (Str.ofString "origin") t, .int n u] (BytesRet (be n 1)) := by
  unfold Gives
  k_fill
  intro dp un gd env outer A₀ base h₀ L m s Q E B F X N T hf hke hd hu hret
  refine wpAny_call ?_
  k_dflt (first | (refine' enterP ?k1 ?k2 ?k3 ?k4 ?k5 ?kA ?kF ?kK ?k6 ?k7 ?k8 ?k9 ?kB ?_ ?c2 ?c3 ?c4 ?c5; (case kA => exact rfl); (case kF => first | exact rfl | assumption); (case kK => first | exact rfl | assumption); (case k1 => k_asm); (case k2 => k_asm); (case k3 => k_asm); (case k4 => k_asm); (case k5 => k_asm); (case k6 => k_is); (case k7 => k_is); (case k8 => (first | exact room_at (by assumption) | ktr_room)); (case k9 => exact BindsTo.of_eq rfl); (case c5 => decide); (case kB => exact locs rfl); (case c2 => exact rfl); (case c3 => exact rfl); (case c4 => exact rfl); k_whole; intro g' L' h' FG' F' N' B' X' T' kG' l1; (try k_lt l1); (try dsimp only); (try k_lift B'); (try k_fold)) | (refine' enterC ?k1 ?k2 ?k3 ?k4 ?k5 ?kA ?kF ?kK ?k6 ?k7 ?k8 ?k9 ?kB ?kD ?_ ?c2 ?c3 ?c4; (case kA => exact rfl); (case kF => first | exact rfl | assumption); (case kK => first | exact rfl | assumption); (case k1 => k_asm); (case k2 => k_asm); (case k3 => k_asm); (case k4 => k_asm); (case k5 => k_asm); (case k6 => k_is); (case k7 => k_is); (case k8 => (first | exact room_at (by assumption) | ktr_room)); (case k9 => exact BindsTo.of_eq rfl); (case kB => exact rfl); (case kD => decide +kernel); (case c2 => exact rfl); (case c3 => exact rfl); (case c4 => exact rfl); k_whole; intro g' L' h' tk' cells' FG' F' N' Y' B' X' T' kG' l1; (try k_lt l1); k_cells Y'; (try simp only [List.cons_append, List.nil_append] at N'); (try dsimp only); (try k_lift B'); (try k_fold)))
  repeat (first | ((with_reducible show wpAny _ _ (call (Value.ref 88) _) _ _ _); (refine use_bytes (put_u8 _ _ (by first | omega | decide) (by first | omega | decide)) (by k_asm) (by k_asm) (by k_asm) (by k_asm) (by k_asm) rfl rfl (room_in (by assumption) (by decide)) (units_in (by assumption) (by decide)) ?_); intro t' h' tk' up' F' N'; (try dsimp only); (try k_sweep)) | ((with_reducible show wpAny _ _ (call (Value.ref 95) _) _ _ _); (refine use_bytes (put_u16 _ _ (by first | omega | decide) (by first | omega | decide)) (by k_asm) (by k_asm) (by k_asm) (by k_asm) (by k_asm) rfl rfl (room_in (by assumption) (by decide)) (units_in (by assumption) (by decide)) ?_); intro t' h' tk' up' F' N'; (try dsimp only); (try k_sweep)) | ((with_reducible show wpAny _ _ (call (Value.ref 102) _) _ _ _); (refine use_bytes (put_u32 _ _ (by first | omega | decide) (by first | omega | decide)) (by k_asm) (by k_asm) (by k_asm) (by k_asm) (by k_asm) rfl rfl (room_in (by assumption) (by decide)) (units_in (by assumption) (by decide)) ?_); intro t' h' tk' up' F' N'; (try dsimp only); (try k_sweep)) | ((with_reducible show wpAny _ _ (binaryOp _ (Value.bytes _ _) (Value.bytes _ _)) _ _ _); ((refine bytes_add rfl ?z ?_; (case z => (simp only [List.length_append, be, List.length_cons, List.length_nil]; omega))); intro _ _)) | ((with_reducible show wpAny _ _ (call (Value.builtin _) [Value.bytes (byteArr _) _]) _ _ _); (refine bytes_len ?z ?_; (case z => omega))) | (k_unfold; (try dsimp only)) | walk1 | (dsimp only; walk1))
  refine give hret N (by assumption) (by assumption) (by assumption) (by assumption) (by assumption) [] (fun p hp => ?_) (fun _ h => nomatch h) (.mk _ _ ?_)
  · repeat (first | exact hp | apply List.mem_cons_of_mem)
  · rfl

theorem put_value_med {news : Led} (n : Int) (u : Tok) (t : Tok) (h0 : 0 ≤ n) (h1 : n < 4294967296) :
    Gives w mean mg mb 5 137 news [.str (Str.ofString "med") t, .int n u] (BytesRet (be n 4)) := by
  unfold Gives
  k_fill
  intro dp un gd env outer A₀ base h₀ L m s Q E B F X N T hf hke hd hu hret
  refine wpAny_call ?_
  k_dflt (first | (refine' enterP ?k1 ?k2 ?k3 ?k4 ?k5 ?kA ?kF ?kK ?k6 ?k7 ?k8 ?k9 ?kB ?_ ?c2 ?c3 ?c4 ?c5; (case kA => exact rfl); (case kF => first | exact rfl | assumption); (case kK => first | exact rfl | assumption); (case k1 => k_asm); (case k2 => k_asm); (case k3 => k_asm); (case k4 => k_asm); (case k5 => k_asm); (case k6 => k_is); (case k7 => k_is); (case k8 => (first | exact room_at (by assumption) | ktr_room)); (case k9 => exact BindsTo.of_eq rfl); (case c5 => decide); (case kB => exact locs rfl); (case c2 => exact rfl); (case c3 => exact rfl); (case c4 => exact rfl); k_whole; intro g' L' h' FG' F' N' B' X' T' kG' l1; (try k_lt l1); (try dsimp only); (try k_lift B'); (try k_fold)) | (refine' enterC ?k1 ?k2 ?k3 ?k4 ?k5 ?kA ?kF ?kK ?k6 ?k7 ?k8 ?k9 ?kB ?kD ?_ ?c2 ?c3 ?c4; (case kA => exact rfl); (case kF => first | exact rfl | assumption); (case kK => first | exact rfl | assumption); (case k1 => k_asm); (case k2 => k_asm); (case k3 => k_asm); (case k4 => k_asm); (case k5 => k_asm); (case k6 => k_is); (case k7 => k_is); (case k8 => (first | exact room_at (by assumption) | ktr_room)); (case k9 => exact BindsTo.of_eq rfl); (case kB => exact rfl); (case kD => decide +kernel); (case c2 => exact rfl); (case c3 => exact rfl); (case c4 => exact rfl); k_whole; intro g' L' h' tk' cells' FG' F' N' Y' B' X' T' kG' l1; (try k_lt l1); k_cells Y'; (try simp only [List.cons_append, List.nil_append] at N'); (try dsimp only); (try k_lift B'); (try k_fold)))
  repeat (first | ((with_reducible show wpAny _ _ (call (Value.ref 88) _) _ _ _); (refine use_bytes (put_u8 _ _ (by first | omega | decide) (by first | omega | decide)) (by k_asm) (by k_asm) (by k_asm) (by k_asm) (by k_asm) rfl rfl (room_in (by assumption) (by decide)) (units_in (by assumption) (by decide)) ?_); intro t' h' tk' up' F' N'; (try dsimp only); (try k_sweep)) | ((with_reducible show wpAny _ _ (call (Value.ref 95) _) _ _ _); (refine use_bytes (put_u16 _ _ (by first | omega | decide) (by first | omega | decide)) (by k_asm) (by k_asm) (by k_asm) (by k_asm) (by k_asm) rfl rfl (room_in (by assumption) (by decide)) (units_in (by assumption) (by decide)) ?_); intro t' h' tk' up' F' N'; (try dsimp only); (try k_sweep)) | ((with_reducible show wpAny _ _ (call (Value.ref 102) _) _ _ _); (refine use_bytes (put_u32 _ _ (by first | omega | decide) (by first | omega | decide)) (by k_asm) (by k_asm) (by k_asm) (by k_asm) (by k_asm) rfl rfl (room_in (by assumption) (by decide)) (units_in (by assumption) (by decide)) ?_); intro t' h' tk' up' F' N'; (try dsimp only); (try k_sweep)) | ((with_reducible show wpAny _ _ (binaryOp _ (Value.bytes _ _) (Value.bytes _ _)) _ _ _); ((refine bytes_add rfl ?z ?_; (case z => (simp only [List.length_append, be, List.length_cons, List.length_nil]; omega))); intro _ _)) | ((with_reducible show wpAny _ _ (call (Value.builtin _) [Value.bytes (byteArr _) _]) _ _ _); (refine bytes_len ?z ?_; (case z => omega))) | (k_unfold; (try dsimp only)) | walk1 | (dsimp only; walk1))
  refine give hret N (by assumption) (by assumption) (by assumption) (by assumption) (by assumption) [] (fun p hp => ?_) (fun _ h => nomatch h) (.mk _ _ ?_)
  · repeat (first | exact hp | apply List.mem_cons_of_mem)
  · rfl

theorem put_value_aggregator {news : Led} (x y : Int) (u v : Tok) (a : Addr) (t : Tok) (h0 : 0 ≤ x) (h1 : x < 65536) (h2 : 0 ≤ y) (h3 : y < 4294967296) (ha : (a, ({ cls := .type "tuple", data := .seq #[.int x u, .int y v] } : Obj)) ∈ news) :
    Gives w mean mg mb 5 137 news [.str (Str.ofString "aggregator") t, .ref a] (BytesRet (be x 2 ++ be y 4)) := by
  unfold Gives
  k_fill
  intro dp un gd env outer A₀ base h₀ L m s Q E B F X N T hf hke hd hu hret
  refine wpAny_call ?_
  k_dflt (first | (refine' enterP ?k1 ?k2 ?k3 ?k4 ?k5 ?kA ?kF ?kK ?k6 ?k7 ?k8 ?k9 ?kB ?_ ?c2 ?c3 ?c4 ?c5; (case kA => exact rfl); (case kF => first | exact rfl | assumption); (case kK => first | exact rfl | assumption); (case k1 => k_asm); (case k2 => k_asm); (case k3 => k_asm); (case k4 => k_asm); (case k5 => k_asm); (case k6 => k_is); (case k7 => k_is); (case k8 => (first | exact room_at (by assumption) | ktr_room)); (case k9 => exact BindsTo.of_eq rfl); (case c5 => decide); (case kB => exact locs rfl); (case c2 => exact rfl); (case c3 => exact rfl); (case c4 => exact rfl); k_whole; intro g' L' h' FG' F' N' B' X' T' kG' l1; (try k_lt l1); (try dsimp only); (try k_lift B'); (try k_fold)) | (refine' enterC ?k1 ?k2 ?k3 ?k4 ?k5 ?kA ?kF ?kK ?k6 ?k7 ?k8 ?k9 ?kB ?kD ?_ ?c2 ?c3 ?c4; (case kA => exact rfl); (case kF => first | exact rfl | assumption); (case kK => first | exact rfl | assumption); (case k1 => k_asm); (case k2 => k_asm); (case k3 => k_asm); (case k4 => k_asm); (case k5 => k_asm); (case k6 => k_is); (case k7 => k_is); (case k8 => (first | exact room_at (by assumption) | ktr_room)); (case k9 => exact BindsTo.of_eq rfl); (case kB => exact rfl); (case kD => decide +kernel); (case c2 => exact rfl); (case c3 => exact rfl); (case c4 => exact rfl); k_whole; intro g' L' h' tk' cells' FG' F' N' Y' B' X' T' kG' l1; (try k_lt l1); k_cells Y'; (try simp only [List.cons_append, List.nil_append] at N'); (try dsimp only); (try k_lift B'); (try k_fold)))
  repeat (first | ((with_reducible show wpAny _ _ (call (Value.ref 88) _) _ _ _); (refine use_bytes (put_u8 _ _ (by first | omega | decide) (by first | omega | decide)) (by k_asm) (by k_asm) (by k_asm) (by k_asm) (by k_asm) rfl rfl (room_in (by assumption) (by decide)) (units_in (by assumption) (by decide)) ?_); intro t' h' tk' up' F' N'; (try dsimp only); (try k_sweep)) | ((with_reducible show wpAny _ _ (call (Value.ref 95) _) _ _ _); (refine use_bytes (put_u16 _ _ (by first | omega | decide) (by first | omega | decide)) (by k_asm) (by k_asm) (by k_asm) (by k_asm) (by k_asm) rfl rfl (room_in (by assumption) (by decide)) (units_in (by assumption) (by decide)) ?_); intro t' h' tk' up' F' N'; (try dsimp only); (try k_sweep)) | ((with_reducible show wpAny _ _ (call (Value.ref 102) _) _ _ _); (refine use_bytes (put_u32 _ _ (by first | omega | decide) (by first | omega | decide)) (by k_asm) (by k_asm) (by k_asm) (by k_asm) (by k_asm) rfl rfl (room_in (by assumption) (by decide)) (units_in (by assumption) (by decide)) ?_); intro t' h' tk' up' F' N'; (try dsimp only); (try k_sweep)) | ((with_reducible show wpAny _ _ (binaryOp _ (Value.bytes _ _) (Value.bytes _ _)) _ _ _); ((refine bytes_add rfl ?z ?_; (case z => (simp only [List.length_append, be, List.length_cons, List.length_nil]; omega))); intro _ _)) | ((with_reducible show wpAny _ _ (call (Value.builtin _) [Value.bytes (byteArr _) _]) _ _ _); (refine bytes_len ?z ?_; (case z => omega))) | (k_unfold; (try dsimp only)) | walk1 | (dsimp only; walk1))
  refine give hret N (by assumption) (by assumption) (by assumption) (by assumption) (by assumption) [] (fun p hp => ?_) (fun _ h => nomatch h) (.mk _ _ ?_)
  · repeat (first | exact hp | apply List.mem_cons_of_mem)
  · rfl

def FyU32 (v y : Value) : Prop := ∃ k t u, v = .int k t ∧ y = .bytes (byteArr (be k 4)) u
theorem FyU32.all {vs ys : List Value} {ns : List Int} (h : Paired FyU32 vs ys) (hi : IntsAre vs ns) : BytesAre ys (ns.map fun k => be k 4) := by
  induction h generalizing ns with
  | nil => cases hi; exact .nil
  | cons hv _ ih =>
    obtain ⟨k', t', u, rfl, rfl⟩ := hv
    cases hi with
    | cons _ _ hi => exact .cons _ _ (ih hi)
theorem flat4 (ns : List Int) : (ns.map fun k => be k 4).flatten.length = 4 * ns.length := by
  induction ns with
  | nil => rfl
  | cons k ns ih => exact (List.length_append (as := be k 4)).trans ((congrArg (4 + ·) ih).trans (Nat.add_comm 4 (4 * ns.length)))

local macro_rules | `(tactic| walk_at "eval ListComp") => `(tactic| refine Stop.of ?_)
local macro_rules | `(tactic| walk_at "LcGo") => `(tactic| refine Stop.of ?_)
local macro_rules | `(tactic| walk_at "call builtin:bytes.join") => `(tactic| refine Stop.of ?_)

theorem put_value_communities {news : Led} (a : Addr) (vs : List Value) (ns : List Int) (t : Tok) (ha : (a, ({ cls := .type "tuple", data := .seq vs.toArray } : Obj)) ∈ news) (hi : IntsAre vs ns) (hr : ∀ k ∈ ns, 0 ≤ k ∧ k < 4294967296) (hne : ns ≠ []) (hn : ns.length ≤ 64) :
    Gives w mean mg mb 5 137 news [.str (Str.ofString "communities") t, .ref a] (BytesRet ((ns.map fun k => be k 4).flatten)) := by
  unfold Gives
  k_fill
  intro dp un gd env outer A₀ base h₀ L m s Q E B F X N T hf hke hd hu hret
  refine wpAny_call ?_
  k_dflt (first | (refine' enterP ?k1 ?k2 ?k3 ?k4 ?k5 ?kA ?kF ?kK ?k6 ?k7 ?k8 ?k9 ?kB ?_ ?c2 ?c3 ?c4 ?c5; (case kA => exact rfl); (case kF => first | exact rfl | assumption); (case kK => first | exact rfl | assumption); (case k1 => k_asm); (case k2 => k_asm); (case k3 => k_asm); (case k4 => k_asm); (case k5 => k_asm); (case k6 => k_is); (case k7 => k_is); (case k8 => (first | exact room_at (by assumption) | ktr_room)); (case k9 => exact BindsTo.of_eq rfl); (case c5 => decide); (case kB => exact locs rfl); (case c2 => exact rfl); (case c3 => exact rfl); (case c4 => exact rfl); k_whole; intro g' L' h' FG' F' N' B' X' T' kG' l1; (try k_lt l1); (try dsimp only); (try k_lift B'); (try k_fold)) | (refine' enterC ?k1 ?k2 ?k3 ?k4 ?k5 ?kA ?kF ?kK ?k6 ?k7 ?k8 ?k9 ?kB ?kD ?_ ?c2 ?c3 ?c4; (case kA => exact rfl); (case kF => first | exact rfl | assumption); (case kK => first | exact rfl | assumption); (case k1 => k_asm); (case k2 => k_asm); (case k3 => k_asm); (case k4 => k_asm); (case k5 => k_asm); (case k6 => k_is); (case k7 => k_is); (case k8 => (first | exact room_at (by assumption) | ktr_room)); (case k9 => exact BindsTo.of_eq rfl); (case kB => exact rfl); (case kD => decide +kernel); (case c2 => exact rfl); (case c3 => exact rfl); (case c4 => exact rfl); k_whole; intro g' L' h' tk' cells' FG' F' N' Y' B' X' T' kG' l1; (try k_lt l1); k_cells Y'; (try simp only [List.cons_append, List.nil_append] at N'); (try dsimp only); (try k_lift B'); (try k_fold)))
  repeat (first | ((with_reducible show wpAny _ _ (call (Value.ref 88) _) _ _ _); (refine use_bytes (put_u8 _ _ (by first | omega | decide) (by first | omega | decide)) (by k_asm) (by k_asm) (by k_asm) (by k_asm) (by k_asm) rfl rfl (room_in (by assumption) (by decide)) (units_in (by assumption) (by decide)) ?_); intro t' h' tk' up' F' N'; (try dsimp only); (try k_sweep)) | ((with_reducible show wpAny _ _ (call (Value.ref 95) _) _ _ _); (refine use_bytes (put_u16 _ _ (by first | omega | decide) (by first | omega | decide)) (by k_asm) (by k_asm) (by k_asm) (by k_asm) (by k_asm) rfl rfl (room_in (by assumption) (by decide)) (units_in (by assumption) (by decide)) ?_); intro t' h' tk' up' F' N'; (try dsimp only); (try k_sweep)) | ((with_reducible show wpAny _ _ (call (Value.ref 102) _) _ _ _); (refine use_bytes (put_u32 _ _ (by first | omega | decide) (by first | omega | decide)) (by k_asm) (by k_asm) (by k_asm) (by k_asm) (by k_asm) rfl rfl (room_in (by assumption) (by decide)) (units_in (by assumption) (by decide)) ?_); intro t' h' tk' up' F' N'; (try dsimp only); (try k_sweep)) | ((with_reducible show wpAny _ _ (binaryOp _ (Value.bytes _ _) (Value.bytes _ _)) _ _ _); ((refine bytes_add rfl ?z ?_; (case z => (simp only [List.length_append, be, List.length_cons, List.length_nil]; omega))); intro _ _)) | ((with_reducible show wpAny _ _ (call (Value.builtin _) [Value.bytes (byteArr _) _]) _ _ _); (refine bytes_len ?z ?_; (case z => omega))) | ((with_reducible refine method_join ?_)) | (k_unfold; (try dsimp only)) | walk1 | (dsimp only; walk1))
  refine Stop.go ?_
  k_dflt (refine lc_quiet (by k_asm) (fun _ => true) FyU32 rfl (by with_unfolding_all rfl) (by decide) (by rfl) (by decide) (by rfl) ?_ (by intro _; rfl))
  repeat (first | ((with_reducible show wpAny _ _ (call (Value.ref 88) _) _ _ _); (refine use_bytes (put_u8 _ _ (by first | omega | decide) (by first | omega | decide)) (by k_asm) (by k_asm) (by k_asm) (by k_asm) (by k_asm) rfl rfl (room_in (by assumption) (by decide)) (units_in (by assumption) (by decide)) ?_); intro t' h' tk' up' F' N'; (try dsimp only); (try k_sweep)) | ((with_reducible show wpAny _ _ (call (Value.ref 95) _) _ _ _); (refine use_bytes (put_u16 _ _ (by first | omega | decide) (by first | omega | decide)) (by k_asm) (by k_asm) (by k_asm) (by k_asm) (by k_asm) rfl rfl (room_in (by assumption) (by decide)) (units_in (by assumption) (by decide)) ?_); intro t' h' tk' up' F' N'; (try dsimp only); (try k_sweep)) | ((with_reducible show wpAny _ _ (call (Value.ref 102) _) _ _ _); (refine use_bytes (put_u32 _ _ (by first | omega | decide) (by first | omega | decide)) (by k_asm) (by k_asm) (by k_asm) (by k_asm) (by k_asm) rfl rfl (room_in (by assumption) (by decide)) (units_in (by assumption) (by decide)) ?_); intro t' h' tk' up' F' N'; (try dsimp only); (try k_sweep)) | ((with_reducible show wpAny _ _ (binaryOp _ (Value.bytes _ _) (Value.bytes _ _)) _ _ _); ((refine bytes_add rfl ?z ?_; (case z => (simp only [List.length_append, be, List.length_cons, List.length_nil]; omega))); intro _ _)) | ((with_reducible show wpAny _ _ (call (Value.builtin _) [Value.bytes (byteArr _) _]) _ _ _); (refine bytes_len ?z ?_; (case z => omega))) | ((with_reducible refine method_join ?_)) | (k_unfold; (try dsimp only)) | walk1 | (dsimp only; walk1))
  refine Stop.go ?_
  have hT : ∀ {h g : Heap} {L : Addr}, News g L h news → h.IsTuple a vs.toArray := fun N => ⟨_, (N _ ha).1, rfl, _, rfl⟩
  refine ⟨_, _, _, Src.tuple (hT (by assumption)), le_size (hi.length ▸ hn : vs.length ≤ 64) (by decide), by k_asm, by k_asm, ?ht, ?he, ?hq⟩
  case ht => intros; exact wpAny_tests_nil ⟨rfl, keeps_self⟩
  case he =>
    intro C oC i v m₂ s₃ E' hv _ hC hm up F3 N3
    obtain ⟨k, t', rfl, hk⟩ := IntsAre.at hi i v (by simpa using hv)
    have hb := hr k (List.mem_of_getElem? hk)
    have hb1 := hb.1
    have hb2 := hb.2
    refine wpAny_mono (Q := fun y s₄ => Stop (FyU32 (.int k t') y ∧ Keeps s₃ s₄)) ?_ (fun _ _ h => h) (fun _ _ e => e)
    repeat (first | ((with_reducible show wpAny _ _ (call (Value.ref 88) _) _ _ _); (refine use_bytes (put_u8 _ _ (by first | omega | decide) (by first | omega | decide)) (by k_asm) (by k_asm) (by k_asm) (by k_asm) (by k_asm) rfl rfl (room_in (by assumption) (by decide)) (units_in (by assumption) (by decide)) ?_); intro t' h' tk' up' F' N'; (try dsimp only); (try k_sweep)) | ((with_reducible show wpAny _ _ (call (Value.ref 95) _) _ _ _); (refine use_bytes (put_u16 _ _ (by first | omega | decide) (by first | omega | decide)) (by k_asm) (by k_asm) (by k_asm) (by k_asm) (by k_asm) rfl rfl (room_in (by assumption) (by decide)) (units_in (by assumption) (by decide)) ?_); intro t' h' tk' up' F' N'; (try dsimp only); (try k_sweep)) | ((with_reducible show wpAny _ _ (call (Value.ref 102) _) _ _ _); (refine use_bytes (put_u32 _ _ (by first | omega | decide) (by first | omega | decide)) (by k_asm) (by k_asm) (by k_asm) (by k_asm) (by k_asm) rfl rfl (room_in (by assumption) (by decide)) (units_in (by assumption) (by decide)) ?_); intro t' h' tk' up' F' N'; (try dsimp only); (try k_sweep)) | ((with_reducible show wpAny _ _ (binaryOp _ (Value.bytes _ _) (Value.bytes _ _)) _ _ _); ((refine bytes_add rfl ?z ?_; (case z => (simp only [List.length_append, be, List.length_cons, List.length_nil]; omega))); intro _ _)) | ((with_reducible show wpAny _ _ (call (Value.builtin _) [Value.bytes (byteArr _) _]) _ _ _); (refine bytes_len ?z ?_; (case z => omega))) | ((with_reducible refine method_join ?_)) | (k_unfold; (try dsimp only)) | walk1 | (dsimp only; walk1))
    exact Stop.go ⟨⟨_, _, _, rfl, rfl⟩, keeps_heap (by assumption)⟩
  case hq =>
    intro D k ys us h9 tk9 hlen hus hP up F9 N9 ne9
    rw [filter_all] at hP
    have hus' : us = vs := same_list hlen hus
    subst hus'
    have hB := FyU32.all hP hi
    repeat (first | ((with_reducible show wpAny _ _ (call (Value.ref 88) _) _ _ _); (refine use_bytes (put_u8 _ _ (by first | omega | decide) (by first | omega | decide)) (by k_asm) (by k_asm) (by k_asm) (by k_asm) (by k_asm) rfl rfl (room_in (by assumption) (by decide)) (units_in (by assumption) (by decide)) ?_); intro t' h' tk' up' F' N'; (try dsimp only); (try k_sweep)) | ((with_reducible show wpAny _ _ (call (Value.ref 95) _) _ _ _); (refine use_bytes (put_u16 _ _ (by first | omega | decide) (by first | omega | decide)) (by k_asm) (by k_asm) (by k_asm) (by k_asm) (by k_asm) rfl rfl (room_in (by assumption) (by decide)) (units_in (by assumption) (by decide)) ?_); intro t' h' tk' up' F' N'; (try dsimp only); (try k_sweep)) | ((with_reducible show wpAny _ _ (call (Value.ref 102) _) _ _ _); (refine use_bytes (put_u32 _ _ (by first | omega | decide) (by first | omega | decide)) (by k_asm) (by k_asm) (by k_asm) (by k_asm) (by k_asm) rfl rfl (room_in (by assumption) (by decide)) (units_in (by assumption) (by decide)) ?_); intro t' h' tk' up' F' N'; (try dsimp only); (try k_sweep)) | ((with_reducible show wpAny _ _ (binaryOp _ (Value.bytes _ _) (Value.bytes _ _)) _ _ _); ((refine bytes_add rfl ?z ?_; (case z => (simp only [List.length_append, be, List.length_cons, List.length_nil]; omega))); intro _ _)) | ((with_reducible show wpAny _ _ (call (Value.builtin _) [Value.bytes (byteArr _) _]) _ _ _); (refine bytes_len ?z ?_; (case z => omega))) | ((with_reducible refine method_join ?_)) | (k_unfold; (try dsimp only)) | walk1 | (dsimp only; walk1))
    refine Stop.go ?_
    k_dflt (refine join_bytes ⟨_, (N9 _ (List.mem_cons_self ..)).1, rfl, _, rfl⟩ hB (by simpa using hne) (by rw [flat4]; exact Nat.le_trans (Nat.mul_le_mul_left 4 hn) (by decide)) ?_)
    intro t8 tk8
    repeat (first | ((with_reducible show wpAny _ _ (call (Value.ref 88) _) _ _ _); (refine use_bytes (put_u8 _ _ (by first | omega | decide) (by first | omega | decide)) (by k_asm) (by k_asm) (by k_asm) (by k_asm) (by k_asm) rfl rfl (room_in (by assumption) (by decide)) (units_in (by assumption) (by decide)) ?_); intro t' h' tk' up' F' N'; (try dsimp only); (try k_sweep)) | ((with_reducible show wpAny _ _ (call (Value.ref 95) _) _ _ _); (refine use_bytes (put_u16 _ _ (by first | omega | decide) (by first | omega | decide)) (by k_asm) (by k_asm) (by k_asm) (by k_asm) (by k_asm) rfl rfl (room_in (by assumption) (by decide)) (units_in (by assumption) (by decide)) ?_); intro t' h' tk' up' F' N'; (try dsimp only); (try k_sweep)) | ((with_reducible show wpAny _ _ (call (Value.ref 102) _) _ _ _); (refine use_bytes (put_u32 _ _ (by first | omega | decide) (by first | omega | decide)) (by k_asm) (by k_asm) (by k_asm) (by k_asm) (by k_asm) rfl rfl (room_in (by assumption) (by decide)) (units_in (by assumption) (by decide)) ?_); intro t' h' tk' up' F' N'; (try dsimp only); (try k_sweep)) | ((with_reducible show wpAny _ _ (binaryOp _ (Value.bytes _ _) (Value.bytes _ _)) _ _ _); ((refine bytes_add rfl ?z ?_; (case z => (simp only [List.length_append, be, List.length_cons, List.length_nil]; omega))); intro _ _)) | ((with_reducible show wpAny _ _ (call (Value.builtin _) [Value.bytes (byteArr _) _]) _ _ _); (refine bytes_len ?z ?_; (case z => omega))) | ((with_reducible refine method_join ?_)) | (k_unfold; (try dsimp only)) | walk1 | (dsimp only; walk1))
    refine give hret N (by assumption) (by assumption) (by assumption) (by assumption) (by assumption) [] (fun p hp => ?_) (fun _ h => nomatch h) (.mk _ _ ?_)
    · repeat (first | exact hp | apply List.mem_cons_of_mem)
    · rfl

end Mine
end

/-! part L -/
section
set_option maxRecDepth 100000
set_option maxHeartbeats 8000000
namespace Mine
open PySem PySem.W PyProof.Rows PySem.Spec PySem.Calls

section
variable {prog : Program} {w : World} {A : Around} {E : Value → Shared → Prop} {s : Shared}
theorem Src.keeps {h h' : Heap} {xv : Value} {n : Nat} {P : Nat → Value → Prop} (S : Src prog w h xv n P) (k : ∀ b o, h.get? b = some o → h'.get? b = some o) : Src prog w h' xv n P := by
  cases S with
  | list hl => exact .list (hl.at fun o e => k _ o e)
  | tuple hl => exact .tuple (hl.at fun o e => k _ o e)
  | range hr hs hn => exact .range (k _ _ hr) hs hn
  | dict hd lo => exact .dict (hd.at fun o e => k _ o e) lo

theorem src_base {h₀ : Heap} {xv : Value} {n : Nat} {P : Nat → Value → Prop} {Q : Value → Shared → Prop} (hh : A.handled = none) (S : Src prog w h₀ xv n P) (k : ∀ b o, h₀.get? b = some o → s.heap.get? b = some o)
    (h : ∀ fp St oI, Walks prog w A s.heap.objs.size fp [s.heap.objs.size] n P St → St 0 (s.heap.push oI) → (∀ b ∈ fp, b = s.heap.objs.size ∨ ∃ o, h₀.get? b = some o) → (∀ i h, St i h → ∃ o, h.get? s.heap.objs.size = some o) → oI.isFreed = false → Q (.ref s.heap.objs.size) { s with heap := s.heap.push oI }) :
    wpAny (model prog w) A (pyIter xv) Q E s := by
  have two : ∀ {a : Addr} {o : Obj}, h₀.get? a = some o → ∀ b ∈ [s.heap.objs.size, a], b = s.heap.objs.size ∨ ∃ o, h₀.get? b = some o := fun ha b hb => by
    rcases List.mem_cons.mp hb with rfl | hb
    · exact .inl rfl
    · rw [List.mem_singleton.mp hb]; exact .inr ⟨_, ha⟩
  cases S with
  | list hl₀ =>
    have hl := hl₀.at fun o e => k _ o e
    have hlt := (show _ < s.heap.objs.size by obtain ⟨_, e, _⟩ := hl; exact Heap.lt_size e)
    obtain ⟨o, e, _⟩ := hl₀
    exact wpAny_pyIter_list hl (h _ _ _ (Walks.list hh _ _ (Nat.ne_of_lt hlt) _) ⟨⟨_, Heap.get?_push_size _ rfl, rfl, rfl⟩, hl.push _⟩ (two e) (fun i h st => by obtain ⟨o, e, _⟩ := st.1; exact ⟨o, e⟩) rfl)
  | tuple hl₀ =>
    have hl := hl₀.at fun o e => k _ o e
    have hlt := (show _ < s.heap.objs.size by obtain ⟨_, e, _⟩ := hl; exact Heap.lt_size e)
    obtain ⟨o, e, _⟩ := hl₀
    exact wpAny_pyIter_tuple hl (h _ _ _ (Walks.tuple hh _ _ (Nat.ne_of_lt hlt) _) ⟨⟨_, Heap.get?_push_size _ rfl, rfl, rfl⟩, hl.at fun o e => Heap.get?_push_of_some _ e⟩ (two e) (fun i h st => by obtain ⟨o, e, _⟩ := st.1; exact ⟨o, e⟩) rfl)
  | @range r a b c t u v n hr hsm hn =>
    refine wpAny_pyIter_range (k _ _ hr) hsm (h _ _ _ (Walks.range hh _ a c n).bound ?_ ?_ ?_ rfl)
    · show IsRangeIter _ _ _ _ _
      rw [hn]; simpa using Heap.get?_push_size _ rfl
    · intro b hb
      exact .inl (List.mem_singleton.mp hb)
    · intro i h st; exact ⟨_, st⟩
  | dict hd₀ lo =>
    have hd := hd₀.at fun o e => k _ o e
    obtain ⟨ep, hD⟩ := hd.dictAt
    obtain ⟨o, e, _⟩ := Heap.dictOf_iff.mp hd₀
    exact wpAny_pyIter_dict lo hD (h _ _ _ (Walks.dictKeys hh _ _ (Nat.ne_of_lt hD.lt_size) _ ep) ⟨⟨_, Heap.get?_push_size _ rfl, rfl, rfl⟩, hD.push _⟩ (two e) (fun i h st => by obtain ⟨o, e, _⟩ := st.1; exact ⟨o, e⟩) rfl)

variable {env : Env} {h₀ : Heap} {x : Str} {body : List Stmt} {Q : Flow → Shared → Prop}

/-- a for over something that stood before the frame, with any word on frame and ledger between the turns -/
theorem for_src {xv : Value} {n : Nat} {P : Nat → Value → Prop} {m₀ : Str → Option Value} {news : Led} (J : Nat → (Str → Option Value) → Led → Prop)
    (hh : A.handled = none) (S : Src prog w h₀ xv n P) (F : Fr h₀ env.locals s.heap m₀) (N : News h₀ env.locals s.heap news) (h0 : J 0 m₀ news)
    (turn : ∀ i v m₁ news₁ I oI h tk, i < n → P i v → J i m₁ news₁ → Fr h₀ env.locals h (fun y => if y = x then some v else m₁ y) → News h₀ env.locals h ((I, oI) :: news₁) → (∀ p ∈ news₁, p.1 ≠ I) →
      wpAny (model prog w) A (execs body env) (UnrPost h₀ env.locals { s with heap := h, toks := tk } I oI (J (i + 1)) Q) E { s with heap := h, toks := tk })
    (done : ∀ m₁ news₁ h tk, J n m₁ news₁ → Fr h₀ env.locals h m₁ → News h₀ env.locals h news₁ → Q .next { s with heap := h, toks := tk }) :
    wpAny (model prog w) A (pyIter xv) (fun it s₂ => LoopAtV prog w A h₀ env x body Q E it s₂) E s := by
  refine src_base hh S F.keep fun fp St oI W hst hfp hIo hfree => ?_
  have hnew := next_is_new F
  have hnotlive : ∀ {o : Obj}, h₀.get? s.heap.objs.size = some o → False := fun e => by rw [hnew] at e; cases e
  refine ⟨_, fp, _, n, P, St, m₀, news, J, rfl, W, ?_, ?_, ?_, hst, F.push _, (fun p hp => ⟨Heap.get?_push_of_some _ (N p hp).1, (N p hp).2⟩), h0, ?_, ?_⟩
  · intro hm
    rcases hfp _ hm with e | ⟨o, e⟩
    · exact absurd F.ns.lt (e ▸ Nat.lt_irrefl _)
    · exact absurd (Nat.lt_of_lt_of_le (Heap.lt_size e) F.above) (Nat.lt_irrefl _)
  · intro b hb
    rw [List.mem_singleton.mp hb]; exact hnew
  · intro p hp hI
    exact absurd (Heap.lt_size (N p hp).1) ((List.mem_singleton.mp hI) ▸ Nat.lt_irrefl _)
  · rintro i v m₁ news₁ s₁ own ⟨hh', tk', rfl⟩ hin hP hJ hoff hown hget hall hst₁ F₁ N₁
    obtain ⟨oJ, eJ⟩ := hIo _ _ hst₁
    have hmem := hall s.heap.objs.size (W.sub _ (List.mem_singleton.mpr rfl)) hnew _ eJ
    have N₂ : News h₀ env.locals hh' ((s.heap.objs.size, oJ) :: news₁) := fun p hp => by
      rcases List.mem_cons.mp hp with rfl | hp
      · exact N₁ _ (List.mem_append_left _ hmem)
      · exact N₁ _ (List.mem_append_right _ hp)
    refine wpAny_mono (turn i v m₁ news₁ _ oJ hh' tk' hin hP hJ F₁ N₂ fun p hp e => hoff p hp (List.mem_singleton.mpr e)) (fun f s₂ p => ?_) fun _ _ e => e
    have fin : UnrEnd h₀ env.locals { s with heap := hh', toks := tk' } s.heap.objs.size oJ (J (i + 1)) s₂ → LoopStepU h₀ env.locals [s.heap.objs.size] own (J (i + 1)) { s with heap := hh', toks := tk' } .next s₂ := by
      rintro ⟨h', tk, m', news', e, F', N', ho, r⟩
      refine ⟨rfl, h', tk, m', news', e, F', fun p hp => ?_, fun p hp hI => ho p hp (List.mem_singleton.mp hI), r⟩
      rcases List.mem_append.mp hp with hp | hp
      · have h1 : p.1 = s.heap.objs.size := by
          rcases hfp _ (hown p hp) with e | ⟨o, e⟩
          · exact e
          · have := (N₁ p (List.mem_append_left _ hp)).2.2
            rw [e] at this; cases this
        have h2 : hh'.get? p.1 = some p.2 := hget p hp
        have h3 : p = (s.heap.objs.size, oJ) := by
          rw [h1, eJ] at h2
          exact Prod.ext h1 (Option.some.inj h2).symm
        rw [h3]; exact N' _ (List.mem_cons_self ..)
      · exact N' _ (List.mem_cons_of_mem _ hp)
    cases f with
    | ret v => exact .ret p
    | brk => exact .brk p
    | next => exact .next (fin p)
    | cont => exact .cont (fin p)
  · rintro h' tk m' news' F' N' _ hJ
    exact done m' news' h' tk hJ F' N'
end
end Mine
end

/-! part S -/
section
set_option maxRecDepth 100000
set_option maxHeartbeats 2000000
namespace Mine
open PySem PySem.W PyProof.Rows PySem.Spec PySem.Calls

/-- already in order: every look says no -/
theorem sort_asc {cmp : Nat → Nat → (Bool → Shared → Prop) → Shared → Prop} {s : Shared} {n : Nat} (h : ∀ i, i + 1 < n → ∀ C, C false s → cmp (i + 1) i C s) (hn : 1 ≤ n) {Q : Array Nat → Shared → Prop} (hQ : Q (List.range n).toArray s) :
    (kas_sort n).kasWp cmp Q s := by
  have key : ∀ (f k : Nat) (R : Nat → Shared → Prop), k + f = n → 1 ≤ k → R n s → (kas_asc (List.range n).toArray f k).kasWp cmp R s := by
    intro f
    induction f with
    | zero => intro k R hk _ hR; unfold kas_asc; have : k = n := hk
              subst this; exact hR
    | succ f ih =>
      intro k R hk h1 hR
      unfold kas_asc
      have e1 : (List.range n).toArray.getD k 0 = k := by
        have : k < n := lt_of_shift hk
        simp [this]
      have e2 : (List.range n).toArray.getD (k - 1) 0 = k - 1 := by
        have : k - 1 < n := Nat.lt_of_le_of_lt (Nat.sub_le k 1) (lt_of_shift hk)
        simp [this]
      show cmp _ _ _ s
      rw [e1, e2]
      have := h (k - 1) (Nat.lt_of_le_of_lt (Nat.le_of_eq (Nat.sub_add_cancel h1)) (lt_of_shift hk)) (fun b s' => (if b = true then KasT.ret k else kas_asc (List.range n).toArray f (k + 1)).kasWp cmp R s') (by
        simp only [Bool.false_eq_true, if_false]
        exact ih (k + 1) R (shift_add hk) (Nat.le_add_left 1 k) hR)
      rw [Nat.sub_add_cancel h1] at this
      exact this
  unfold kas_sort
  rw [KasT.kasWp_bind]
  unfold kas_count
  rw [KasT.kasWp_bind]
  refine key (n - 1) 1 _ (Nat.add_sub_of_le hn) (Nat.le_refl _) ?_
  simp only [beq_self_eq_true, if_true]
  show (if n < n then _ else KasT.ret (List.range n).toArray : KasT (Array Nat)).kasWp cmp Q s
  rw [if_neg (Nat.lt_irrefl n)]
  exact hQ

/-- rows: references to pairs of an int and something -/
inductive PairsIn (news : Led) : List Value → List (Int × Value) → Prop
  | nil : PairsIn news [] []
  | cons {a : Addr} {o : Obj} {c : Int} {t : Tok} {v : Value} {n : Nat} {vs : List Value} {R : List (Int × Value)} : (a, o) ∈ news → o.cls = .type "tuple" → o.data = .seq #[.int c t, v] n → PairsIn news vs R → PairsIn news (.ref a :: vs) ((c, v) :: R)
theorem PairsIn.mono {news news' : Led} {vs : List Value} {R : List (Int × Value)} (h : PairsIn news vs R) (hs : ∀ p ∈ news, p ∈ news') : PairsIn news' vs R := by
  induction h with
  | nil => exact .nil
  | cons a b c _ ih => exact .cons (hs _ a) b c ih
theorem PairsIn.length {news : Led} {vs : List Value} {R : List (Int × Value)} (h : PairsIn news vs R) : vs.length = R.length := by
  induction h with
  | nil => rfl
  | cons a b c _ ih => simp [ih]
theorem PairsIn.snoc {news : Led} {vs : List Value} {R : List (Int × Value)} {a : Addr} {o : Obj} {c : Int} {t : Tok} {v : Value} {n : Nat} (h : PairsIn news vs R) (ha : (a, o) ∈ news) (hc : o.cls = .type "tuple") (hd : o.data = .seq #[.int c t, v] n) : PairsIn news (vs ++ [.ref a]) (R ++ [(c, v)]) := by
  induction h with
  | nil => exact .cons ha hc hd .nil
  | cons a b c _ ih => exact .cons a b c ih
/-- one of the rows -/
inductive PairAt (news : Led) (vs : List Value) (R : List (Int × Value)) (i : Nat) : Prop
  | mk (a : Addr) (o : Obj) (c : Int) (t : Tok) (v : Value) (n : Nat) : vs.getD i .none = .ref a → (a, o) ∈ news → o.cls = .type "tuple" → o.data = .seq #[.int c t, v] n → R[i]? = some (c, v) → PairAt news vs R i
theorem PairsIn.at {news : Led} {vs : List Value} {R : List (Int × Value)} (h : PairsIn news vs R) : ∀ i, i < vs.length → PairAt news vs R i := by
  induction h with
  | nil => intro i hi; exact absurd hi (Nat.not_lt_zero _)
  | cons a b c _ ih =>
    intro i hi
    cases i with
    | zero => exact ⟨_, _, _, _, _, _, rfl, a, b, c, rfl⟩
    | succ i =>
      obtain ⟨a', o', c', t', v', n', h1, h2, h3, h4, h5⟩ := ih i (by simpa using hi)
      exact ⟨a', o', c', t', v', n', by simpa using h1, h2, h3, h4, by simpa using h5⟩

section
variable {prog : Program} {w : World} {A : Around} {E : Value → Shared → Prop} {s : Shared} {h₀ : Heap} {L : Addr} {m : Str → Option Value} {news : Led}
theorem PairsIn.tups {h : Heap} {vs : List Value} {R : List (Int × Value)} (N : News h₀ L h news) (p : PairsIn news vs R) : ∃ fs, KatTups h vs fs ∧ fs.length = vs.length ∧ ∀ v ∈ fs, ∃ c t, v = .int c t := by
  induction p with
  | nil => exact ⟨[], .nil, rfl, fun _ h => nomatch h⟩
  | cons a b c _ ih =>
    obtain ⟨fs, h1, h2, h3⟩ := ih
    refine ⟨_ :: fs, .cons (N _ a).1 b c rfl h1, by simp [h2], fun v hv => ?_⟩
    rcases List.mem_cons.mp hv with rfl | hv
    · exact ⟨_, _, rfl⟩
    · exact h3 v hv

theorem map_getD (vs : List Value) : (List.range vs.length).map (fun i => vs.getD i Value.none) = vs := by
  apply List.ext_getElem
  · simp
  · intro i h1 h2
    simp at h1
    simp [h1]

theorem sorted_pairs {l : Addr} {vs : List Value} {R : List (Int × Value)} {Q : Value → Shared → Prop} (F : Fr h₀ L s.heap m) (N : News h₀ L s.heap news) (hl : s.heap.IsList l vs.toArray) (p : PairsIn news vs R)
    (asc : ∀ i x y, R[i]? = some x → R[i + 1]? = some y → x.1 < y.1) (h2 : 2 ≤ vs.length) (h64 : vs.length < 64)
    (h : ∀ D k h' tk, Fr h₀ L h' m → News h₀ L h' ((D, listOf vs.toArray k) :: news) → (∀ q ∈ news, q.1 < D) → Q (.ref D) { s with heap := h', toks := tk }) :
    wpAny (model prog w) A (call (.builtin "sorted") [.ref l]) Q E s := by
  refine kat_sorted F N hl h2 h64 fun D e1 h' F' N' hlt => ?_
  have N1 : News h₀ L h' news := fun q hq => N' q (.tail _ hq)
  obtain ⟨fs, t1, t2, t3⟩ := p.tups N1
  refine kat_kind (T := .type "int") t1 (t2 ▸ Nat.lt_of_lt_of_le (by decide) h2) (fun v hv => ?_) (by decide) ?_
  · obtain ⟨c, t, rfl⟩ := t3 v hv
    exact .now
  · refine sort_asc (fun i hi C hC => ?_) (Nat.le_trans (by decide) h2) ?_
    · obtain ⟨a1, o1, c1, t1, v1, n1, e1, m1, _, d1, r1⟩ := p.at i (Nat.lt_of_succ_lt hi)
      obtain ⟨a2, o2, c2, t2, v2, n2, e2, m2, _, d2, r2⟩ := p.at (i + 1) hi
      have hlt12 := asc i _ _ r1 r2
      unfold kas_ask
      rw [e1, e2]
      refine kat_lt (N1 _ m2).1 d2 (N1 _ m1).1 d1 ?_
      refine kat_cons (wpAny_eqBool_int ?_)
      have e : decide (c2 = c1) = false := decide_eq_false (by intro e; rw [e] at hlt12; exact absurd hlt12 (Int.lt_irrefl _))
      have e' : decide (c2 < c1) = false := decide_eq_false (Int.not_lt.mpr (Int.le_of_lt hlt12))
      first | rw [e] | (rw [show (c2 == c1) = false from by simpa using e])
      refine kat_no ?_
      refine oneLt_int ?_
      rw [e']; exact hC
    · show KasFin h₀ L m D _ ((List.range vs.length).toArray.toList.map fun i => vs.getD i Value.none) _ _
      rw [List.toList_toArray, map_getD]
      exact KasFin.intro F' N' (UpdF.head fun q hq => Nat.ne_of_lt (hlt q hq)) fun h'' c F'' N'' => h D c h'' _ F'' N'' hlt

theorem list_sort_one {a : Addr} {v : Value} {n : Nat} {P : PySem.Fin → Shared → Prop} (F : Fr h₀ L s.heap m) (N : News h₀ L s.heap news) (ho : s.heap.get? a = some (seqObj "list" #[v] n)) (haL : a ≠ L) (ha0 : h₀.get? a = none) (hna : ∀ p ∈ news, p.1 ≠ a)
    (h : ∀ k h', Fr h₀ L h' m → News h₀ L h' ((a, listOf #[v] k) :: news) → P (.done (.ret .none)) { s with heap := h' }) :
    wpAny (model prog w) A (Builtin.«list.sort» ⟨[.ref a], []⟩) P E s := by
  have s1 := Heap.SameBut.update s.heap a (Obj.mapSeq fun _ => (#[] : Array Value))
  obtain ⟨e1, ho1⟩ : ∃ e1, (s.heap.update a (Obj.mapSeq fun _ => (#[] : Array Value))).get? a = some (seqObj "list" #[] e1) := ⟨_, get?_update_seq ho fun _ => #[]⟩
  have F3 : Fr h₀ L (((s.heap.update a (Obj.mapSeq fun _ => (#[] : Array Value))).push (seqObj "tuple" #[v] 0)).push (seqObj "list" #[] 0)) m := ((kas_fr F s1 haL ha0).push _).push _
  have N2 : News h₀ L (((s.heap.update a (Obj.mapSeq fun _ => (#[] : Array Value))).push (seqObj "tuple" #[v] 0)).push (seqObj "list" #[] 0)) news :=
    (kas_news N s1 hna).grown fun b x e => Heap.get?_push_of_some _ (Heap.get?_push_of_some _ e)
  have ho3 : (((s.heap.update a (Obj.mapSeq fun _ => (#[] : Array Value))).push (seqObj "tuple" #[v] 0)).push (seqObj "list" #[] 0)).get? a = some (seqObj "list" #[] e1) := Heap.get?_push_of_some _ (Heap.get?_push_of_some _ ho1)
  rw [list_sort_plain]
  refine wpAny_bind (listItems_at ho rfl ?_)
  refine wpAny_bind (listUpdate_at ho rfl ?_ (by rw [sizeLine_eq]; exact Nat.le_of_ble_eq_true rfl) (Nat.zero_le _))
  refine wpAny_bind (seqEpoch_at ho1 rfl ?_)
  refine wpAny_bind (wpAny_newTuple ?_ (by rw [sizeLine_eq]; exact Nat.le_of_ble_eq_true rfl))
  refine wpAny_bind (wpAny_newList ?_ (Nat.zero_le _))
  refine wpAny_holding ?_
  show wpAny (model prog w) A _ P E { s with heap := ((s.heap.update a (Obj.mapSeq fun _ => (#[] : Array Value))).push (seqObj "tuple" #[v] 0)).push (seqObj "list" #[] 0) }
  dsimp only
  rw [if_pos (show (#[v] : Array Value).size < 2 from Nat.lt_succ_self 1), if_pos (show (#[v] : Array Value).size < 2 from Nat.lt_succ_self 1)]
  refine wpAny_bind (wpAny_pure ?_)
  refine wpAny_bind (wpAny_pure ?_)
  refine wpAny_bind (seqEpoch_at ho3 rfl ?_)
  have ha : Array.map (fun (x : Keyed) => x.snd) (arrOf ((), SortSt.mk' general' ((#[v] : Array Value).zip #[v]) #[] 7 none).snd) = #[v] := by
    show Array.map (fun (x : Keyed) => x.snd) ((#[v] : Array Value).zip #[v]) = #[v]
    apply Array.ext'
    simp
  rw [ha]
  refine wpAny_bind (listUpdate_at ho3 rfl ?_ (Nat.zero_le _) (by rw [sizeLine_eq]; exact Nat.le_of_ble_eq_true rfl))
  have hf : failedOf ((), SortSt.mk' general' ((#[v] : Array Value).zip #[v]) #[] 7 none).2 = none := rfl
  rw [hf]
  simp only [bne_self_eq_false, Bool.false_eq_true, if_false]
  have s2 := Heap.SameBut.update (((s.heap.update a (Obj.mapSeq fun _ => (#[] : Array Value))).push (seqObj "tuple" #[v] 0)).push (seqObj "list" #[] 0)) a (Obj.mapSeq fun _ => (#[v] : Array Value))
  obtain ⟨c2, hc2⟩ : ∃ c2, ((((s.heap.update a (Obj.mapSeq fun _ => (#[] : Array Value))).push (seqObj "tuple" #[v] 0)).push (seqObj "list" #[] 0)).update a (Obj.mapSeq fun _ => (#[v] : Array Value))).get? a = some (seqObj "list" #[v] c2) := ⟨_, get?_update_seq ho3 fun _ => #[v]⟩
  refine wpAny_pure (h c2 _ (kas_fr F3 s2 haL ha0) fun p hp => ?_)
  rcases List.mem_cons.mp hp with rfl | hp
  · exact ⟨hc2, haL, ha0⟩
  · exact kas_news N2 s2 hna p hp

theorem sorted_one {l : Addr} {v : Value} {Q : Value → Shared → Prop} (F : Fr h₀ L s.heap m) (N : News h₀ L s.heap news) (hl : s.heap.IsList l #[v])
    (h : ∀ D k h', Fr h₀ L h' m → News h₀ L h' ((D, listOf #[v] k) :: news) → (∀ q ∈ news, q.1 < D) → Q (.ref D) { s with heap := h' }) :
    wpAny (model prog w) A (call (.builtin "sorted") [.ref l]) Q E s := by
  refine Calls.call_function_entry kind_sorted plain_sorted entry_sorted (args_sorted1 _) ?_
  unfold Builtin.«sorted»
  refine wpAny_bind (m := checkCount "sorted" 1 1 _) (wpAny_pure ?_)
  refine wpAny_bind (collect_list (vs := [v]) hl ?_ (by rw [sizeLine_eq]; exact Nat.le_of_ble_eq_true rfl))
  refine wpAny_bind (wpAny_newList ?_ (by rw [sizeLine_eq]; exact Nat.le_of_ble_eq_true rfl))
  have hsz : ((s.heap.push (seqObj "list" #[] 0)).update s.heap.objs.size (Obj.mapSeq (· ++ #[v]))).objs.size = s.heap.objs.size + 1 := by
    rw [Heap.size_update, size_push']
  have hoL : (((s.heap.push (seqObj "list" #[] 0)).update s.heap.objs.size (Obj.mapSeq (· ++ #[v]))).push (seqObj "list" #[v] 0)).get? (s.heap.objs.size + 1) = some (seqObj "list" #[v] 0) := by
    rw [← hsz]; exact Heap.get?_push_size _ rfl
  have keep : ∀ b o, s.heap.get? b = some o → (((s.heap.push (seqObj "list" #[] 0)).update s.heap.objs.size (Obj.mapSeq (· ++ #[v]))).push (seqObj "list" #[v] 0)).get? b = some o := fun b o q => by
    have hlt : b < s.heap.objs.size := Heap.lt_size q
    rw [Heap.get?_push_ne _ _ _ (by rw [hsz]; exact Nat.ne_of_lt (Nat.lt_succ_of_lt hlt)), Heap.get?_update_ne _ _ _ _ (Nat.ne_of_lt hlt), Heap.get?_push_ne _ _ _ (Nat.ne_of_lt hlt)]
    exact q
  have hL : L < s.heap.objs.size := F.ns.lt
  show wpAny _ _ _ _ _ { s with heap := ((s.heap.push (seqObj "list" #[] 0)).update s.heap.objs.size (Obj.mapSeq (· ++ #[v]))).push (seqObj "list" #[v] 0) }
  rw [hsz]
  refine wpAny_bind (wpAny_holding (wpAny_call_entry slot_list_sort ⟨_, hoL, rfl⟩ entry_list_sort ?body (args_list_sort _)))
  case body =>
    refine list_sort_one (s := { s with heap := ((s.heap.push (seqObj "list" #[] 0)).update s.heap.objs.size (Obj.mapSeq (· ++ #[v]))).push (seqObj "list" #[v] 0) })
      (F.kept keep) (N.grown keep) hoL (Nat.ne_of_gt (Nat.lt_succ_of_lt hL)) (Heap.get?_none_of_le (Nat.le_trans F.above (Nat.le_succ_of_le (Nat.le_of_lt hL))))
      (fun p hp => Nat.ne_of_lt (Nat.lt_succ_of_lt (Heap.lt_size (N p hp).1))) fun k h' F' N' => ?_
    exact ⟨_, rfl, wpAny_pure ⟨_, rfl, h _ k h' F' N' fun q hq => Nat.lt_succ_of_lt (Heap.lt_size (N q hq).1)⟩⟩

/-- sorted of rows whose numbers rise: the same rows -/
theorem sorted_rows {l : Addr} {vs : List Value} {R : List (Int × Value)} {Q : Value → Shared → Prop} (F : Fr h₀ L s.heap m) (N : News h₀ L s.heap news) (hl : s.heap.IsList l vs.toArray) (p : PairsIn news vs R)
    (asc : ∀ i x y, R[i]? = some x → R[i + 1]? = some y → x.1 < y.1) (h1 : R ≠ []) (h64 : R.length < 64)
    (h : ∀ D k h' tk, Fr h₀ L h' m → News h₀ L h' ((D, listOf vs.toArray k) :: news) → (∀ q ∈ news, q.1 < D) → Q (.ref D) { s with heap := h', toks := tk }) :
    wpAny (model prog w) A (call (.builtin "sorted") [.ref l]) Q E s := by
  have hlen := p.length
  match vs, hl, p, h, hlen with
  | [], _, p, _, hlen => cases R with
    | nil => exact absurd rfl h1
    | cons _ _ => simp at hlen
  | [v], hl, p, h, _ => exact sorted_one F N hl fun D k h' F' N' hlt => h D k h' _ F' N' hlt
  | v :: v' :: vs, hl, p, h, hlen => exact sorted_pairs F N hl p asc (by simp) (hlen ▸ h64) h
end
end Mine
end

/-! part P -/
section
set_option maxRecDepth 100000
set_option maxHeartbeats 2000000
namespace Mine
open PySem PySem.W PyProof.Rows PySem.Spec PySem.Calls

section
variable {prog : Program} {w : World} {A : Around} {E : Value → Shared → Prop} {s : Shared} {h₀ : Heap} {L : Addr} {m : Str → Option Value} {news : Led} {env : Env}

theorem lst_list (ys : List Value) : LCg.lst ys = listOf ys.toArray ys.length := rfl

/-- the second of each pair -/
theorem rest_second {x x₂ : Str} {p₂ : Pos} {scope : Scope} {cl : List (Str × Addr)} {ax : Addr} {vs : List Value} {R : List (Int × Value)} {Fin : List Value → Led → Prop} (p : PairsIn news vs R)
    (hS : LCg.SrcAt h₀ ax vs.toArray news) (hk : ∀ C, (compEnvC scope cl C env).scope.kind = .function) (hl : ∀ C, (compEnvC scope cl C env).kindOf x₂ = some .local) (hd : (x₂ == ("__debug__" : Str)) = false)
    (h : Fin (R.map (·.2)) news) :
    LCp.CompRestP prog w A h₀ L m env (.Name x₂ p₂) x x₂ scope cl s (LCg.SrcAt h₀ ax vs.toArray) (fun i v => vs.toArray[i]? = some v) Fin vs.toArray.size 0 [] news := by
  have key : ∀ (j i : Nat), i + j = vs.length → LCp.CompRestP prog w A h₀ L m env (.Name x₂ p₂) x x₂ scope cl s (LCg.SrcAt h₀ ax vs.toArray) (fun i v => vs.toArray[i]? = some v) Fin j i ((R.take i).map (·.2)) news := by
    intro j
    induction j with
    | zero =>
      intro i hi
      refine LCp.CompRestP.zero ?_
      rw [List.take_of_length_le (by rw [← p.length]; exact Nat.le_of_eq hi.symm)]
      exact h
    | succ j ih =>
      intro i hi
      refine LCp.CompRestP.succ fun v hv => ?_
      obtain ⟨a, o, c, t, v₂, n, e1, h1, h2, h3, h4⟩ := p.at i (lt_of_shift hi)
      have hv' : v = .ref a := by
        have hi' : i < vs.length := lt_of_shift hi
        simp [hi'] at hv e1
        rw [← hv, e1]
      refine ⟨a, o, _, v₂, n, hv', h1, h2, h3, ?_⟩
      intro I oI C oC D m₂ h tk E' hC hx hx₂ F N off ne
      refine LCgL.ld_own (N := N) (List.mem_cons_of_mem _ (List.mem_cons_self ..)) hC hx₂ ?_ (hk C) (hl C) hd
      refine LCg.CompEnd.intro F N news (fun q hq => hq) off hS ?_
      have := ih (i + 1) (shift_add hi)
      rw [List.take_add_one, h4] at this
      simpa using this
  have := key vs.length 0 (Nat.zero_add _)
  simpa using this

theorem list_pairs_second {iter : Expr} {x x₂ : Str} {px px₂ p₂ tp : Pos} {tk} {scope : Scope} {cl : List (Str × Addr)} {pos : Pos} {Q : Value → Shared → Prop} (F₀ : Fr h₀ L s.heap m)
    (hclos : closureFor scope env = pure cl) (hcell : ∀ y ∈ scope.names, y.2 ≠ .cell) (hkind : scope.kind = .function)
    (hnames : ∀ y ∈ scope.names, y.2 = .local → scope.names.lookup y.1 = some .local) (hx : scope.names.lookup x = some .local) (hx₂ : scope.names.lookup x₂ = some .local) (hxx : x ≠ x₂)
    (hl : ∀ C, (compEnvC scope cl C env).kindOf x₂ = some .local) (hk : ∀ C, (compEnvC scope cl C env).scope.kind = .function) (hd : (x₂ == ("__debug__" : Str)) = false) (hh : A.handled = none)
    (h : wpAny (model prog w) A (eval iter env) (fun xv s₁ => ∃ l vs k R news, xv = .ref l ∧ Fr h₀ L s₁.heap m ∧ News h₀ L s₁.heap news ∧ (l, listOf vs.toArray k) ∈ news ∧ PairsIn news vs R ∧ vs.length ≤ 64 ∧
      ∀ D h tk, Fr h₀ L h m → News h₀ L h ((D, listOf (R.map (·.2)).toArray (R.map (·.2)).length) :: news) → Q (.ref D) { s₁ with heap := h, toks := tk }) E s)
    (hs : ∀ x, foldedSetIterable iter env x = pure x := by intro _; rfl) :
    wpAny (model prog w) A (eval (.ListComp (.Name x₂ p₂) [⟨.Tuple [.Name x px, .Name x₂ px₂] tk tp, iter, [], 0⟩] scope pos) env) Q E s := by
  refine LCp.ListComp_P F₀ hclos hcell hkind hnames hx hx₂ hxx (wpAny_mono h (fun xv s₁ h₁ => ?_) fun _ _ e => e) hs
  obtain ⟨l, vs, k, R, news, rfl, F, N, hm, p, hsz, hQ⟩ := h₁
  refine LCp.SrcLP.ledger hh F N hm (le_size hsz (by decide)) fun g => ?_
  refine rest_second p (.inr ⟨_, hm, rfl, _, rfl⟩) hk hl hd ?_
  intro D h tk F' N' o1
  exact hQ D h tk F' N'
end
end Mine
end

/-! part A -/
section
set_option maxRecDepth 100000
set_option maxHeartbeats 2000000
namespace Mine
open PySem PySem.W PyProof.Rows PySem.Spec PySem.Calls

/-- what an attribute's value says -/
inductive VD | num (n : Int) | nums (l : List Int) | txts (l : List Str)
def VD.Holds (news : Led) : VD → Value → Prop
  | .num n, v => ∃ t, v = .int n t
  | .nums l, v => ∃ a vs, v = .ref a ∧ (a, ({ cls := .type "tuple", data := .seq vs.toArray } : Obj)) ∈ news ∧ IntsAre vs l
  | .txts l, v => ∃ a vs, v = .ref a ∧ (a, ({ cls := .type "tuple", data := .seq vs.toArray } : Obj)) ∈ news ∧ StrsAre vs l
/-- the datum of a law's attributes -/
structure AW where
  med : Option Int
  ag : Bool
  agm : Bool
  held : List Int
  cm : Bool
def AW.marks (W : AW) : List Str := (if (W.ag && W.agm) = true then [Str.ofString "aggregator"] else []) ++ (if (!W.held.isEmpty && W.cm) = true then [Str.ofString "communities"] else [])
def AW.look (W : AW) (k : Str) : Option VD :=
  if k = Str.ofString "origin" then some (.num 0)
  else if k = Str.ofString "med" then W.med.map .num
  else if k = Str.ofString "aggregator" then (if W.ag = true then some (.nums [7, 9]) else none)
  else if k = Str.ofString "communities" then (if W.held.isEmpty = true then none else some (.nums W.held))
  else if k = Str.ofString "partial" then (if W.marks.isEmpty = true then none else some (.txts W.marks))
  else none
def OptIs (news : Led) : Option VD → Option Value → Prop
  | none, x => x = none
  | some d, x => ∃ v, x = some v ∧ d.Holds news v
def keys5 : List Str := [Str.ofString "origin", Str.ofString "med", Str.ofString "aggregator", Str.ofString "communities", Str.ofString "partial"]
structure Desc (news : Led) (kvs : List (Str × Value)) (W : AW) : Prop where
  nd : (kvs.map (·.1)).Nodup
  at_ : ∀ k, OptIs news (W.look k) (valueAt kvs k)
structure AW.Ok (W : AW) : Prop where
  med : ∀ m, W.med = some m → 0 ≤ m ∧ m < 256
  held : ∀ k ∈ W.held, 0 ≤ k ∧ k < 4294967296
  len : W.held.length ≤ 3

theorem VD.Holds.mono {news news' : Led} {d : VD} {v : Value} (h : d.Holds news v) (hs : ∀ p ∈ news, p ∈ news') : d.Holds news' v := by
  cases d with
  | num n => exact h
  | nums l => obtain ⟨a, vs, e, m, i⟩ := h; exact ⟨a, vs, e, hs _ m, i⟩
  | txts l => obtain ⟨a, vs, e, m, i⟩ := h; exact ⟨a, vs, e, hs _ m, i⟩
theorem OptIs.mono {news news' : Led} {d : Option VD} {v : Option Value} (h : OptIs news d v) (hs : ∀ p ∈ news, p ∈ news') : OptIs news' d v := by
  cases d with
  | none => exact h
  | some d => obtain ⟨v, e, h⟩ := h; exact ⟨v, e, h.mono hs⟩
theorem Desc.mono {news news' : Led} {kvs : List (Str × Value)} {W : AW} (h : Desc news kvs W) (hs : ∀ p ∈ news, p ∈ news') : Desc news' kvs W := ⟨h.nd, fun k => (h.at_ k).mono hs⟩
theorem mem_of_valueAt {kvs : List (Str × Value)} {k : Str} (h : k ∈ kvs.map (·.1)) : ∃ v, valueAt kvs k = some v := by
  obtain ⟨p, hp, rfl⟩ := List.mem_map.mp h
  unfold valueAt
  cases e : kvs.find? fun kv => decide (kv.1 = p.1) with
  | none => have := List.find?_eq_none.mp e p hp; simp at this
  | some x => exact ⟨_, rfl⟩
theorem mem_of_some {kvs : List (Str × Value)} {k : Str} {v : Value} (h : valueAt kvs k = some v) : k ∈ kvs.map (·.1) := by
  unfold valueAt at h
  cases e : kvs.find? fun kv => decide (kv.1 = k) with
  | none => rw [e] at h; cases h
  | some x =>
    have h1 := List.find?_some e
    have h2 := List.mem_of_find?_eq_some e
    exact List.mem_map.mpr ⟨x, h2, by simpa using h1⟩
theorem Desc.keys {news : Led} {kvs : List (Str × Value)} {W : AW} (h : Desc news kvs W) {k : Str} (hk : k ∈ kvs.map (·.1)) : k ∈ keys5 := by
  obtain ⟨v, hv⟩ := mem_of_valueAt hk
  have := h.at_ k
  rw [hv] at this
  unfold keys5
  by_cases h1 : k = Str.ofString "origin"
  · simp [h1]
  by_cases h2 : k = Str.ofString "med"
  · simp [h2]
  by_cases h3 : k = Str.ofString "aggregator"
  · simp [h3]
  by_cases h4 : k = Str.ofString "communities"
  · simp [h4]
  by_cases h5 : k = Str.ofString "partial"
  · simp [h5]
  unfold AW.look at this
  rw [if_neg h1, if_neg h2, if_neg h3, if_neg h4, if_neg h5] at this
  cases this
theorem dget {prog : Program} {w : World} {A : Around} {E : Value → Shared → Prop} {s : Shared} {h₀ : Heap} {L : Addr} {news : Led} {d : Addr} {o : Obj} {kvs : List (Str × Value)} {k : Str} {key dflt x : Value} {Q : Value → Shared → Prop}
    (N : News h₀ L s.heap news) (hp : (d, o) ∈ news) (hd : o.IsDictOf (PySem.strKind prog w) kvs) (lo : (d == sysModules) = false) (hkey : (PySem.strKind prog w).is k key = true) (hl : (valueAt kvs k).getD dflt = x) (h : Q x { s with toks := s.toks + 1 }) :
    wpAny (model prog w) A (call (.builtin "dict.get") [.ref d, key, dflt]) Q E s := by
  subst hl
  exact kdg_get2 N hp hd lo hkey _ rfl h
theorem nodup_le {α : Type} [BEq α] [LawfulBEq α] : ∀ (l r : List α), l.Nodup → (∀ x ∈ l, x ∈ r) → l.length ≤ r.length
  | [], _, _, _ => Nat.zero_le _
  | x :: l, r, hn, hs => by
    obtain ⟨h1, h2⟩ := List.nodup_cons.mp hn
    have hx := hs x (List.mem_cons_self ..)
    have h3 := nodup_le l (r.erase x) h2 fun y hy => (List.mem_erase_of_ne (fun (e : y = x) => h1 (e ▸ hy))).mpr (hs y (List.mem_cons_of_mem _ hy))
    rw [List.length_erase_of_mem hx] at h3
    exact Nat.lt_of_le_pred (List.length_pos_of_mem hx) h3
theorem Desc.len {news : Led} {kvs : List (Str × Value)} {W : AW} (h : Desc news kvs W) : kvs.length ≤ 5 := by
  have := nodup_le _ keys5 h.nd fun k hk => h.keys hk
  simpa [keys5] using this

/-- the octets of a value -/
def VD.octets (x : Str) : VD → List Int
  | .num n => if x = Str.ofString "origin" then be n 1 else be n 4
  | .nums l => if x = Str.ofString "aggregator" then be (l.getD 0 0) 2 ++ be (l.getD 1 0) 4 else (l.map fun k => be k 4).flatten
  | .txts _ => []

def table : List (Int × Str × Int) := [(1, Str.ofString "origin", 64), (2, Str.ofString "as_path", 64), (3, Str.ofString "next_hop", 64), (4, Str.ofString "med", 128), (5, Str.ofString "local_pref", 64), (6, Str.ofString "atomic", 64), (7, Str.ofString "aggregator", 192), (8, Str.ofString "communities", 192), (9, Str.ofString "originator", 128), (10, Str.ofString "clusters", 128)]
def AW.row (W : AW) (r : Int × Str × Int) : Option (Int × List Int) :=
  (W.look r.2.1).map fun d => (r.1, [if W.marks.any (· == r.2.1) = true then Builtin.bitOr r.2.2 32 else r.2.2, r.1, ((d.octets r.2.1).length : Int)] ++ d.octets r.2.1)
def AW.rows (W : AW) : List (Int × List Int) := table.filterMap W.row
def AW.octs (W : AW) : List Int := (W.rows.map (·.2)).flatten

theorem look_cases {W : AW} {x : Str} {d : VD} (h : W.look x = some d) :
    (x = Str.ofString "origin" ∧ d = .num 0) ∨ (x = Str.ofString "med" ∧ ∃ m, W.med = some m ∧ d = .num m) ∨ (x = Str.ofString "aggregator" ∧ W.ag = true ∧ d = .nums [7, 9]) ∨ (x = Str.ofString "communities" ∧ W.held.isEmpty = false ∧ d = .nums W.held) ∨ (x = Str.ofString "partial" ∧ W.marks.isEmpty = false ∧ d = .txts W.marks) := by
  unfold AW.look at h
  split at h
  · exact .inl ⟨by assumption, by simpa using h.symm⟩
  split at h
  · refine .inr (.inl ⟨by assumption, ?_⟩)
    cases e : W.med with
    | none => rw [e] at h; cases h
    | some m => rw [e] at h; exact ⟨m, rfl, by simpa using h.symm⟩
  split at h
  · refine .inr (.inr (.inl ⟨by assumption, ?_⟩))
    cases e : W.ag with
    | false => rw [e] at h; simp at h
    | true => rw [e] at h; exact ⟨rfl, by simpa using h.symm⟩
  split at h
  · refine .inr (.inr (.inr (.inl ⟨by assumption, ?_⟩)))
    cases e : W.held.isEmpty with
    | true => rw [e] at h; simp at h
    | false => rw [e] at h; exact ⟨rfl, by simpa using h.symm⟩
  split at h
  · refine .inr (.inr (.inr (.inr ⟨by assumption, ?_⟩)))
    cases e : W.marks.isEmpty with
    | true => rw [e] at h; simp at h
    | false => rw [e] at h; exact ⟨rfl, by simpa using h.symm⟩
  · cases h

section
variable {w : World} {mean : ExcName → Option Value} {mg mb : Str → Option Value}
theorem put_value_any {news : Led} {W : AW} {x : Str} {d : VD} {v : Value} (ok : W.Ok) (hl : W.look x = some d) (hp : x ≠ Str.ofString "partial") (h : d.Holds news v) (t : Tok) :
    Gives w mean mg mb 5 137 news [.str x t, v] (BytesRet (d.octets x)) ∧ (d.octets x).length ≤ 255 := by
  rcases look_cases hl with ⟨rfl, rfl⟩ | ⟨rfl, m, hm, rfl⟩ | ⟨rfl, _, rfl⟩ | ⟨rfl, he, rfl⟩ | ⟨rfl, _, _⟩
  · obtain ⟨u, rfl⟩ := h
    exact ⟨put_value_origin 0 u t (by decide) (by decide), by decide⟩
  · obtain ⟨u, rfl⟩ := h
    have := ok.med m hm
    exact ⟨put_value_med m u t this.1 (Int.lt_trans this.2 (by decide)), by show (be m 4).length ≤ 255; simp [be]⟩
  · obtain ⟨a, vs, rfl, ha, hi⟩ := h
    cases hi with
    | cons _ u hi => cases hi with
      | cons _ u' hi => cases hi; exact ⟨put_value_aggregator 7 9 u u' a t (by decide) (by decide) (by decide) (by decide) ha, by decide⟩
  · obtain ⟨a, vs, rfl, ha, hi⟩ := h
    have hlen := ok.len
    exact ⟨put_value_communities a vs W.held t ha hi ok.held (fun e => by rw [e] at he; cases he) (Nat.le_trans hlen (by decide)), by show ((W.held.map fun k => be k 4).flatten).length ≤ 255; rw [flat4]; exact Nat.le_trans (Nat.mul_le_mul_left 4 hlen) (by decide)⟩
  · exact absurd rfl hp
end
theorem strs_lay : ∀ ns : List Str, (∀ x ∈ ns, PyData.strOk x = true) → PyData.canLayAll0 (ns.map PyData.str) = true
  | [], _ => rfl
  | x :: r, h => by simp [PyData.canLayAll0, PyData.canLay0, strs_lay r fun y hy => h y (List.mem_cons_of_mem _ hy), h x (List.mem_cons_self ..)]
theorem strs_depth : ∀ ns : List Str, PyData.depthAll (ns.map PyData.str) = 0
  | [] => rfl
  | _ :: r => by simp [PyData.depthAll, PyData.depth, strs_depth r]
theorem strs_shaped {ns : List Str} (h : ∀ x ∈ ns, PyData.strOk x = true) : SeqAt.shaped (.list (ns.map PyData.str)) = true := by
  simp [SeqAt.shaped, PyData.canLay0, PyData.depth, strs_lay ns h, strs_depth]
theorem strs_shapedT {ns : List Str} (h : ∀ x ∈ ns, PyData.strOk x = true) : SeqAt.shaped (.tuple (ns.map PyData.str)) = true := by
  simp [SeqAt.shaped, PyData.canLay0, PyData.depth, strs_lay ns h, strs_depth]
theorem strs_carried : ∀ {vs : List Value} {ns : List Str}, StrsAre vs ns → CarriedAll vs (ns.map PyData.str)
  | _, _, .nil => .nil
  | _, _, .cons _ t r => .cons (.str _ t) (strs_carried r)
section
variable {prog : Program} {w : World} {A : Around} {E : Value → Shared → Prop} {s : Shared} {a b : Addr} {xs : List Value} {ns : List Str} {Q : Value → Shared → Prop}
theorem strs_ne (ha : s.heap.IsList a xs.toArray) (hb : s.heap.IsList b #[]) (hi : StrsAre xs ns) (ho : ∀ x ∈ ns, PyData.strOk x = true) (hu : A.units + 64 < cLine) (h : Q (.bool (!ns.isEmpty)) s) :
    wpAny (model prog w) A (compareOp .NotEq (.ref a) (.ref b)) Q E s :=
  ne_dataH (reads_newData ha (strs_carried hi)) (reads_newData hb .nil) (strs_shaped ho) rfl hu (by cases ns <;> exact h)
theorem strs_neT (ha : s.heap.IsTuple a xs.toArray) (hb : s.heap.IsTuple b #[]) (hi : StrsAre xs ns) (ho : ∀ x ∈ ns, PyData.strOk x = true) (hu : A.units + 64 < cLine) (h : Q (.bool (!ns.isEmpty)) s) :
    wpAny (model prog w) A (compareOp .NotEq (.ref a) (.ref b)) Q E s :=
  ne_dataH (reads_newDataT ha (strs_carried hi)) (reads_newDataT hb .nil) (strs_shapedT ho) rfl hu (by cases ns <;> exact h)
end
end Mine
end

/-! part O -/
section
set_option maxRecDepth 100000
set_option maxHeartbeats 2000000
namespace Mine
open PySem PySem.W PyProof.Rows PySem.Spec PySem.Calls

def AW.octs' (W : AW) : List Int :=
  [64, 1, 1, 0] ++ ((match W.med with | none => [] | some m => [128, 4, 4] ++ be m 4) ++ ((if W.ag = true then [if W.agm = true then 224 else 192, 7, 6, 0, 7, 0, 0, 0, 9] else []) ++
    (if W.held.isEmpty = true then [] else [if W.cm = true then 224 else 192, 8, (((W.held.map fun k => be k 4).flatten).length : Int)] ++ (W.held.map fun k => be k 4).flatten)))
def AW.rows' (W : AW) : List (Int × List Int) :=
  (1, [64, 1, 1, 0]) :: ((match W.med with | none => [] | some m => [((4 : Int), ([128, 4, 4] ++ be m 4 : List Int))]) ++ ((if W.ag = true then [((7 : Int), [if W.agm = true then 224 else 192, 7, 6, 0, 7, 0, 0, 0, 9])] else []) ++
    (if W.held.isEmpty = true then [] else [((8 : Int), [if W.cm = true then 224 else 192, 8, (((W.held.map fun k => be k 4).flatten).length : Int)] ++ (W.held.map fun k => be k 4).flatten)])))
theorem rows_eq (W : AW) : W.rows = W.rows' := by
  obtain ⟨med, ag, agm, held, cm⟩ := W
  cases med <;> cases ag <;> cases agm <;> cases cm <;> cases held <;> rfl
theorem octs_eq (W : AW) : W.octs = W.octs' := by
  unfold AW.octs
  rw [rows_eq]
  unfold AW.rows' AW.octs'
  obtain ⟨med, ag, agm, held, cm⟩ := W
  cases med <;> cases ag <;> cases held <;> simp
theorem rows_asc (W : AW) : ∀ i x y, W.rows[i]? = some x → W.rows[i + 1]? = some y → x.1 < y.1 := by
  have h : W.rows.Pairwise fun a b => a.1 < b.1 := by
    unfold AW.rows
    rw [List.pairwise_filterMap]
    have ht : table.Pairwise fun a b => a.1 < b.1 := by decide
    refine ht.imp fun {a b} hab x hx y hy => ?_
    unfold AW.row at hx hy
    cases ha : W.look a.2.1 with
    | none => rw [ha] at hx; cases hx
    | some d => cases hb : W.look b.2.1 with
      | none => rw [hb] at hy; cases hy
      | some d' =>
        rw [ha] at hx; rw [hb] at hy
        simp only [Option.map_some, Option.some.injEq] at hx hy
        subst hx; subst hy
        exact hab
  intro i x y hx hy
  obtain ⟨h1, rfl⟩ := List.getElem?_eq_some_iff.mp hx
  obtain ⟨h2, rfl⟩ := List.getElem?_eq_some_iff.mp hy
  exact List.pairwise_iff_getElem.mp h i (i + 1) h1 h2 (Nat.lt_succ_self i)
theorem rows_ne (W : AW) : W.rows ≠ [] := by
  rw [rows_eq]; exact List.cons_ne_nil _ _
theorem rows_len (W : AW) : W.rows.length ≤ 10 := by
  have := List.length_filterMap_le W.row table
  exact this
theorem octs_len {W : AW} (ok : W.Ok) : W.octs.length ≤ 64 := by
  rw [octs_eq]
  unfold AW.octs'
  have h1 : (match W.med with | none => ([] : List Int) | some m => [128, 4, 4] ++ be m 4).length ≤ 7 := by
    cases W.med <;> simp [be]
  have h2 : (if W.ag = true then [if W.agm = true then (224 : Int) else 192, 7, 6, 0, 7, 0, 0, 0, 9] else []).length ≤ 9 := by
    split <;> simp
  have h3 : (if W.held.isEmpty = true then ([] : List Int) else [if W.cm = true then 224 else 192, 8, (((W.held.map fun k => be k 4).flatten).length : Int)] ++ (W.held.map fun k => be k 4).flatten).length ≤ 15 := by
    have := ok.len
    split
    · simp
    · rw [List.length_append, flat4]; exact Nat.add_le_add_left (Nat.mul_le_mul_left 4 this) 3
  rw [List.length_append, List.length_append, List.length_append]
  exact Nat.le_trans (Nat.add_le_add_left (Nat.add_le_add h1 (Nat.add_le_add h2 h3)) 4) (by decide : 4 + (7 + (9 + 15)) ≤ 64)
/-- the end of a walk, hidden -/
theorem hide {M : Model} {A : Around} {env : Env} {x : Sem Flow} {Q : Flow → Shared → Prop} {E : Value → Shared → Prop} {s : Shared} (hp : PassesOwn M A env E)
    (h : ∀ (Q' : Flow → Shared → Prop) (E' : Value → Shared → Prop), (∀ f s', Q f s' → Q' f s') → PassesOwn M A env E' → wpAny M A x Q' E' s) : wpAny M A x Q E s := h Q E (fun _ _ h => h) hp
end Mine
end

local macro_rules | `(tactic| k_mem) => `(tactic| with_reducible first | exact List.mem_cons_self .. | assumption | (refine List.mem_cons_of_mem _ ?_; k_mem) | (refine List.mem_append_right _ ?_; k_mem))

/-! part B -/
section
set_option maxRecDepth 100000
set_option maxHeartbeats 8000000
namespace Mine
open PySem PySem.W PyProof.Rows PySem.Spec PySem.Calls



variable {w : World} {mean : ExcName → Option Value} {mg mb : Str → Option Value}


local macro_rules | `(tactic| walk_at "call builtin:dict.get") => `(tactic| refine Stop.of ?_)
local macro_rules | `(tactic| walk_at "exec For Name Name cons nil") => `(tactic| refine Stop.of ?_)
local macro_rules | `(tactic| walk_at "pyIter ref") => `(tactic| refine Stop.of ?_)
local macro_rules | `(tactic| walk_at "compareOp In str ref") => `(tactic| refine Stop.of ?_)
local macro_rules | `(tactic| walk_at "UnrEnd") => `(tactic| refine Stop.of ?_)
local macro_rules | `(tactic| walk_at "call ref") => `(tactic| refine Stop.of ?_)
local macro_rules | `(tactic| walk_at "subscriptTail") => `(tactic| refine Stop.of ?_)


/-- rows as the text holds them -/
inductive RowsAre : List (Int × Value) → List (Int × List Int) → Prop
  | nil : RowsAre [] []
  | cons {c : Int} {l : List Int} {t : Tok} {R : List (Int × Value)} {r : List (Int × List Int)} : RowsAre R r → RowsAre ((c, .bytes (byteArr l) t) :: R) ((c, l) :: r)
theorem RowsAre.snoc {R : List (Int × Value)} {r : List (Int × List Int)} (h : RowsAre R r) (c : Int) (l : List Int) (t : Tok) : RowsAre (R ++ [(c, .bytes (byteArr l) t)]) (r ++ [(c, l)]) := by
  induction h with
  | nil => exact .cons .nil
  | cons _ ih => exact .cons ih
theorem RowsAre.bytes {R : List (Int × Value)} {r : List (Int × List Int)} (h : RowsAre R r) : BytesAre (R.map (·.2)) (r.map (·.2)) := by
  induction h with
  | nil => exact .nil
  | cons _ ih => exact .cons _ _ ih
theorem RowsAre.nil_of {r : List (Int × List Int)} (h : RowsAre [] r) : r = [] := by cases h; rfl
theorem RowsAre.at {R : List (Int × Value)} {r : List (Int × List Int)} (h : RowsAre R r) : ∀ i : Nat, (R[i]?).map (·.1) = (r[i]?).map (·.1) := by
  induction h with
  | nil => intro i; rfl
  | cons _ ih => intro i; cases i with
    | zero => rfl
    | succ i => simpa using ih i

theorem RowsAre.asc {R : List (Int × Value)} {r : List (Int × List Int)} (h : RowsAre R r) (ha : ∀ i x y, r[i]? = some x → r[i + 1]? = some y → x.1 < y.1) : ∀ i x y, R[i]? = some x → R[i + 1]? = some y → x.1 < y.1 := by
  intro i x y hx hy
  have h1 := h.at i
  have h2 := h.at (i + 1)
  rw [hx] at h1
  rw [hy] at h2
  cases e1 : r[i]? with
  | none => rw [e1] at h1; cases h1
  | some x' => cases e2 : r[i + 1]? with
    | none => rw [e2] at h2; cases h2
    | some y' =>
      rw [e1] at h1; rw [e2] at h2
      have h1' : x.1 = x'.1 := Option.some.inj h1
      have h2' : y.1 = y'.1 := Option.some.inj h2
      rw [h1', h2']; exact ha i _ _ e1 e2

theorem part_at {h₀ h : Heap} {L : Addr} {news₀ news : Led} {W : AW} {kvs : List (Str × Value)} (_N : News h₀ L h news) (D₀ : Desc news₀ kvs W) (hs : ∀ p ∈ news₀, p ∈ news) {a : Addr} (ha : (a, ({ cls := .type "tuple", data := .seq #[] } : Obj)) ∈ news) :
    ∃ pa vs, (valueAt kvs (Str.ofString "partial")).getD (.ref a) = .ref pa ∧ (pa, ({ cls := .type "tuple", data := .seq vs.toArray } : Obj)) ∈ news ∧ StrsAre vs W.marks := by
  have D := D₀.mono hs
  have h := D.at_ (Str.ofString "partial")
  have e : W.look (Str.ofString "partial") = if W.marks.isEmpty = true then none else some (.txts W.marks) := rfl
  rw [e] at h
  cases hm : W.marks.isEmpty with
  | true =>
    rw [hm] at h
    have h' : valueAt kvs (Str.ofString "partial") = none := h
    rw [h']
    exact ⟨a, [], rfl, ha, by rw [List.isEmpty_iff.mp hm]; exact .nil⟩
  | false =>
    rw [hm] at h
    obtain ⟨v, hv, pa, vs, rfl, hp, hs⟩ := h
    exact ⟨pa, vs, by rw [hv]; rfl, hp, hs⟩

/-- the table of the known kinds -/
def tabKvs : List (Int × Value) := [(1, .ref 116), (2, .ref 117), (3, .ref 118), (4, .ref 119), (5, .ref 120), (6, .ref 121), (7, .ref 122), (8, .ref 123), (9, .ref 124), (10, .ref 125)]
theorem tab_dict {prog : Program} {w : World} {h : Heap} (X : (Mine.hd.heap_39 w.params).In h) : h.DictOf (PySem.intKind prog w) 115 tabKvs := by
  refine ⟨_, _, _, X 115 _ rfl, ⟨rfl, rfl, rfl⟩, rfl, ?_, ?_, by decide⟩
  · intro e he
    have he := Array.mem_def.mp he
    change e ∈ [_, _, _, _, _, _, _, _, _, _] at he
    simp only [List.mem_cons, List.not_mem_nil, or_false] at he
    rcases he with rfl | rfl | rfl | rfl | rfl | rfl | rfl | rfl | rfl | rfl <;> exact ⟨_, intKind_is _ _ _ _, rfl⟩
  · repeat (first | exact .nil | refine .cons (intKind_is _ _ _ _) rfl ?_)
theorem tab_row {P : Prop} {w : World} {h : Heap} (X : (Mine.hd.heap_39 w.params).In h) : ∀ (i : Nat) k v, tabKvs[i]? = some (k, v) → (∀ a x fl z (t u : Tok), v = .ref a → table[i]? = some (k, x, fl) → valueAt tabKvs k = some (.ref a) → IsTup h a #[.str x t, .int fl u, z] → 0 ≤ k → k < 256 → x ≠ Str.ofString "partial" → (fl = 64 ∨ fl = 128 ∨ fl = 192) → P) → P := by
  intro i k v hk k9
  match i, hk with
  | 0, hk | 1, hk | 2, hk | 3, hk | 4, hk | 5, hk | 6, hk | 7, hk | 8, hk | 9, hk =>
    simp [tabKvs] at hk
    obtain ⟨rfl, rfl⟩ := hk
    exact k9 _ _ _ _ _ _ rfl rfl rfl ⟨_, X _ _ rfl, rfl, _, rfl⟩ (by decide) (by decide) (by decide) (by decide)


theorem not_list {pa l D D₂ L : Addr} {h₀ h : Heap} {vs : List Value} {a : Array Value} {n : Nat} {o₂ : Obj} {o : Obj} {news : Led} (_N : News h₀ L h ((D₂, o₂) :: (D, o) :: (l, listOf a n) :: news)) (hm : (pa, ({ cls := .type "tuple", data := .seq vs.toArray } : Obj)) ∈ (D, o) :: (l, listOf a n) :: news) :
    (pa, ({ cls := .type "tuple", data := .seq vs.toArray } : Obj)) ∈ (D, o) :: news := by
  rcases List.mem_cons.mp hm with e | hm
  · rw [e]; exact List.mem_cons_self ..
  rcases List.mem_cons.mp hm with e | hm
  · have h1 := congrArg (fun p => p.2.cls) e
    exact absurd (Value.type.inj h1) (by decide)
  · exact List.mem_cons_of_mem _ hm
theorem flags_ok {fl : Int} {b : Bool} (h : fl = 64 ∨ fl = 128 ∨ fl = 192) : 0 ≤ (if b = true then Builtin.bitOr fl 32 else fl) ∧ (if b = true then Builtin.bitOr fl 32 else fl) < 256 ∧ Builtin.bitAnd (if b = true then Builtin.bitOr fl 32 else fl) (Builtin.bitNot 16) = (if b = true then Builtin.bitOr fl 32 else fl) := by
  cases b <;> rcases h with rfl | rfl | rfl <;> decide

theorem take_none {W : AW} {i : Nat} {r : Int × Str × Int} (h : table[i]? = some r) (hr : W.row r = none) : (table.take (i + 1)).filterMap W.row = (table.take i).filterMap W.row := by
  rw [List.take_add_one, h]; simp [hr]
theorem take_some {W : AW} {i : Nat} {r : Int × Str × Int} {x : Int × List Int} (h : table[i]? = some r) (hr : W.row r = some x) : (table.take (i + 1)).filterMap W.row = (table.take i).filterMap W.row ++ [x] := by
  rw [List.take_add_one, h]; simp [hr]

/-- between the turns of the loop over the table -/
inductive AJ (d l₁ pa D₁ : Addr) (o₁ : Obj) (news : Led) (W : AW) (i : Nat) (m₁ : Str → Option Value) : Led → Prop
  | mk (vs : List Value) (R : List (Int × Value)) (n : Nat) (tl : Led) : m₁ (Str.ofString "attrs") = some (.ref d) → m₁ (Str.ofString "rows") = some (.ref l₁) → m₁ (Str.ofString "partial") = some (.ref pa) →
    (∀ p ∈ tl ++ (D₁, o₁) :: news, p.1 ≠ l₁) → PairsIn tl vs R → vs.length ≤ i → RowsAre R ((table.take i).filterMap W.row) → AJ d l₁ pa D₁ o₁ news W i m₁ ((l₁, listOf vs.toArray n) :: (tl ++ (D₁, o₁) :: news))

theorem turn_end {h₀ h8 : Heap} {L d l₁ pa D₁ Dn I : Addr} {o₁ oI : Obj} {tl news : Led} {W : AW} {i n : Nat} {k : Int} {tx : Str} {fl : Int} {t t' : Tok} {l : List Int} {vs : List Value} {R : List (Int × Value)} {m' : Str → Option Value} {s : Shared} {tk : Nat}
    (F : Fr h₀ L h8 m') (N : News h₀ L h8 ((Dn, ({ cls := .type "tuple", data := .seq #[.int k t, .bytes (byteArr l) t'] } : Obj)) :: (l₁, listOf (vs.toArray.push (.ref Dn)) (n + 1)) :: (I, oI) :: (tl ++ (D₁, o₁) :: news))) (hlt1 : l₁ < Dn) (hlt2 : I < Dn)
    (off : ∀ p ∈ (l₁, listOf vs.toArray n) :: (tl ++ (D₁, o₁) :: news), p.1 ≠ I) (hne : ∀ p ∈ tl ++ (D₁, o₁) :: news, p.1 ≠ l₁) (hp : PairsIn tl vs R) (hlen : vs.length ≤ i) (hr : RowsAre R ((table.take i).filterMap W.row))
    (htab : table[i]? = some (k, tx, fl)) (hrow : W.row (k, tx, fl) = some (k, l)) (e1 : m' (Str.ofString "attrs") = some (.ref d)) (e2 : m' (Str.ofString "rows") = some (.ref l₁)) (e3 : m' (Str.ofString "partial") = some (.ref pa)) :
    UnrEnd h₀ L s I oI (AJ d l₁ pa D₁ o₁ news W (i + 1)) { s with heap := h8, toks := tk } := by
  refine UnrEnd.intro F N ((l₁, listOf (vs ++ [Value.ref Dn]).toArray (n + 1)) :: (((Dn, ({ cls := .type "tuple", data := .seq #[.int k t, .bytes (byteArr l) t'] } : Obj)) :: tl) ++ (D₁, o₁) :: news)) (fun p hp => ?_) (fun p hp => ?_)
    ⟨vs ++ [.ref Dn], R ++ [(k, .bytes (byteArr l) t')], n + 1, _ :: tl, e1, e2, e3, ?_, (hp.mono fun p hp => List.mem_cons_of_mem _ hp).snoc (o := { cls := .type "tuple", data := .seq #[.int k t, .bytes (byteArr l) t'] }) (List.mem_cons_self ..) rfl rfl, by simpa using hlen, ?_⟩
  · simp only [List.mem_cons, List.cons_append, List.push_toArray] at hp ⊢
    rcases hp with h | h | h | h <;> simp [h]
  · simp only [List.mem_cons, List.cons_append] at hp
    rcases hp with rfl | rfl | hp
    · exact off (l₁, listOf vs.toArray n) (List.mem_cons_self ..)
    · exact Nat.ne_of_gt hlt2
    · exact off p (List.mem_cons_of_mem _ hp)
  · intro p hp
    rcases List.mem_cons.mp hp with rfl | hp
    · exact Nat.ne_of_gt hlt1
    · exact hne p hp
  · rw [take_some htab hrow]; exact hr.snoc k l t'

section
variable {prog : Program} {w : World} {A : Around} {E : Value → Shared → Prop} {Q : Flow → Shared → Prop} {s : Shared} {env : Env} {h₀ : Heap} {x : Str} {body : List Stmt}
theorem base_item {value slice : PySem.Expr} {L : Addr} {m : Str → Option Value} {Q : Value → Shared → Prop} {k : Int} {t : Tok} {v : Value} (X : (Mine.hd.heap_39 w.params).In h₀) (F : Fr h₀ L s.heap m) (hl : valueAt tabKvs k = some v) (h : Q v { s with toks := s.toks + 1 })
    (hs : subscripted slice false (.ref 115) (.int k t) = operate [.ref 115, .int k t] (getItem (.ref 115) (.int k t)) := by with_unfolding_all rfl) (hg : ∀ r, letTemporaryGo value (.ref 115) r = pure () := by intro _; with_unfolding_all rfl) :
    wpAny (model prog w) A (subscriptTail value slice (.ref 115) (.int k t)) Q E s :=
  have hD := (tab_dict (prog := prog) X).at fun o e => F.keep _ o e
  subscriptTail_builtin hD.typeIs slot_dict_getitem.lookup (wpAny_getItem_of (intKind_is _ _ _ _) hD.mapOf hl h) hs hg

theorem attrs_loop {m₀ : Str → Option Value} {d l₁ pa D₁ D₂ : Addr} {o₁ o₂ : Obj} {news : Led} (W : AW) (hh : A.handled = none) (X : (Mine.hd.heap_39 w.params).In h₀) (F : Fr h₀ env.locals s.heap m₀)
    (N : News h₀ env.locals s.heap ((D₂, o₂) :: (D₁, o₁) :: (l₁, listOf #[] 0) :: news)) (h1 : m₀ (Str.ofString "attrs") = some (.ref d)) (h2 : m₀ (Str.ofString "rows") = some (.ref l₁)) (h3 : m₀ (Str.ofString "partial") = some (.ref pa)) (lo : (115 == sysModules) = false) (hne0 : ∀ p ∈ (D₁, o₁) :: news, p.1 ≠ l₁)
    (turn : ∀ i k t v u' I oI h tk vs R n tl, i < 10 → tabKvs[i]? = some (k, v) → Fr h₀ env.locals h (kstB u' [(x, .int k t), (Str.ofString "attrs", .ref d), (Str.ofString "rows", .ref l₁), (Str.ofString "partial", .ref pa)]) →
      News h₀ env.locals h ((l₁, listOf vs.toArray n) :: (I, oI) :: (tl ++ (D₁, o₁) :: news)) → (∀ p ∈ (l₁, listOf vs.toArray n) :: (tl ++ (D₁, o₁) :: news), p.1 ≠ I) → (∀ p ∈ tl ++ (D₁, o₁) :: news, p.1 ≠ l₁) → PairsIn tl vs R → vs.length ≤ i → RowsAre R ((table.take i).filterMap W.row) →
      wpAny (model prog w) A (execs body env) (UnrPost h₀ env.locals { s with heap := h, toks := tk } I oI (AJ d l₁ pa D₁ o₁ news W (i + 1)) Q) E { s with heap := h, toks := tk })
    (done : ∀ u' h tk vs R n tl, Fr h₀ env.locals h (kstB u' [(Str.ofString "attrs", .ref d), (Str.ofString "rows", .ref l₁), (Str.ofString "partial", .ref pa)]) → News h₀ env.locals h ((l₁, listOf vs.toArray n) :: (tl ++ (D₁, o₁) :: news)) → (∀ p ∈ tl ++ (D₁, o₁) :: news, p.1 ≠ l₁) →
      PairsIn tl vs R → vs.length ≤ 10 → RowsAre R W.rows → Q .next { s with heap := h, toks := tk })
    (hx : x = Str.ofString "code" := by rfl) :
    wpAny (model prog w) A (pyIter (.ref 115)) (fun it s₂ => LoopAtV prog w A h₀ env x body Q E it s₂) E s := by
  subst hx
  refine for_src (AJ d l₁ pa D₁ o₁ news W) hh (Src.dict (tab_dict X) lo) F (news := (l₁, listOf #[] 0) :: ([] ++ (D₁, o₁) :: news)) (fun p hp => N p (by simp only [List.mem_cons, List.nil_append] at hp ⊢; rcases hp with h | h | h <;> simp [h]))
    ⟨[], [], 0, [], h1, h2, h3, hne0, .nil, Nat.le_refl _, .nil⟩ ?_ ?_
  · rintro i v m₁ news₁ I oI h tk hi ⟨k, y, hk, hkv⟩ ⟨vs, R, n, tl, e1, e2, e3, hne, hp, hlen, hr⟩ F' N' off
    obtain ⟨t, rfl⟩ := Value.isInt_shape hkv
    refine turn i k t y (fun y => if y = Str.ofString "code" then some (.int k t) else m₁ y) I oI h tk vs R n tl hi hk ?_ (fun p hp => N' p (by simp only [List.mem_cons] at hp ⊢; rcases hp with h | h | h <;> simp [h])) off hne hp hlen hr
    have e : kstB (fun y => if y = Str.ofString "code" then some (Value.int k t) else m₁ y) [(Str.ofString "code", .int k t), (Str.ofString "attrs", .ref d), (Str.ofString "rows", .ref l₁), (Str.ofString "partial", .ref pa)] = fun y => if y = Str.ofString "code" then some (.int k t) else m₁ y := by
      funext z
      refine kstB_eq (fun p hp => ?_) fun _ => rfl
      simp only [List.mem_cons, List.not_mem_nil, or_false] at hp
      rcases hp with rfl | rfl | rfl | rfl
      · rfl
      · exact e1
      · exact e2
      · exact e3
    rw [e]; exact F'
  · rintro m₁ news₁ h tk ⟨vs, R, n, tl, e1, e2, e3, hne, hp, hlen, hr⟩ F' N'
    refine done m₁ h tk vs R n tl ?_ N' hne hp hlen hr
    have e : kstB m₁ [(Str.ofString "attrs", .ref d), (Str.ofString "rows", .ref l₁), (Str.ofString "partial", .ref pa)] = m₁ := by
      funext z
      refine kstB_eq (fun p hp => ?_) fun _ => rfl
      simp only [List.mem_cons, List.not_mem_nil, or_false] at hp
      rcases hp with rfl | rfl | rfl
      · exact e1
      · exact e2
      · exact e3
    rw [e]; exact F'
end

local macro_rules | `(tactic| walk_at "exec For Tuple Call") => `(tactic| refine Stop.of ?_)
local macro_rules | `(tactic| walk_at "eval ListComp") => `(tactic| refine Stop.of ?_)
local macro_rules | `(tactic| walk_at "call builtin:sorted") => `(tactic| refine Stop.of ?_)
local macro_rules | `(tactic| walk_at "Exists") => `(tactic| refine Stop.of ?_)
local macro_rules | `(tactic| walk_at "call builtin:bytes.join") => `(tactic| refine Stop.of ?_)
local macro_rules | `(tactic| walk_at "call builtin:list.append") => `(tactic| refine Stop.of ?_)
theorem put_attrs {news : Led} (W : AW) (ok : W.Ok) (d : Addr) (oD : Obj) (kvs : List (Str × Value)) (hd : (d, oD) ∈ news) (hD : oD.IsDictOf (PySem.strKind (PySem.Challenge.rw_rh0202_01.row.prog) w) kvs) (lo : (d == sysModules) = false) (D : Desc news kvs W) :
    Gives w mean mg mb 8 142 news [.ref d] (BytesRet W.octs) := by
  unfold Gives
  k_fill
  intro dp un gd env outer A₀ base h₀ L m s Q E B F X N T hf hke hdp hu hret
  refine wpAny_call ?_
  k_dflt (first | (refine' enterP ?k1 ?k2 ?k3 ?k4 ?k5 ?kA ?kF ?kK ?k6 ?k7 ?k8 ?k9 ?kB ?_ ?c2 ?c3 ?c4 ?c5; (case kA => exact rfl); (case kF => first | exact rfl | assumption); (case kK => first | exact rfl | assumption); (case k1 => k_asm); (case k2 => k_asm); (case k3 => k_asm); (case k4 => k_asm); (case k5 => k_asm); (case k6 => k_is); (case k7 => k_is); (case k8 => (first | exact room_at (by assumption) | ktr_room)); (case k9 => exact BindsTo.of_eq rfl); (case c5 => decide); (case kB => exact locs rfl); (case c2 => exact rfl); (case c3 => exact rfl); (case c4 => exact rfl); k_whole; intro g' L' h' FG' F' N' B' X' T' kG' l1; (try k_lt l1); (try dsimp only); (try k_lift B'); (try k_fold)) | (refine' enterC ?k1 ?k2 ?k3 ?k4 ?k5 ?kA ?kF ?kK ?k6 ?k7 ?k8 ?k9 ?kB ?kD ?_ ?c2 ?c3 ?c4; (case kA => exact rfl); (case kF => first | exact rfl | assumption); (case kK => first | exact rfl | assumption); (case k1 => k_asm); (case k2 => k_asm); (case k3 => k_asm); (case k4 => k_asm); (case k5 => k_asm); (case k6 => k_is); (case k7 => k_is); (case k8 => (first | exact room_at (by assumption) | ktr_room)); (case k9 => exact BindsTo.of_eq rfl); (case kB => exact rfl); (case kD => decide +kernel); (case c2 => exact rfl); (case c3 => exact rfl); (case c4 => exact rfl); k_whole; intro g' L' h' tk' cells' FG' F' N' Y' B' X' T' kG' l1; (try k_lt l1); k_cells Y'; (try simp only [List.cons_append, List.nil_append] at N'); (try dsimp only); (try k_lift B'); (try k_fold)))
  k_dflt (refine hide (by passes_own) fun Q' E' hQ hpo => ?_)
  repeat (first | ((with_reducible show wpAny _ _ (getMethod (Value.ref _) (Str.ofString "get") _) _ _ _); (refine kdg_method (knd := PySem.strKind _ _) (by k_asm) (by k_mem) (by assumption) ?_)) | ((with_reducible show wpAny _ _ (assign (Expr.Tuple ..) ..) _ _ _); ((refine' unpackN_ ?F ?N ?T ?k1 ?k2 ?k3 ?_; (case F => k_asm); (case N => k_asm); (case T => exact Fr.tup (by assumption) (by assumption)); (case k1 => exact rfl); (case k2 => exact rfl); (case k3 => exact rfl)); intro h' F' N'; (try k_sweep))) | ((with_reducible refine method_join ?_)) | ((with_reducible show wpAny _ _ (callWith ..) _ _ _); (dsimp only; ((with_reducible refine callWith_method1 ?cwA ?cwB ?cwC); (case cwB => rfl); (case cwC => rfl)))) | (k_unfold; (try dsimp only)) | walk1 | (dsimp only; walk1))
  refine Stop.go ?_
  rename News _ _ _ _ => N1
  obtain ⟨pa, pvs, hpv, hpm, hps⟩ := part_at N1 D (fun p hp => by k_mem) (List.mem_cons_self ..)
  k_dflt (refine dget (by k_asm) (by k_mem) hD lo (strKind_is _ _ _ _) hpv ?_)
  repeat (first | ((with_reducible show wpAny _ _ (getMethod (Value.ref _) (Str.ofString "get") _) _ _ _); (refine kdg_method (knd := PySem.strKind _ _) (by k_asm) (by k_mem) (by assumption) ?_)) | ((with_reducible show wpAny _ _ (assign (Expr.Tuple ..) ..) _ _ _); ((refine' unpackN_ ?F ?N ?T ?k1 ?k2 ?k3 ?_; (case F => k_asm); (case N => k_asm); (case T => exact Fr.tup (by assumption) (by assumption)); (case k1 => exact rfl); (case k2 => exact rfl); (case k3 => exact rfl)); intro h' F' N'; (try k_sweep))) | ((with_reducible refine method_join ?_)) | ((with_reducible show wpAny _ _ (callWith ..) _ _ _); (dsimp only; ((with_reducible refine callWith_method1 ?cwA ?cwB ?cwC); (case cwB => rfl); (case cwC => rfl)))) | (k_unfold; (try dsimp only)) | walk1 | (dsimp only; walk1))
  refine Stop.go ?_
  rename Fr _ _ _ _ => lF'
  with_unfolding_all refine' For_invVF lF' ?k1 ?k2 ?_
  case k1 => exact rfl
  case k2 => exact rfl
  k_whole
  repeat (first | ((with_reducible show wpAny _ _ (getMethod (Value.ref _) (Str.ofString "get") _) _ _ _); (refine kdg_method (knd := PySem.strKind _ _) (by k_asm) (by k_mem) (by assumption) ?_)) | ((with_reducible show wpAny _ _ (assign (Expr.Tuple ..) ..) _ _ _); ((refine' unpackN_ ?F ?N ?T ?k1 ?k2 ?k3 ?_; (case F => k_asm); (case N => k_asm); (case T => exact Fr.tup (by assumption) (by assumption)); (case k1 => exact rfl); (case k2 => exact rfl); (case k3 => exact rfl)); intro h' F' N'; (try k_sweep))) | ((with_reducible refine method_join ?_)) | ((with_reducible show wpAny _ _ (callWith ..) _ _ _); (dsimp only; ((with_reducible refine callWith_method1 ?cwA ?cwB ?cwC); (case cwB => rfl); (case cwC => rfl)))) | (k_unfold; (try dsimp only)) | walk1 | (dsimp only; walk1))
  refine Stop.go ?_
  rename News _ _ _ _ => N'
  have hpm' := not_list N' hpm
  k_dflt (refine attrs_loop W rfl (by k_asm) (by k_asm) (by k_asm) (by rfl) (by rfl) (by rfl) (by decide) ?off ?turn ?done)
  case off =>
    intro p hp
    rcases List.mem_cons.mp hp with rfl | hp
    · exact Nat.ne_of_gt (by omega)
    · apply Nat.ne_of_lt; refine (?_ : ∀ q ∈ news, q.1 < _) p hp; assumption
  case turn =>
    intro i k t v u' I oI h5 tk5 vs R n tl hi hk F5 N5 off5 hne hp5 hlen5 hr5
    refine tab_row (by assumption) i k v hk fun ta tx fl tz tt tu ev htab hval htup hk0 hk1 hxp hfl => ?_
    subst ev
    dsimp only [envOf] at F5 N5
    repeat (first | ((with_reducible show wpAny _ _ (getMethod (Value.ref _) (Str.ofString "get") _) _ _ _); (refine kdg_method (knd := PySem.strKind _ _) (by k_asm) (by k_mem) (by assumption) ?_)) | ((with_reducible show wpAny _ _ (assign (Expr.Tuple ..) ..) _ _ _); ((refine' unpackN_ ?F ?N ?T ?k1 ?k2 ?k3 ?_; (case F => k_asm); (case N => k_asm); (case T => exact Fr.tup (by assumption) (by assumption)); (case k1 => exact rfl); (case k2 => exact rfl); (case k3 => exact rfl)); intro h' F' N'; (try k_sweep))) | ((with_reducible refine method_join ?_)) | ((with_reducible show wpAny _ _ (callWith ..) _ _ _); (dsimp only; ((with_reducible refine callWith_method1 ?cwA ?cwB ?cwC); (case cwB => rfl); (case cwC => rfl)))) | (k_unfold; (try dsimp only)) | walk1 | (dsimp only; walk1))
    refine Stop.go ?_
    k_dflt (refine base_item (by k_asm) (by k_asm) hval ?_)
    repeat (first | ((with_reducible show wpAny _ _ (getMethod (Value.ref _) (Str.ofString "get") _) _ _ _); (refine kdg_method (knd := PySem.strKind _ _) (by k_asm) (by k_mem) (by assumption) ?_)) | ((with_reducible show wpAny _ _ (assign (Expr.Tuple ..) ..) _ _ _); ((refine' unpackN_ ?F ?N ?T ?k1 ?k2 ?k3 ?_; (case F => k_asm); (case N => k_asm); (case T => exact Fr.tup (by assumption) (by assumption)); (case k1 => exact rfl); (case k2 => exact rfl); (case k3 => exact rfl)); intro h' F' N'; (try k_sweep))) | ((with_reducible refine method_join ?_)) | ((with_reducible show wpAny _ _ (callWith ..) _ _ _); (dsimp only; ((with_reducible refine callWith_method1 ?cwA ?cwB ?cwC); (case cwB => rfl); (case cwC => rfl)))) | (k_unfold; (try dsimp only)) | walk1 | (dsimp only; walk1))
    refine Stop.go ?_
    dsimp only
    cases hlk : W.look tx with
    | none =>
      have hno : valueAt kvs tx = none := by have := D.at_ tx; rw [hlk] at this; exact this
      k_dflt (refine kda_in (knd := PySem.strKind _ _) (by k_asm) (by k_mem) hD lo (strKind_is _ _ _ _) false (by rw [hno]; rfl) ?_)
      repeat (first | ((with_reducible show wpAny _ _ (getMethod (Value.ref _) (Str.ofString "get") _) _ _ _); (refine kdg_method (knd := PySem.strKind _ _) (by k_asm) (by k_mem) (by assumption) ?_)) | ((with_reducible show wpAny _ _ (assign (Expr.Tuple ..) ..) _ _ _); ((refine' unpackN_ ?F ?N ?T ?k1 ?k2 ?k3 ?_; (case F => k_asm); (case N => k_asm); (case T => exact Fr.tup (by assumption) (by assumption)); (case k1 => exact rfl); (case k2 => exact rfl); (case k3 => exact rfl)); intro h' F' N'; (try k_sweep))) | ((with_reducible refine method_join ?_)) | ((with_reducible show wpAny _ _ (callWith ..) _ _ _); (dsimp only; ((with_reducible refine callWith_method1 ?cwA ?cwB ?cwC); (case cwB => rfl); (case cwC => rfl)))) | (k_unfold; (try dsimp only)) | walk1 | (dsimp only; walk1))
      refine Stop.go ?_
      refine UnrEnd.intro (by assumption) (by assumption) _ (fun p hp => ?_) off5 ⟨vs, R, n, tl, rfl, rfl, rfl, hne, hp5, Nat.le_succ_of_le hlen5, ?_⟩
      · simp only [List.mem_cons] at hp ⊢; rcases hp with h | h | h <;> simp [h]
      · rw [take_none htab (by unfold AW.row; rw [hlk]; rfl)]; exact hr5
    | some vd =>
      obtain ⟨v, hv, hvd⟩ : ∃ v, valueAt kvs tx = some v ∧ vd.Holds news v := by have := D.at_ tx; rw [hlk] at this; exact this
      k_dflt (refine kda_in (knd := PySem.strKind _ _) (by k_asm) (by k_mem) hD lo (strKind_is _ _ _ _) true (by rw [hv]; rfl) ?_)
      repeat (first | ((with_reducible show wpAny _ _ (getMethod (Value.ref _) (Str.ofString "get") _) _ _ _); (refine kdg_method (knd := PySem.strKind _ _) (by k_asm) (by k_mem) (by assumption) ?_)) | ((with_reducible show wpAny _ _ (assign (Expr.Tuple ..) ..) _ _ _); ((refine' unpackN_ ?F ?N ?T ?k1 ?k2 ?k3 ?_; (case F => k_asm); (case N => k_asm); (case T => exact Fr.tup (by assumption) (by assumption)); (case k1 => exact rfl); (case k2 => exact rfl); (case k3 => exact rfl)); intro h' F' N'; (try k_sweep))) | ((with_reducible refine method_join ?_)) | ((with_reducible show wpAny _ _ (callWith ..) _ _ _); (dsimp only; ((with_reducible refine callWith_method1 ?cwA ?cwB ?cwC); (case cwB => rfl); (case cwC => rfl)))) | (k_unfold; (try dsimp only)) | walk1 | (dsimp only; walk1))
      refine Stop.go ?_
      dsimp only
      k_dflt (refine in_tuple_strs (News.isTup (by assumption) (List.mem_cons_of_mem _ (List.mem_cons_of_mem _ (List.mem_append_right _ hpm')))) hps ?_)
      have hb4 := flags_ok (b := W.marks.any (· == tx)) hfl
      have hrow : W.row (k, tx, fl) = some (k, [if W.marks.any (· == tx) = true then Builtin.bitOr fl 32 else fl, k, ((vd.octets tx).length : Int)] ++ vd.octets tx) := by unfold AW.row; rw [hlk]; rfl
      cases hb : W.marks.any (· == tx)
      all_goals
        rw [hb] at hb4 hrow
        simp only [if_true, Bool.false_eq_true, if_false] at hb4 hrow
        obtain ⟨hb1, hb2, hb3⟩ := hb4
        repeat (first | ((with_reducible show wpAny _ _ (getMethod (Value.ref _) (Str.ofString "get") _) _ _ _); (refine kdg_method (knd := PySem.strKind _ _) (by k_asm) (by k_mem) (by assumption) ?_)) | ((with_reducible show wpAny _ _ (assign (Expr.Tuple ..) ..) _ _ _); ((refine' unpackN_ ?F ?N ?T ?k1 ?k2 ?k3 ?_; (case F => k_asm); (case N => k_asm); (case T => exact Fr.tup (by assumption) (by assumption)); (case k1 => exact rfl); (case k2 => exact rfl); (case k3 => exact rfl)); intro h' F' N'; (try k_sweep))) | ((with_reducible refine method_join ?_)) | ((with_reducible show wpAny _ _ (callWith ..) _ _ _); (dsimp only; ((with_reducible refine callWith_method1 ?cwA ?cwB ?cwC); (case cwB => rfl); (case cwC => rfl)))) | (k_unfold; (try dsimp only)) | walk1 | (dsimp only; walk1))
        refine Stop.go ?_
        k_dflt (refine kda_item (knd := PySem.strKind _ _) (by k_asm) (by k_mem) hD (strKind_is _ _ _ _) hv ?_)
        repeat (first | ((with_reducible show wpAny _ _ (getMethod (Value.ref _) (Str.ofString "get") _) _ _ _); (refine kdg_method (knd := PySem.strKind _ _) (by k_asm) (by k_mem) (by assumption) ?_)) | ((with_reducible show wpAny _ _ (assign (Expr.Tuple ..) ..) _ _ _); ((refine' unpackN_ ?F ?N ?T ?k1 ?k2 ?k3 ?_; (case F => k_asm); (case N => k_asm); (case T => exact Fr.tup (by assumption) (by assumption)); (case k1 => exact rfl); (case k2 => exact rfl); (case k3 => exact rfl)); intro h' F' N'; (try k_sweep))) | ((with_reducible refine method_join ?_)) | ((with_reducible show wpAny _ _ (callWith ..) _ _ _); (dsimp only; ((with_reducible refine callWith_method1 ?cwA ?cwB ?cwC); (case cwB => rfl); (case cwC => rfl)))) | (k_unfold; (try dsimp only)) | walk1 | (dsimp only; walk1))
        refine Stop.go ?_
        k_dflt (refine use_bytes (put_value_any ok hlk hxp (hvd.mono fun p hp => ?mm) _).1 (by k_asm) (by k_asm) (by k_asm) (by k_asm) (by k_asm) rfl rfl (room_in hdp (Nat.le_of_ble_eq_true rfl)) (units_in hu (Nat.le_of_ble_eq_true rfl)) ?_)
        case mm => k_mem
        intro t' h' tk' up' F' N'
        dsimp only
        repeat (first | ((with_reducible show wpAny _ _ (getMethod (Value.ref _) (Str.ofString "get") _) _ _ _); (refine kdg_method (knd := PySem.strKind _ _) (by k_asm) (by k_mem) (by assumption) ?_)) | ((with_reducible show wpAny _ _ (assign (Expr.Tuple ..) ..) _ _ _); ((refine' unpackN_ ?F ?N ?T ?k1 ?k2 ?k3 ?_; (case F => k_asm); (case N => k_asm); (case T => exact Fr.tup (by assumption) (by assumption)); (case k1 => exact rfl); (case k2 => exact rfl); (case k3 => exact rfl)); intro h' F' N'; (try k_sweep))) | ((with_reducible refine method_join ?_)) | ((with_reducible show wpAny _ _ (callWith ..) _ _ _); (dsimp only; ((with_reducible refine callWith_method1 ?cwA ?cwB ?cwC); (case cwB => rfl); (case cwC => rfl)))) | (k_unfold; (try dsimp only)) | walk1 | (dsimp only; walk1))
        refine Stop.go ?_
        k_dflt (refine use_bytes (put_attr _ _ _ _ _ _ hb1 hb2 hb3 hk0 hk1 (put_value_any (w := w) (mean := mean) (mg := mg) (mb := mb) ok hlk hxp hvd tt).2) (by k_asm) (by k_asm) (by k_asm) (by k_asm) (by k_asm) rfl rfl (room_in hdp (Nat.le_of_ble_eq_true rfl)) (units_in hu (Nat.le_of_ble_eq_true rfl)) ?_)
        intro t' h' tk' up' F' N'
        dsimp only
        repeat (first | ((with_reducible show wpAny _ _ (getMethod (Value.ref _) (Str.ofString "get") _) _ _ _); (refine kdg_method (knd := PySem.strKind _ _) (by k_asm) (by k_mem) (by assumption) ?_)) | ((with_reducible show wpAny _ _ (assign (Expr.Tuple ..) ..) _ _ _); ((refine' unpackN_ ?F ?N ?T ?k1 ?k2 ?k3 ?_; (case F => k_asm); (case N => k_asm); (case T => exact Fr.tup (by assumption) (by assumption)); (case k1 => exact rfl); (case k2 => exact rfl); (case k3 => exact rfl)); intro h' F' N'; (try k_sweep))) | ((with_reducible refine method_join ?_)) | ((with_reducible show wpAny _ _ (callWith ..) _ _ _); (dsimp only; ((with_reducible refine callWith_method1 ?cwA ?cwB ?cwC); (case cwB => rfl); (case cwC => rfl)))) | (k_unfold; (try dsimp only)) | walk1 | (dsimp only; walk1))
        refine Stop.go ?_
        rename _ ∧ _ => l9
        k_dflt (refine append_K (by assumption) (by assumption) (.tail (Nat.ne_of_gt l9.1) (.head fun p hp => ?ne)) ?_ (le_size (Nat.le_trans hlen5 (Nat.le_of_lt hi)) (by decide)))
        case ne =>
          rcases List.mem_cons.mp hp with rfl | hp
          · exact (off5 _ (List.mem_cons_self ..)).symm
          · exact hne p hp
        intro h8 F8 N8
        repeat (first | ((with_reducible show wpAny _ _ (getMethod (Value.ref _) (Str.ofString "get") _) _ _ _); (refine kdg_method (knd := PySem.strKind _ _) (by k_asm) (by k_mem) (by assumption) ?_)) | ((with_reducible show wpAny _ _ (assign (Expr.Tuple ..) ..) _ _ _); ((refine' unpackN_ ?F ?N ?T ?k1 ?k2 ?k3 ?_; (case F => k_asm); (case N => k_asm); (case T => exact Fr.tup (by assumption) (by assumption)); (case k1 => exact rfl); (case k2 => exact rfl); (case k3 => exact rfl)); intro h' F' N'; (try k_sweep))) | ((with_reducible refine method_join ?_)) | ((with_reducible show wpAny _ _ (callWith ..) _ _ _); (dsimp only; ((with_reducible refine callWith_method1 ?cwA ?cwB ?cwC); (case cwB => rfl); (case cwC => rfl)))) | (k_unfold; (try dsimp only)) | walk1 | (dsimp only; walk1))
        refine Stop.go ?_
        exact turn_end F8 N8 l9.1 l9.2.1 off5 hne hp5 hlen5 hr5 htab hrow rfl rfl rfl
  case done =>
    intro u' h5 tk5 vs R n tl F5 N5 hne5 hp5 hlen5 hr5
    dsimp only [envOf] at F5 N5
    repeat (first | ((with_reducible show wpAny _ _ (getMethod (Value.ref _) (Str.ofString "get") _) _ _ _); (refine kdg_method (knd := PySem.strKind _ _) (by k_asm) (by k_mem) (by assumption) ?_)) | ((with_reducible show wpAny _ _ (assign (Expr.Tuple ..) ..) _ _ _); ((refine' unpackN_ ?F ?N ?T ?k1 ?k2 ?k3 ?_; (case F => k_asm); (case N => k_asm); (case T => exact Fr.tup (by assumption) (by assumption)); (case k1 => exact rfl); (case k2 => exact rfl); (case k3 => exact rfl)); intro h' F' N'; (try k_sweep))) | ((with_reducible refine method_join ?_)) | ((with_reducible show wpAny _ _ (callWith ..) _ _ _); (dsimp only; ((with_reducible refine callWith_method1 ?cwA ?cwB ?cwC); (case cwB => rfl); (case cwC => rfl)))) | (k_unfold; (try dsimp only)) | walk1 | (dsimp only; walk1))
    refine Stop.go ?_
    have hun : valueAt kvs (Str.ofString "unknown") = none := by have := D.at_ (Str.ofString "unknown"); exact this
    rename Fr _ _ _ _ => lF'
    with_unfolding_all refine' For_unrF lF' ?_ ?k2
    case k2 => intro _; rfl
    k_whole
    repeat (first | ((with_reducible show wpAny _ _ (getMethod (Value.ref _) (Str.ofString "get") _) _ _ _); (refine kdg_method (knd := PySem.strKind _ _) (by k_asm) (by k_mem) (by assumption) ?_)) | ((with_reducible show wpAny _ _ (assign (Expr.Tuple ..) ..) _ _ _); ((refine' unpackN_ ?F ?N ?T ?k1 ?k2 ?k3 ?_; (case F => k_asm); (case N => k_asm); (case T => exact Fr.tup (by assumption) (by assumption)); (case k1 => exact rfl); (case k2 => exact rfl); (case k3 => exact rfl)); intro h' F' N'; (try k_sweep))) | ((with_reducible refine method_join ?_)) | ((with_reducible show wpAny _ _ (callWith ..) _ _ _); (dsimp only; ((with_reducible refine callWith_method1 ?cwA ?cwB ?cwC); (case cwB => rfl); (case cwC => rfl)))) | (k_unfold; (try dsimp only)) | walk1 | (dsimp only; walk1))
    refine Stop.go ?_
    k_dflt (refine kdg_get2 (knd := PySem.strKind _ _) (by k_asm) (by k_mem) hD lo (strKind_is _ _ _ _) _ hun ?_)
    dsimp only [Option.getD]
    repeat (first | ((with_reducible show wpAny _ _ (getMethod (Value.ref _) (Str.ofString "get") _) _ _ _); (refine kdg_method (knd := PySem.strKind _ _) (by k_asm) (by k_mem) (by assumption) ?_)) | ((with_reducible show wpAny _ _ (assign (Expr.Tuple ..) ..) _ _ _); ((refine' unpackN_ ?F ?N ?T ?k1 ?k2 ?k3 ?_; (case F => k_asm); (case N => k_asm); (case T => exact Fr.tup (by assumption) (by assumption)); (case k1 => exact rfl); (case k2 => exact rfl); (case k3 => exact rfl)); intro h' F' N'; (try k_sweep))) | ((with_reducible refine method_join ?_)) | ((with_reducible show wpAny _ _ (callWith ..) _ _ _); (dsimp only; ((with_reducible refine callWith_method1 ?cwA ?cwB ?cwC); (case cwB => rfl); (case cwC => rfl)))) | (k_unfold; (try dsimp only)) | walk1 | (dsimp only; walk1))
    refine Stop.go ?_
    k_dflt (refine Iter_tuple_unr rfl (News.isTup (by assumption) (List.mem_cons_self ..)) (by k_asm) (by k_asm) ?ne (Unr.zero ?_))
    case ne =>
      rename News _ _ _ _ => N9
      exact (N9 _ (List.mem_cons_self ..)).2.1
    intro h7 tk7 F7 N7
    dsimp only [envOf] at F7 N7
    repeat (first | ((with_reducible show wpAny _ _ (getMethod (Value.ref _) (Str.ofString "get") _) _ _ _); (refine kdg_method (knd := PySem.strKind _ _) (by k_asm) (by k_mem) (by assumption) ?_)) | ((with_reducible show wpAny _ _ (assign (Expr.Tuple ..) ..) _ _ _); ((refine' unpackN_ ?F ?N ?T ?k1 ?k2 ?k3 ?_; (case F => k_asm); (case N => k_asm); (case T => exact Fr.tup (by assumption) (by assumption)); (case k1 => exact rfl); (case k2 => exact rfl); (case k3 => exact rfl)); intro h' F' N'; (try k_sweep))) | ((with_reducible refine method_join ?_)) | ((with_reducible show wpAny _ _ (callWith ..) _ _ _); (dsimp only; ((with_reducible refine callWith_method1 ?cwA ?cwB ?cwC); (case cwB => rfl); (case cwC => rfl)))) | (k_unfold; (try dsimp only)) | walk1 | (dsimp only; walk1))
    refine Stop.go ?_
    k_dflt (refine list_pairs_second (by k_asm) (by with_unfolding_all rfl) (by decide) (by rfl) (by decide) (by rfl) (by rfl) (by decide) (by intro _; rfl) (by intro _; rfl) (by decide) rfl ?_ (by intro _; rfl))
    repeat (first | ((with_reducible show wpAny _ _ (getMethod (Value.ref _) (Str.ofString "get") _) _ _ _); (refine kdg_method (knd := PySem.strKind _ _) (by k_asm) (by k_mem) (by assumption) ?_)) | ((with_reducible show wpAny _ _ (assign (Expr.Tuple ..) ..) _ _ _); ((refine' unpackN_ ?F ?N ?T ?k1 ?k2 ?k3 ?_; (case F => k_asm); (case N => k_asm); (case T => exact Fr.tup (by assumption) (by assumption)); (case k1 => exact rfl); (case k2 => exact rfl); (case k3 => exact rfl)); intro h' F' N'; (try k_sweep))) | ((with_reducible refine method_join ?_)) | ((with_reducible show wpAny _ _ (callWith ..) _ _ _); (dsimp only; ((with_reducible refine callWith_method1 ?cwA ?cwB ?cwC); (case cwB => rfl); (case cwC => rfl)))) | (k_unfold; (try dsimp only)) | walk1 | (dsimp only; walk1))
    refine Stop.go ?_
    k_dflt (refine sorted_rows (by k_asm) (by k_asm) (News.isList (by k_asm) (by k_mem)) (hp5.mono fun p hp => ?mm) (RowsAre.asc hr5 (rows_asc W)) (fun e => ?nn) ?len ?_)
    case mm => exact List.mem_cons_of_mem _ (List.mem_cons_of_mem _ (List.mem_append_left _ hp))
    case nn => rw [e] at hr5; exact rows_ne W (RowsAre.nil_of hr5)
    case len => exact Nat.lt_of_le_of_lt (Nat.le_of_eq hp5.length.symm) (Nat.lt_of_le_of_lt hlen5 (by decide))
    intro D7 n7 h8 tk8 F8 N8 lt8
    repeat (first | ((with_reducible show wpAny _ _ (getMethod (Value.ref _) (Str.ofString "get") _) _ _ _); (refine kdg_method (knd := PySem.strKind _ _) (by k_asm) (by k_mem) (by assumption) ?_)) | ((with_reducible show wpAny _ _ (assign (Expr.Tuple ..) ..) _ _ _); ((refine' unpackN_ ?F ?N ?T ?k1 ?k2 ?k3 ?_; (case F => k_asm); (case N => k_asm); (case T => exact Fr.tup (by assumption) (by assumption)); (case k1 => exact rfl); (case k2 => exact rfl); (case k3 => exact rfl)); intro h' F' N'; (try k_sweep))) | ((with_reducible refine method_join ?_)) | ((with_reducible show wpAny _ _ (callWith ..) _ _ _); (dsimp only; ((with_reducible refine callWith_method1 ?cwA ?cwB ?cwC); (case cwB => rfl); (case cwC => rfl)))) | (k_unfold; (try dsimp only)) | walk1 | (dsimp only; walk1))
    refine Stop.go ?_
    refine ⟨D7, vs, n7, R, _, rfl, F8, N8, List.mem_cons_self .., hp5.mono (fun p hp => ?mm), Nat.le_trans hlen5 (by decide), fun D9 h9 tk9 F9 N9 => ?_⟩
    case mm => exact List.mem_cons_of_mem _ (List.mem_cons_of_mem _ (List.mem_cons_of_mem _ (List.mem_append_left _ hp)))
    repeat (first | ((with_reducible show wpAny _ _ (getMethod (Value.ref _) (Str.ofString "get") _) _ _ _); (refine kdg_method (knd := PySem.strKind _ _) (by k_asm) (by k_mem) (by assumption) ?_)) | ((with_reducible show wpAny _ _ (assign (Expr.Tuple ..) ..) _ _ _); ((refine' unpackN_ ?F ?N ?T ?k1 ?k2 ?k3 ?_; (case F => k_asm); (case N => k_asm); (case T => exact Fr.tup (by assumption) (by assumption)); (case k1 => exact rfl); (case k2 => exact rfl); (case k3 => exact rfl)); intro h' F' N'; (try k_sweep))) | ((with_reducible refine method_join ?_)) | ((with_reducible show wpAny _ _ (callWith ..) _ _ _); (dsimp only; ((with_reducible refine callWith_method1 ?cwA ?cwB ?cwC); (case cwB => rfl); (case cwC => rfl)))) | (k_unfold; (try dsimp only)) | walk1 | (dsimp only; walk1))
    refine Stop.go ?_
    k_dflt (refine join_bytes ⟨_, (N9 _ (List.mem_cons_self ..)).1, rfl, _, rfl⟩ hr5.bytes (by simpa using rows_ne W) (Nat.le_trans (octs_len ok) (by decide)) ?_)
    intro t8 tk8
    repeat (first | ((with_reducible show wpAny _ _ (getMethod (Value.ref _) (Str.ofString "get") _) _ _ _); (refine kdg_method (knd := PySem.strKind _ _) (by k_asm) (by k_mem) (by assumption) ?_)) | ((with_reducible show wpAny _ _ (assign (Expr.Tuple ..) ..) _ _ _); ((refine' unpackN_ ?F ?N ?T ?k1 ?k2 ?k3 ?_; (case F => k_asm); (case N => k_asm); (case T => exact Fr.tup (by assumption) (by assumption)); (case k1 => exact rfl); (case k2 => exact rfl); (case k3 => exact rfl)); intro h' F' N'; (try k_sweep))) | ((with_reducible refine method_join ?_)) | ((with_reducible show wpAny _ _ (callWith ..) _ _ _); (dsimp only; ((with_reducible refine callWith_method1 ?cwA ?cwB ?cwC); (case cwB => rfl); (case cwC => rfl)))) | (k_unfold; (try dsimp only)) | walk1 | (dsimp only; walk1))
    refine hQ _ _ ?_
    repeat (first | ((with_reducible show wpAny _ _ (getMethod (Value.ref _) (Str.ofString "get") _) _ _ _); (refine kdg_method (knd := PySem.strKind _ _) (by k_asm) (by k_mem) (by assumption) ?_)) | ((with_reducible show wpAny _ _ (assign (Expr.Tuple ..) ..) _ _ _); ((refine' unpackN_ ?F ?N ?T ?k1 ?k2 ?k3 ?_; (case F => k_asm); (case N => k_asm); (case T => exact Fr.tup (by assumption) (by assumption)); (case k1 => exact rfl); (case k2 => exact rfl); (case k3 => exact rfl)); intro h' F' N'; (try k_sweep))) | ((with_reducible refine method_join ?_)) | ((with_reducible show wpAny _ _ (callWith ..) _ _ _); (dsimp only; ((with_reducible refine callWith_method1 ?cwA ?cwB ?cwC); (case cwB => rfl); (case cwC => rfl)))) | (k_unfold; (try dsimp only)) | walk1 | (dsimp only; walk1))
    refine give hret N (by assumption) (by assumption) (by assumption) (by assumption) (by assumption) [] (fun p hp => ?_) (fun _ h => nomatch h) (.mk _ _ rfl)
    repeat (first | exact hp | apply List.mem_cons_of_mem | (refine List.mem_append_right _ ?_))
end Mine
end

/-! part D -/
section
set_option maxRecDepth 100000
set_option maxHeartbeats 2000000
namespace Mine
open PySem PySem.W PyProof.Rows PySem.Spec PySem.Calls

section
variable {prog : Program} {w : World} {K : Type} [DecidableEq K] {A : Around} {E : Value → Shared → Prop} {s : Shared} {h₀ : Heap} {L : Addr} {m : Str → Option Value} {env : Env}

/-- what is asked of a quiet dict comprehension behind its source; its result is put under the name y -/
inductive DcGo (knd : KeyKind prog w K) (A : Around) (h₀ : Heap) (L : Addr) (m : Str → Option Value) (env : Env) (kx vx : Expr) (x y : Str) (ifs : List Expr) (scope : Scope) (cl : List (Str × Addr)) (p : Value → Bool) (FK : Value → K → Prop) (FV : Value → Value → Prop)
    (Q : Flow → Shared → Prop) (xv : Value) (s₁ : Shared) : Prop
  | mk (n : Nat) (P : Nat → Value → Prop) (news : Led) : Src prog w s₁.heap xv n P → n ≤ sizeLine → Fr h₀ L s₁.heap m → News h₀ L s₁.heap news → (∀ C oC i v m₂ (s₃ : Shared) E', P i v → LCg.NsObj oC m₂ → m₂ x = some v → (∀ b o, s₁.heap.get? b = some o → s₃.heap.get? b = some o) → Fr h₀ L s₃.heap m → News h₀ L s₃.heap ((C, oC) :: news) →
        wpAny (model prog w) A (testsAt ifs (compEnvC scope cl C env)) (fun ok s₄ => ok = p v ∧ Keeps s₃ s₄) E' s₃) → (∀ C oC i v m₂ (s₃ : Shared) E', P i v → p v = true → LCg.NsObj oC m₂ → m₂ x = some v → (∀ b o, s₁.heap.get? b = some o → s₃.heap.get? b = some o) → Fr h₀ L s₃.heap m → News h₀ L s₃.heap ((C, oC) :: news) →
        wpAny (model prog w) A (eval kx (compEnvC scope cl C env)) (fun y s₄ => (∃ k, knd.is k y = true ∧ FK v k) ∧ Keeps s₃ s₄) E' s₃) → (∀ C oC i v m₂ (s₃ : Shared) E', P i v → p v = true → LCg.NsObj oC m₂ → m₂ x = some v → (∀ b o, s₁.heap.get? b = some o → s₃.heap.get? b = some o) → Fr h₀ L s₃.heap m → News h₀ L s₃.heap ((C, oC) :: news) →
        wpAny (model prog w) A (eval vx (compEnvC scope cl C env)) (fun y s₄ => FV v y ∧ Keeps s₃ s₄) E' s₃) → (∀ D oD kvs (vs : List Value) h tk, vs.length = n → (∀ (j : Nat) v, vs[j]? = some v → P j v) → StoredAll FK FV (vs.filter p) kvs → (∀ b o, b ≠ L → s₁.heap.get? b = some o → h.get? b = some o) →
        Fr h₀ L h (fun z => if z = y then some (.ref D) else m z) → News h₀ L h ((D, oD) :: news) → (∀ q ∈ news, q.1 < D) → (h₀.NoLimit → (D == sysModules) = false) → oD.IsDictOf knd kvs → Q .next { s₁ with heap := h, toks := tk }) → DcGo knd A h₀ L m env kx vx x y ifs scope cl p FK FV Q xv s₁

theorem dc_assign (knd : KeyKind prog w K) {kx vx iter : Expr} {x y : Str} {px py : Pos} {ifs : List Expr} {scope : Scope} {cl : List (Str × Addr)} {pos spos : Pos} {Q : Flow → Shared → Prop} (p : Value → Bool) (FK : Value → K → Prop) (FV : Value → Value → Prop)
    (_F₀ : Fr h₀ L s.heap m) (hL : env.locals = L) (hsw : swapsWith (.DictComp kx vx [⟨.Name x px, iter, ifs, 0⟩] scope pos) (some (.Name y py)) spos.line env = pure true)
    (hh : A.handled = none) (hclos : closureFor scope env = pure cl) (hcell : ∀ z ∈ scope.names, z.2 ≠ .cell) (hkind : scope.kind = .function)
    (hnames : ∀ z ∈ scope.names, z.2 = .local → scope.names.lookup z.1 = some .local) (hx : scope.names.lookup x = some .local)
    (hy : env.kindOf y = some .local) (hp : (env.scope.kind == .class || (env.scope.kind == .module && env.locals != env.globals)) = false)
    (h : wpAny (model prog w) A (eval iter env) (DcGo knd A h₀ L m env kx vx x y ifs scope cl p FK FV Q) E s)
    (hs : ∀ x, foldedSetIterable iter env x = pure x := by intro _; rfl) :
    wpAny (model prog w) A (exec (.Assign [.Name y py] (.DictComp kx vx [⟨.Name x px, iter, ifs, 0⟩] scope pos) spos) env) Q E s := by
  subst hL
  rw [exec_Assign_Name_used _ _ _ _ hsw]
  refine wpAny_bind (wpAny_standAt (wpAny_bind ?_))
  show wpAny _ A (do let _ ← comprehension (.DictComp kx vx [⟨.Name x px, iter, ifs, 0⟩] scope pos) scope env _ newDict false (eval iter env) (some (assign (.Name y py) env))) _ _ s
  refine wpAny_bind (wpAny_mono (wpAny_comprehension_free (use := some (assign (.Name y py) env)) (Q := fun _ s' => Q .next s') rfl hs hclos hkind hnames
    (wpAny_mono h (fun xv s₁ h₁ => ?_) fun _ _ e => e)) (fun _ s' hq => wpAny_pure (wpAny_pure hq)) fun _ _ e => e)
  obtain ⟨n, P, news, S, hsz, F, N, ht, hkey, hv, hQ⟩ := h₁
  refine src_iter hh S fun fp St oI W hst hfp => ?_
  generalize hH : s₁.heap.push oI = H at hst hfp
  have up0 : ∀ b o, s₁.heap.get? b = some o → H.get? b = some o := fun b o e => hH ▸ Heap.get?_push_of_some _ e
  have hHs : H.objs.size = s₁.heap.objs.size + 1 := by rw [← hH, Heap.size_push]
  refine wpAny_newObj_type (wpAny_newFunctionEnv hcell (by intro y hy; simp at hy) (fun h₁ hns₁ hsb₁ => ?_) hkind)
  dsimp only at hns₁ hsb₁ ⊢
  have hnew : (H.push { cls := .type "dict", dict := none, data := .dict #[] }).DictOf knd H.objs.size [] := Heap.DictOf.new H
  generalize hH2 : H.push { cls := .type "dict", dict := none, data := .dict #[] } = H2 at hns₁ hsb₁ hnew ⊢
  have hC : H2.objs.size = H.objs.size + 1 := by rw [← hH2, Heap.size_push]
  have hDC : H.objs.size ≠ H2.objs.size := by rw [hC]; exact Nat.ne_of_lt (Nat.lt_succ_self _)
  have hDf : H.objs.size ∉ fp := fun hm => Nat.lt_irrefl _ (hfp _ hm)
  have hCf : H2.objs.size ∉ fp := fun hm => by have := hfp _ hm; rw [hC] at this; exact Nat.lt_irrefl _ (Nat.lt_of_succ_lt this)
  have old : ∀ b o, H.get? b = some o → h₁.get? b = some o := fun b o e => by
    have hb := Heap.lt_size e
    exact hsb₁.extBut b o (by rw [hC]; exact Nat.ne_of_lt (Nat.lt_succ_of_lt hb)) (Heap.get?_push_of_some _ (hH2 ▸ Heap.get?_push_of_some _ e))
  have hacc : h₁.DictOf knd H.objs.size [] := hnew.at fun o e => hsb₁.extBut _ _ hDC (Heap.get?_push_of_some _ e)
  have hst₁ : St 0 h₁ := W.frame _ _ _ hst fun b _ o e => old b o e
  have low : ∀ b o, s₁.heap.get? b = some o → b ≠ H2.objs.size ∧ b ≠ H.objs.size ∧ b ∉ [s₁.heap.objs.size] := fun b o e => by
    have hb := Heap.lt_size e
    refine ⟨by rw [hC, hHs]; exact Nat.ne_of_lt (Nat.lt_succ_of_lt (Nat.lt_succ_of_lt hb)), by rw [hHs]; exact Nat.ne_of_lt (Nat.lt_succ_of_lt hb), fun hm => ?_⟩
    rw [List.mem_singleton.mp hm] at hb; exact Nat.lt_irrefl _ hb
  have upf : ∀ {h₃ : Heap}, (∀ b o, b ≠ H2.objs.size → b ∉ [s₁.heap.objs.size] → b ≠ H.objs.size → h₁.get? b = some o → h₃.get? b = some o) → ∀ b o, s₁.heap.get? b = some o → h₃.get? b = some o :=
    fun hk b o e => hk b o (low b o e).1 (low b o e).2.2 (low b o e).2.1 (old b o (up0 b o e))
  have hCn : s₁.heap.get? H2.objs.size = none := Heap.get?_none_of_le (by rw [hC, hHs]; exact Nat.le_succ_of_le (Nat.le_succ _))
  have hDn : s₁.heap.get? H.objs.size = none := Heap.get?_none_of_le (by rw [hHs]; exact Nat.le_succ _)
  have loop : ∀ s₃ : Shared, s₃ = { s₁ with heap := h₁, toks := s₁.toks + ([] : List (Str × Value)).length } →
      codeAny (model prog w) A (.compLoop (.DictComp kx vx [⟨.Name x px, iter, ifs, 0⟩] scope pos) 0 (.ref s₁.heap.objs.size) (.ref H.objs.size) (compEnvC scope cl H2.objs.size env))
        (compPost (model prog w) A E (some (assign (.Name y py) env)) (fun _ s' => Q .next s') (.ref H.objs.size) H2.objs.size) s₃ := by
    rintro s₃ rfl
    refine codeAny_compLoop_walkD (hsz := hsz) (knd := knd) (cenv := compEnvC scope cl H2.objs.size env) W p FK FV (lookup_relabel_local hx) (by simp [compEnvC, relabel, hkind]) hDC hDf hCf hst₁ hacc hns₁ ?_ ?_ ?_ ?_
    · intro i v s₃ m₃ hP hn hm hk
      obtain ⟨oC, eC, nC⟩ := LCg.ns_obj hn
      have up := upf hk
      exact ht _ oC i v m₃ s₃ _ hP nC hm up (F.keeps up) (news_new F N up hCn eC)
    · intro i v s₃ m₃ hP hp hn hm hk
      obtain ⟨oC, eC, nC⟩ := LCg.ns_obj hn
      have up := upf hk
      exact hkey _ oC i v m₃ s₃ _ hP hp nC hm up (F.keeps up) (news_new F N up hCn eC)
    · intro i v s₃ m₃ hP hp hn hm hk
      obtain ⟨oC, eC, nC⟩ := LCg.ns_obj hn
      have up := upf hk
      exact hv _ oC i v m₃ s₃ _ hP hp nC hm up (F.keeps up) (news_new F N up hCn eC)
    · intro h' tk m' kvs vs hn hd hlen hP hF hk
      have up := upf hk
      have hCL : H2.objs.size ≠ env.locals := ne_of_new hCn (Fr.live F).choose_spec |>.symm
      have hDL : H.objs.size ≠ env.locals := ne_of_new hDn (Fr.live F).choose_spec |>.symm
      show wpAny _ A (assign (.Name y py) env (.ref H.objs.size)) _ _ _
      refine wpAny_assign_Name (wpAny_storeName_local hy (F.keeps up).ns (fun h₂ hn₂ hs₂ => ?_) hp)
      refine ⟨m', hn.sameBut hs₂ hCL, fun h₃ hs₃ => ?_⟩
      have hd₃ : h₃.DictOf knd H.objs.size kvs := (hd.extBut hs₂.extBut hDL).extBut hs₃.extBut hDC
      obtain ⟨oD, eD, iD⟩ := Heap.dictOf_iff.mp hd₃
      have up3 : ∀ b o, b ≠ env.locals → s₁.heap.get? b = some o → h₃.get? b = some o := fun b o hb e => hs₃.extBut b o (low b o e).1 (hs₂.extBut b o hb (up b o e))
      have F3 : Fr h₀ env.locals h₃ (fun z => if z = y then some (.ref H.objs.size) else m z) := by
        refine ⟨hn₂.sameBut hs₃ hCL.symm, fun b o e => up3 b o (fun hb => ?_) (F.keep b o e), F.above⟩
        exact absurd (Heap.lt_size e) (Nat.not_lt.mpr (hb ▸ F.above))
      have N3 : News h₀ env.locals h₃ ((H.objs.size, oD) :: news) := fun q hq => by
        rcases List.mem_cons.mp hq with rfl | hq
        · exact ⟨eD, hDL, none_keep F.keep hDn⟩
        · exact ⟨up3 _ _ (N q hq).2.1 (N q hq).1, (N q hq).2⟩
      exact hQ _ oD kvs vs h₃ _ hlen hP hF up3 F3 N3 (fun q hq => by have := Heap.lt_size (N q hq).1; rw [hHs]; exact Nat.lt_succ_of_lt this)
        (fun hbig => by
          have h1 : sysModules < h₀.objs.size := modules_low hbig
          have h2 : s₁.heap.objs.size < H.objs.size := by rw [hHs]; exact Nat.lt_succ_self _
          exact beq_eq_false_iff_ne.mpr (Nat.ne_of_gt (Nat.lt_trans (Nat.lt_trans h1 (Nat.lt_of_le_of_lt F.above F.ns.lt)) h2))) iD
  exact codeAny_compStart_dict (loop _ rfl) (W.self 0 _ _ _ hst₁ (loop _ rfl))
end

section
variable {K : Type} [DecidableEq K]
theorem valueAt_cons (p : K × Value) (kvs : List (K × Value)) (j : K) : valueAt (p :: kvs) j = if j = p.1 then some p.2 else valueAt kvs j := by
  unfold valueAt
  rw [List.find?_cons]
  by_cases h : p.1 = j
  · simp [h]
  · have h' : ¬ j = p.1 := fun e => h e.symm
    simp [h, h']
theorem valueAt_append (l r : List (K × Value)) (j : K) : valueAt (l ++ r) j = (valueAt l j).or (valueAt r j) := by
  induction l with
  | nil => simp [valueAt]
  | cons p l ih =>
    rw [List.cons_append, valueAt_cons, valueAt_cons, ih]
    split <;> simp
theorem valueAt_mapped (kvs : List (K × Value)) (k j : K) (v : Value) : valueAt (kvs.map fun kv => if kv.1 = k then (kv.1, v) else kv) j = if j = k then (valueAt kvs j).map (fun _ => v) else valueAt kvs j := by
  induction kvs with
  | nil => simp [valueAt]
  | cons p kvs ih =>
    rw [List.map_cons, valueAt_cons, valueAt_cons, ih]
    by_cases h : p.1 = k <;> by_cases h2 : j = k <;> by_cases h3 : j = p.1 <;> simp_all
theorem valueAt_stored (kvs : List (K × Value)) (k j : K) (v : Value) : valueAt (stored kvs k v) j = if j = k then some v else valueAt kvs j := by
  unfold stored
  by_cases h : kvs.any (fun kv => decide (kv.1 = k)) = true
  · rw [if_pos h, valueAt_mapped]
    by_cases h2 : j = k
    · rw [if_pos h2, if_pos h2]
      obtain ⟨p, hp, e⟩ := List.any_eq_true.mp h
      have e := of_decide_eq_true e
      unfold valueAt
      cases q : kvs.find? fun kv => decide (kv.1 = j) with
      | none =>
        have := List.find?_eq_none.mp q p hp
        simp [e, h2] at this
      | some x => rfl
    · rw [if_neg h2, if_neg h2]
  · rw [if_neg h, valueAt_append, valueAt_cons]
    by_cases h2 : j = k
    · rw [if_pos h2, if_pos h2]
      have : valueAt kvs j = none := by
        unfold valueAt
        rw [List.find?_eq_none.mpr, Option.map_none]
        intro p hp e
        exact h (List.any_eq_true.mpr ⟨p, hp, by rw [← h2]; exact e⟩)
      rw [this]; rfl
    · rw [if_neg h2, if_neg h2]
      simp [valueAt]
theorem valueAt_without (kvs : List (K × Value)) (k j : K) : valueAt (without kvs k) j = if j = k then none else valueAt kvs j := by
  unfold without
  induction kvs with
  | nil => simp [valueAt]
  | cons p kvs ih =>
    rw [List.filter_cons, valueAt_cons]
    by_cases h : p.1 = k
    · have : decide (p.1 ≠ k) = false := by simpa using h
      rw [this]
      simp only [Bool.false_eq_true, if_false]
      rw [ih]
      by_cases h2 : j = k
      · simp [h2]
      · have h3 : ¬ j = p.1 := fun e => h2 (e.trans h)
        simp [h2, h3]
    · have : decide (p.1 ≠ k) = true := by simpa using h
      rw [this]
      simp only [if_true]
      rw [valueAt_cons, ih]
      by_cases h3 : j = p.1
      · have h2 : ¬ j = k := fun e => h (h3 ▸ e)
        simp [h3, h]
      · simp [h3]
end

/-- a copied dict, with a test on its names -/
theorem copied {kvs : List (Str × Value)} {prog : Program} {w : World} {q : Str → Bool} {l : List Value} {kvs' : List (Str × Value)}
    (h : StoredAll (fun v k => (strKind prog w).is k v = true) (fun v y => ∃ k, (strKind prog w).is k v = true ∧ valueAt kvs k = some y) l kvs') (hl : ∀ v ∈ l, ∃ k, (strKind prog w).is k v = true ∧ q k = true)
    (hall : ∀ k, (valueAt kvs k).isSome = true → q k = true → ∃ v ∈ l, (strKind prog w).is k v = true) :
    ∀ k, valueAt kvs' k = if q k = true then valueAt kvs k else none := by
  have key : ∀ {l : List Value} {kvs' : List (Str × Value)}, StoredAll (fun v k => (strKind prog w).is k v = true) (fun v y => ∃ k, (strKind prog w).is k v = true ∧ valueAt kvs k = some y) l kvs' →
      (∀ v ∈ l, ∃ k, (strKind prog w).is k v = true ∧ q k = true) → ∀ k, (valueAt kvs' k = valueAt kvs k ∧ q k = true ∧ (∃ v ∈ l, (strKind prog w).is k v = true)) ∨ (valueAt kvs' k = none ∧ ∀ v ∈ l, (strKind prog w).is k v = false) := by
    intro l kvs' h
    induction h with
    | nil => intro _ k; exact .inr ⟨rfl, fun _ h => nomatch h⟩
    | @snoc l kvs₁ v k₁ y _ hk hv ih =>
      intro hl k
      obtain ⟨k₂, hk₂, hv₂⟩ := hv
      have e := (strKind prog w).inj v k₁ k₂ hk hk₂
      subst e
      obtain ⟨k₃, hk₃, hq₃⟩ := hl v (List.mem_append_right _ (List.mem_singleton.mpr rfl))
      have e := (strKind prog w).inj v k₁ k₃ hk hk₃
      subst e
      rw [valueAt_stored]
      by_cases hkk : k = k₁
      · subst hkk
        rw [if_pos rfl]
        exact .inl ⟨hv₂.symm, hq₃, v, List.mem_append_right _ (List.mem_singleton.mpr rfl), hk⟩
      · rw [if_neg hkk]
        rcases ih (fun v hv => hl v (List.mem_append_left _ hv)) k with ⟨h1, h2, u, hu, h3⟩ | ⟨h1, h2⟩
        · exact .inl ⟨h1, h2, u, List.mem_append_left _ hu, h3⟩
        · refine .inr ⟨h1, fun u hu => ?_⟩
          rcases List.mem_append.mp hu with hu | hu
          · exact h2 u hu
          · rw [List.mem_singleton.mp hu]
            cases e : (strKind prog w).is k v with
            | false => rfl
            | true => exact absurd ((strKind prog w).inj v k k₁ e hk) hkk
  intro k
  rcases key h hl k with ⟨h1, h2, _⟩ | ⟨h1, h2⟩
  · rw [if_pos h2, h1]
  · rw [h1]
    cases hq : q k with
    | false => simp
    | true =>
      simp only [if_true]
      cases hv : valueAt kvs k with
      | none => rfl
      | some x =>
        obtain ⟨v, hv', h3⟩ := hall k (by rw [hv]; rfl) hq
        rw [h2 v hv'] at h3; cases h3
theorem copied_of {kvs : List (Str × Value)} {prog : Program} {w : World} {q : Str → Bool} {p : Value → Bool} {vs : List Value} {kvs' : List (Str × Value)}
    (h : StoredAll (fun v k => (strKind prog w).is k v = true) (fun v y => ∃ k, (strKind prog w).is k v = true ∧ valueAt kvs k = some y) (vs.filter p) kvs') (hlen : vs.length = kvs.length)
    (hvs : ∀ (j : Nat) v, vs[j]? = some v → ∃ k x, kvs[j]? = some (k, x) ∧ (strKind prog w).is k v = true) (hpq : ∀ k v, (strKind prog w).is k v = true → p v = q k) :
    ∀ k, valueAt kvs' k = if q k = true then valueAt kvs k else none := by
  refine copied h (fun v hv => ?_) (fun k hk hq => ?_)
  · obtain ⟨h1, h2⟩ := List.mem_filter.mp hv
    obtain ⟨j, hj⟩ := List.getElem?_of_mem h1
    obtain ⟨k, x, _, hk⟩ := hvs j v hj
    exact ⟨k, hk, by rw [← hpq k v hk]; exact h2⟩
  · unfold valueAt at hk
    cases e : kvs.find? fun kv => decide (kv.1 = k) with
    | none => rw [e] at hk; cases hk
    | some y =>
      have h1 := List.find?_some e
      have h2 := List.mem_of_find?_eq_some e
      obtain ⟨j, hj⟩ := List.getElem?_of_mem h2
      have hjl : j < vs.length := by rw [hlen]; exact (List.getElem?_eq_some_iff.mp hj).1
      have hv := List.getElem?_eq_getElem hjl
      obtain ⟨k', x, hk', hkv⟩ := hvs j _ hv
      rw [hj] at hk'
      have e1 : y.1 = k' := congrArg Prod.fst (Option.some.inj hk')
      have e2 : y.1 = k := of_decide_eq_true h1
      have e3 : k' = k := e1.symm.trans e2
      subst e3
      exact ⟨_, List.mem_filter.mpr ⟨List.getElem_mem hjl, by rw [hpq _ _ hkv]; exact hq⟩, hkv⟩
end Mine
end

/-! part F -/
section
set_option maxRecDepth 100000
set_option maxHeartbeats 8000000
namespace Mine
open PySem PySem.W PyProof.Rows PySem.Spec PySem.Calls



variable {w : World} {mean : ExcName → Option Value} {mg mb : Str → Option Value}

/-- a new dict that a contract hands out -/
inductive NewDict (prog : Program) (w : World) (news : Led) (W : AW) : Value → Led → Prop
  | mk {d : Addr} {o : Obj} {kvs : List (Str × Value)} {tl : Led} : (d, o) ∈ tl → o.IsDictOf (PySem.strKind prog w) kvs → (d == sysModules) = false → Desc (tl ++ news) kvs W → NewDict prog w news W (.ref d) tl

/-- a contract whose result is a new dict, put to use -/
theorem use_new {D : Nat} {f : Addr} {news : Led} {vs : List Value} {W : AW} (C : Gives w mean mg mb D f news vs (NewDict PySem.Challenge.rw_rh0202_01.row.prog w news W))
    {dp un : Nat} {gd : Option (List Code)} {env : Env} {outer : List Env} {A₀ : Around} {base h₀ : Heap} {L : Addr} {m : Str → Option Value} {s : Shared} {Q E : Value → Shared → Prop}
    (B : Below A₀ base outer h₀) (F : Fr h₀ L s.heap m) (X : (Mine.hd.heap_39 w.params).In h₀) (N : News h₀ L s.heap news) (T : Top Mine.hd.view_39 (looseW Mine.hd.view_39 [Str.ofString "FIELDS", Str.ofString "KNOWN_ATTRS"]) mean mg mb h₀)
    (hf : env.frame = some L) (hk : env.scope.kind = .function) (hd : dp + D < recursionLimit) (hu : un + 8 * D < cLine)
    (ret : ∀ d o kvs tl h' tk', Fr h₀ L h' m → News h₀ L h' (tl ++ news) → (∀ p ∈ tl, ∀ q ∈ news, q.1 < p.1) → (d, o) ∈ tl → o.IsDictOf (PySem.strKind PySem.Challenge.rw_rh0202_01.row.prog w) kvs → (d == sysModules) = false → Desc (tl ++ news) kvs W → Q (.ref d) { s with heap := h', toks := tk' }) :
    wpAny (model PySem.Challenge.rw_rh0202_01.row.prog w) { handled := none, depth := dp, frames := some (env :: outer), guards := gd, units := un } (call (.ref f) vs) Q E s :=
  use C B F X N T hf hk hd hu fun r tl h' tk' _ F N lt e => by
    cases e with
    | mk h1 h2 h3 h4 => exact ret _ _ _ _ h' tk' F N lt h1 h2 h3 h4

/-- the same, the dict left whole -/
theorem use_ref {D : Nat} {f : Addr} {news : Led} {vs : List Value} {W : AW} (C : Gives w mean mg mb D f news vs (NewDict PySem.Challenge.rw_rh0202_01.row.prog w news W))
    {dp un : Nat} {gd : Option (List Code)} {env : Env} {outer : List Env} {A₀ : Around} {base h₀ : Heap} {L : Addr} {m : Str → Option Value} {s : Shared} {Q E : Value → Shared → Prop}
    (B : Below A₀ base outer h₀) (F : Fr h₀ L s.heap m) (X : (Mine.hd.heap_39 w.params).In h₀) (N : News h₀ L s.heap news) (T : Top Mine.hd.view_39 (looseW Mine.hd.view_39 [Str.ofString "FIELDS", Str.ofString "KNOWN_ATTRS"]) mean mg mb h₀)
    (hf : env.frame = some L) (hk : env.scope.kind = .function) (hd : dp + D < recursionLimit) (hu : un + 8 * D < cLine)
    (ret : ∀ d tl h' tk', Fr h₀ L h' m → News h₀ L h' (tl ++ news) → (∀ p ∈ tl, ∀ q ∈ news, q.1 < p.1) → NewDict PySem.Challenge.rw_rh0202_01.row.prog w news W (.ref d) tl → Q (.ref d) { s with heap := h', toks := tk' }) :
    wpAny (model PySem.Challenge.rw_rh0202_01.row.prog w) { handled := none, depth := dp, frames := some (env :: outer), guards := gd, units := un } (call (.ref f) vs) Q E s :=
  use C B F X N T hf hk hd hu fun r tl h' tk' _ F N lt e => by
    cases e with
    | mk h1 h2 h3 h4 => exact ret _ _ h' tk' F N lt (.mk h1 h2 h3 h4)


local macro_rules | `(tactic| walk_at "exec Assign cons DictComp") => `(tactic| refine Stop.of ?_)
local macro_rules | `(tactic| walk_at "DcGo") => `(tactic| refine Stop.of ?_)
local macro_rules | `(tactic| walk_at "subscriptTail") => `(tactic| refine Stop.of ?_)
local macro_rules | `(tactic| walk_at "setItem ref str") => `(tactic| refine Stop.of ?_)

theorem Desc.with_med {news : Led} {W : AW} {kvs kvs1 kvs2 : List (Str × Value)} {n : Int} {t : Tok} (D : Desc news kvs W) (h1 : ∀ k, valueAt kvs1 k = valueAt kvs k) (hn : (kvs2.map (·.1)).Nodup)
    (h2 : ∀ k, valueAt kvs2 k = if k = Str.ofString "med" then some (.int n t) else valueAt kvs1 k) : Desc news kvs2 { W with med := some n } := by
  refine ⟨hn, fun k => ?_⟩
  rw [h2, h1]
  by_cases hk : k = Str.ofString "med"
  · subst hk
    rw [if_pos rfl]
    exact ⟨_, rfl, t, rfl⟩
  · rw [if_neg hk]
    have e : AW.look { W with med := some n } k = W.look k := by
      unfold AW.look
      split
      · rfl
      · rfl
    rw [e]; exact D.at_ k
theorem dict_nd {prog : Program} {w : World} {K : Type} [DecidableEq K] {knd : KeyKind prog w K} {o : Obj} {kvs : List (K × Value)} (h : o.IsDictOf knd kvs) : (kvs.map (·.1)).Nodup := by
  obtain ⟨_, _, _, _, _, _, hn⟩ := h; exact hn

theorem with_field {news : Led} (W : AW) (d : Addr) (oD : Obj) (kvs : List (Str × Value)) (hd : (d, oD) ∈ news) (hD : oD.IsDictOf (PySem.strKind (PySem.Challenge.rw_rh0202_01.row.prog) w) kvs) (lo : (d == sysModules) = false) (D : Desc news kvs W) (n : Int) (t tn : Tok) :
    Gives w mean mg mb 5 39 news [.ref d, .str (Str.ofString "med") tn, .int n t] (NewDict PySem.Challenge.rw_rh0202_01.row.prog w news { W with med := some n }) := by
  unfold Gives
  k_fill
  intro dp un gd env outer A₀ base h₀ L m s Q E B F X N T hf hke hdp hu hret
  refine wpAny_call ?_
  k_dflt (first | (refine' enterP ?k1 ?k2 ?k3 ?k4 ?k5 ?kA ?kF ?kK ?k6 ?k7 ?k8 ?k9 ?kB ?_ ?c2 ?c3 ?c4 ?c5; (case kA => exact rfl); (case kF => first | exact rfl | assumption); (case kK => first | exact rfl | assumption); (case k1 => k_asm); (case k2 => k_asm); (case k3 => k_asm); (case k4 => k_asm); (case k5 => k_asm); (case k6 => k_is); (case k7 => k_is); (case k8 => (first | exact room_at (by assumption) | ktr_room)); (case k9 => exact BindsTo.of_eq rfl); (case c5 => decide); (case kB => exact locs rfl); (case c2 => exact rfl); (case c3 => exact rfl); (case c4 => exact rfl); k_whole; intro g' L' h' FG' F' N' B' X' T' kG' l1; (try k_lt l1); (try dsimp only); (try k_lift B'); (try k_fold)) | (refine' enterC ?k1 ?k2 ?k3 ?k4 ?k5 ?kA ?kF ?kK ?k6 ?k7 ?k8 ?k9 ?kB ?kD ?_ ?c2 ?c3 ?c4; (case kA => exact rfl); (case kF => first | exact rfl | assumption); (case kK => first | exact rfl | assumption); (case k1 => k_asm); (case k2 => k_asm); (case k3 => k_asm); (case k4 => k_asm); (case k5 => k_asm); (case k6 => k_is); (case k7 => k_is); (case k8 => (first | exact room_at (by assumption) | ktr_room)); (case k9 => exact BindsTo.of_eq rfl); (case kB => exact rfl); (case kD => decide +kernel); (case c2 => exact rfl); (case c3 => exact rfl); (case c4 => exact rfl); k_whole; intro g' L' h' tk' cells' FG' F' N' Y' B' X' T' kG' l1; (try k_lt l1); k_cells Y'; (try simp only [List.cons_append, List.nil_append] at N'); (try dsimp only); (try k_lift B'); (try k_fold)))
  repeat (first | (k_unfold; (try dsimp only)) | walk1 | (dsimp only; walk1))
  refine Stop.go ?_
  k_dflt (refine dc_assign (PySem.strKind _ w) (fun _ => true) (fun v k => (PySem.strKind PySem.Challenge.rw_rh0202_01.row.prog w).is k v = true) (fun v y => ∃ k, (PySem.strKind PySem.Challenge.rw_rh0202_01.row.prog w).is k v = true ∧ valueAt kvs k = some y) (by k_asm) rfl (by with_unfolding_all rfl) rfl (by with_unfolding_all rfl) (by decide) (by rfl) (by decide) (by rfl) (by rfl) (by rfl) ?_ (by intro _; rfl))
  repeat (first | (k_unfold; (try dsimp only)) | walk1 | (dsimp only; walk1))
  refine Stop.go ?_
  refine ⟨_, _, _, Src.dict (kda_dict (by k_asm) (by k_mem) hD) lo, ?len, by k_asm, by k_asm, ?ht, ?hk, ?hv, ?hq⟩
  case len => exact le_size D.len (by decide)
  case ht => intros; exact wpAny_tests_nil ⟨rfl, keeps_self⟩
  case hk =>
    intro C oC i v m₂ s₃ E' hv _ hC hm up F3 N3
    obtain ⟨k, x, hkx, hkv⟩ := hv
    obtain ⟨t', rfl⟩ := Value.isStrOf_shape hkv
    refine wpAny_mono (Q := fun y s₄ => Stop ((∃ k', (PySem.strKind PySem.Challenge.rw_rh0202_01.row.prog w).is k' y = true ∧ (PySem.strKind PySem.Challenge.rw_rh0202_01.row.prog w).is k' (.str k t') = true) ∧ Keeps s₃ s₄)) ?_ (fun _ _ h => h) (fun _ _ e => e)
    repeat (first | (k_unfold; (try dsimp only)) | walk1 | (dsimp only; walk1))
    exact Stop.go ⟨⟨k, strKind_is _ _ _ _, strKind_is _ _ _ _⟩, keeps_self⟩
  case hv =>
    intro C oC i v m₂ s₃ E' hv _ hC hm up F3 N3
    obtain ⟨k, x, hkx, hkv⟩ := hv
    obtain ⟨t', rfl⟩ := Value.isStrOf_shape hkv
    refine wpAny_mono (Q := fun y s₄ => Stop ((∃ k', (PySem.strKind PySem.Challenge.rw_rh0202_01.row.prog w).is k' (.str k t') = true ∧ valueAt kvs k' = some y) ∧ Keeps s₃ s₄)) ?_ (fun _ _ h => h) (fun _ _ e => e)
    repeat (first | (k_unfold; (try dsimp only)) | walk1 | (dsimp only; walk1))
    refine Stop.go ?_
    k_dflt (refine kda_item (knd := PySem.strKind _ _) (by k_asm) (by k_mem) hD (strKind_is _ _ _ _) (valueAt_of_get D.nd hkx) ?_)
    exact Stop.go ⟨⟨k, strKind_is _ _ _ _, valueAt_of_get D.nd hkx⟩, keeps_toks⟩
  case hq =>
    intro D1 o1 kvs1 vs h9 tk9 hlen hvs hst up F9 N9 lt9 mod9 hd9
    have hcop := copied_of (q := fun _ => true) hst hlen hvs (fun _ _ _ => rfl)
    simp only [if_true] at hcop
    dsimp only [envOfC] at F9 N9
    repeat (first | (k_unfold; (try dsimp only)) | walk1 | (dsimp only; walk1))
    refine Stop.go ?_
    k_dflt (refine kda_set (knd := PySem.strKind _ _) (by k_asm) (by k_asm) (.head fun p hp => Nat.ne_of_lt (lt9 p hp)) hd9 (strKind_is _ _ _ _) ?len2 ?_)
    case len2 =>
      exact le_size (Nat.le_trans hst.length_le (Nat.le_trans (List.length_filter_le _ _) (Nat.le_trans (Nat.le_of_eq hlen) D.len))) (by decide)
    intro h8 o8 F8 N8 hd8
    repeat (first | (k_unfold; (try dsimp only)) | walk1 | (dsimp only; walk1))
    have hm9 := mod9 (Top.nolimit (by assumption))
    refine give hret N (by assumption) (by assumption) (by assumption) (by assumption) (by assumption) [(D1, o8)] (fun p hp => ?_) (fun p hp q hq => ?_) ⟨List.mem_cons_self .., hd8, hm9, (D.with_med hcop (dict_nd hd8) fun k => valueAt_stored ..).mono fun p hp => List.mem_append_right _ hp⟩
    · rcases List.mem_append.mp hp with hp | hp
      · rw [List.mem_singleton.mp hp]; exact List.mem_cons_self ..
      · repeat (first | exact hp | apply List.mem_cons_of_mem)
    · rw [List.mem_singleton.mp hp]
      exact lt9 q (by repeat (first | exact hq | apply List.mem_cons_of_mem))
end Mine
end

/-! part H -/
section
set_option maxRecDepth 100000
set_option maxHeartbeats 2000000
namespace Mine
open PySem PySem.W PyProof.Rows PySem.Spec PySem.Calls

/-- the items that a test with the place keeps -/
def filtI (p : Nat → Value → Bool) : Nat → List Value → List Value
  | _, [] => []
  | i, v :: vs => if p i v = true then v :: filtI p (i + 1) vs else filtI p (i + 1) vs

section
variable {prog : Program} {w : World} {A : Around} {E : Value → Shared → Prop} {s : Shared} {h₀ : Heap} {L : Addr} {m : Str → Option Value} {env : Env}

/-- between the turns of the comprehension over enumerate -/
inductive EnumInv (s₂ : Shared) (e it l Dn C : Addr) (vs : List Value) (p : Nat → Value → Bool) (k : Nat) : Shared → Prop
  | mk (h' : Heap) (tk i : Nat) (ys : List Value) (m' : Str → Option Value) : i ≤ vs.length → k = vs.length + 1 - i → ys.length ≤ i → ((∃ old, IsEnum h' e it i old) ∧ h'.IsListIter it l i ∧ h'.IsList l vs.toArray) →
    h'.get? Dn = some (LCg.lst ys) → h'.Ns C m' → (∀ b o, b ∉ [e, it] → s₂.heap.get? b = some o → h'.get? b = some o) → ys ++ filtI p i (vs.drop i) = filtI p 0 vs → EnumInv s₂ e it l Dn C vs p k { s₂ with heap := h', toks := tk }

theorem enum_block {iter c : PySem.Expr} {a b : Str} {pa pb pe tp : Pos} {kk : Nat} {scope : Scope} {cl : List (Str × Addr)} {pos : Pos} {s₂ : Shared} {e it l : Addr} {vs : List Value} {news : Led} (p : Nat → Value → Bool)
    {RR : Value → Addr → Result → Shared → Prop}
    (hh : A.handled = none) (hei : e ≠ it) (hle : l ≠ e) (hli : l ≠ it) (hsz : vs.length ≤ sizeLine)
    (he : IsEnum s₂.heap e it 0 .none) (hit : s₂.heap.IsListIter it l 0) (hl : s₂.heap.IsList l vs.toArray)
    (hcell : ∀ y ∈ scope.names, y.2 ≠ .cell) (hkind : scope.kind = .function) (hxa : scope.names.lookup a = some .local) (hxb : scope.names.lookup b = some .local) (hab : ¬ a = b) (hdb : (b == ("__debug__" : Str)) = false)
    (F : Fr h₀ L s₂.heap m) (N : News h₀ L s₂.heap news) (off : ∀ q ∈ news, q.1 ∉ [e, it]) (hLw : L ∉ [e, it]) (hw₀ : ∀ b ∈ [e, it], h₀.get? b = none)
    (test : ∀ C oC i v t m₂ (s₃ : Shared) E', vs[i]? = some v → LCg.NsObj oC m₂ → m₂ a = some (.int ((i : Nat) : Int) t) → m₂ b = some v → Fr h₀ L s₃.heap m → News h₀ L s₃.heap ((C, oC) :: news) →
      wpAny (model prog w) A (isTrue c (compEnvC scope cl C env) (eval c (compEnvC scope cl C env))) (fun ok s₄ => ok = p i v ∧ Keeps s₃ s₄) E' s₃)
    (hRR : ∀ D C h tk m', Fr h₀ L h m → News h₀ L h ((D, LCg.lst (filtI p 0 vs)) :: news) → (∀ q ∈ news, q.1 < D) → D < C → h.Ns C m' → C ≠ L → D ≠ L → h₀.get? C = none → RR (.ref D) C (.ok .next) { s₂ with heap := h, toks := tk }) :
    wpAny (model prog w) A (newList []) (fun acc s₃ => wpAny (model prog w) A (newFunctionEnv scope env.globals cl [] env.qual none .none (some env)) (fun cenv s₄ =>
      codeAny (model prog w) A (.compStart (.ListComp (.Name b pe) [⟨.Tuple [.Name a pa, .Name b pb] kk tp, iter, [c], 0⟩] scope pos) 0 (.ref e) acc { cenv with scope := relabel scope env }) (RR acc cenv.locals) s₄) E s₃) E s₂ := by
  refine wpAny_newObj_type (wpAny_newFunctionEnv hcell (by intro y hy; simp at hy) (fun h₁ hns₁ hsb₁ => ?_) hkind)
  dsimp only at hns₁ hsb₁ ⊢
  generalize hH2 : s₂.heap.push { cls := .type "list", dict := none, data := .seq ([] : List Value).toArray } = H2 at hns₁ hsb₁ ⊢
  have hC : H2.objs.size = s₂.heap.objs.size + 1 := by rw [← hH2, Heap.size_push]
  have hDC : s₂.heap.objs.size ≠ H2.objs.size := by rw [hC]; exact Nat.ne_of_lt (Nat.lt_succ_self _)
  have low : ∀ b, b < s₂.heap.objs.size → b ≠ H2.objs.size ∧ b ≠ s₂.heap.objs.size := fun b hb => ⟨by rw [hC]; exact Nat.ne_of_lt (Nat.lt_succ_of_lt hb), Nat.ne_of_lt hb⟩
  have old : ∀ b o, s₂.heap.get? b = some o → h₁.get? b = some o := fun b o x => hsb₁.extBut b o (low b (Heap.lt_size x)).1 (Heap.get?_push_of_some _ (hH2 ▸ Heap.get?_push_of_some _ x))
  have hacc : h₁.get? s₂.heap.objs.size = some (LCg.lst []) := hsb₁.extBut _ _ hDC (Heap.get?_push_of_some _ (hH2 ▸ Heap.get?_push_size _ rfl))
  have helt : e < s₂.heap.objs.size := Heap.lt_size he
  have hilt : it < s₂.heap.objs.size := by obtain ⟨_, x, _⟩ := hit; exact Heap.lt_size x
  have hllt : l < s₂.heap.objs.size := by obtain ⟨_, x, _⟩ := hl; exact Heap.lt_size x
  have hwlt : ∀ b ∈ [e, it], b < s₂.heap.objs.size := fun b hb => by
    rcases List.mem_cons.mp hb with rfl | hb
    · exact helt
    · rw [List.mem_singleton.mp hb]; exact hilt
  have hflt : ∀ b ∈ [e, it, l], b < s₂.heap.objs.size := fun b hb => by
    rcases List.mem_cons.mp hb with rfl | hb
    · exact helt
    rcases List.mem_cons.mp hb with rfl | hb
    · exact hilt
    · rw [List.mem_singleton.mp hb]; exact hllt
  have hDw : s₂.heap.objs.size ∉ [e, it] := fun hb => Nat.lt_irrefl _ (hwlt _ hb)
  have hCw : H2.objs.size ∉ [e, it] := fun hb => by have := hwlt _ hb; rw [hC] at this; exact Nat.lt_irrefl _ (Nat.lt_of_succ_lt this)
  have W := WalksT.enumerate (prog := prog) (w := w) hh e it l hei hle hli vs.toArray
  have hCn : s₂.heap.get? H2.objs.size = none := Heap.get?_none_of_le (by rw [hC]; exact Nat.le_succ _)
  have hDn : s₂.heap.get? s₂.heap.objs.size = none := Heap.get?_none_of_le (Nat.le_refl _)
  have hCL : H2.objs.size ≠ L := Ne.symm (low L F.ns.lt).1
  have hDL : s₂.heap.objs.size ≠ L := Ne.symm (low L F.ns.lt).2
  have frame : ∀ {h : Heap}, (∀ b o, b ∉ [e, it] → s₂.heap.get? b = some o → h.get? b = some o) → Fr h₀ L h m ∧ News h₀ L h news := fun {h} hk =>
    ⟨⟨F.ns.at' fun o x => hk _ o hLw x, fun b o x => hk b o (fun hb => by rw [hw₀ b hb] at x; cases x) (F.keep b o x), F.above⟩, fun q hq => ⟨hk _ _ (off q hq) (N q hq).1, (N q hq).2⟩⟩
  have loop : ∀ s₃ : Shared, s₃ = { s₂ with heap := h₁, toks := s₂.toks + ([] : List (Str × Value)).length } →
      codeAny (model prog w) A (.compLoop (.ListComp (.Name b pe) [⟨.Tuple [.Name a pa, .Name b pb] kk tp, iter, [c], 0⟩] scope pos) 0 (.ref e) (.ref s₂.heap.objs.size) (compEnvC scope cl H2.objs.size env))
        (RR (.ref s₂.heap.objs.size) H2.objs.size) s₃ := by
    rintro s₃ rfl
    refine kct_loop
      (fun k s' => EnumInv s₂ e it l s₂.heap.objs.size H2.objs.size vs p k s') ?_ (vs.length + 1)
      (.mk h₁ _ 0 [] _ (Nat.zero_le _) rfl (Nat.le_refl _) ⟨⟨_, old _ _ he⟩, hit.at fun o x => old _ o x, hl.at fun o x => old _ o x⟩ hacc hns₁ (fun b o _ x => old b o x) (by rw [List.drop_zero]; rfl))
    rintro k s' ⟨h', tk, i, ys, m', hi, rfl, hyl, hst, hD, hn', hk', hR⟩
    by_cases hlt : i < vs.length
    · refine W.item i _ _ _ (by simpa using hlt) hst fun T vals h₂ tk₂ hP hTs hT hMd hk₂ => ?_
      obtain ⟨t, x, hx, rfl⟩ := hP
      have hx' : vs[i]? = some x := by simpa using hx
      have hTw := W.apart i T _ hMd
      refine W.go _ _ _ i T _ _ _ hMd fun h₃ hst₃ hk₃ => ?_
      have up₃ : ∀ b o, b ∉ [e, it] → h'.get? b = some o → h₃.get? b = some o := fun b o hb y => hk₃ b o hb (hk₂ b o hb y)
      refine kcp_assign (env := compEnvC scope cl H2.objs.size env) hh (hT.at fun o y => hk₃ T o hTw y) (lookup_relabel_local hxa) (lookup_relabel_local hxb) (by simp [compEnvC, relabel, hkind]) (hn'.at' fun o y => up₃ _ o hCw y) fun h₄ tk₄ hn₄ hs₄ => ?_
      have up₄ : ∀ b o, b ∉ [e, it] → s₂.heap.get? b = some o → h₄.get? b = some o := fun b o hb y => hs₄ b o (low b (Heap.lt_size y)).1 (up₃ b o hb (hk' b o hb y))
      obtain ⟨F₄, N₄⟩ := frame up₄
      obtain ⟨oC, eC, nC⟩ := LCg.ns_obj hn₄
      have NC : News h₀ L h₄ ((H2.objs.size, oC) :: news) := fun q hq => by
        rcases List.mem_cons.mp hq with rfl | hq
        · exact ⟨eC, hCL, none_keep F.keep hCn⟩
        · exact N₄ q hq
      have hD₄ : h₄.get? s₂.heap.objs.size = some (LCg.lst ys) := hs₄ _ _ hDC (up₃ _ _ hDw hD)
      have hst₄ := W.frame _ _ h₄ hst₃ fun b hb o y => hs₄ b o (low b (hflt b hb)).1 y
      have hR' : filtI p i (vs.drop i) = if p i x = true then x :: filtI p (i + 1) (vs.drop (i + 1)) else filtI p (i + 1) (vs.drop (i + 1)) := by
        have hg := (List.getElem?_eq_some_iff.mp hx').2
        rw [List.drop_eq_getElem_cons hlt, hg]; rfl
      refine wpAny_mono (test _ oC i x t _ _ _ hx' nC (by simp [hab]) (by simp) F₄ NC) (fun ok s₅ h₅ => ?_) fun _ _ y => y
      obtain ⟨rfl, h₅, tk₅, rfl, hk₅⟩ := h₅
      have hst₅ := W.frame _ _ h₅ hst₄ fun b _ o y => hk₅ b o y
      cases hp : p i x with
      | false =>
        simp only [Bool.false_eq_true, if_false]
        refine ⟨vs.length + 1 - (i + 1), Nat.sub_lt_sub_left (Nat.lt_succ_of_lt hlt) (Nat.lt_succ_self i), .mk h₅ tk₅ (i + 1) ys _ hlt rfl (Nat.le_succ_of_le hyl) hst₅ (hk₅ _ _ hD₄) (hn₄.keeps hk₅) (fun b o hb y => hk₅ b o (up₄ b o hb y)) ?_⟩
        rw [hp] at hR'
        simp only [Bool.false_eq_true, if_false] at hR'
        rw [← hR']; exact hR
      | true =>
        simp only [if_true]
        refine ldVarK (v := x) (hn₄.keeps hk₅) (by simp) ?_ (by simp [compEnvC, relabel, hkind]) (lookup_relabel_local hxb) hdb
        refine append_at (hsz := by show ys.toArray.size ≤ sizeLine; rw [List.size_toArray]; exact Nat.le_trans hyl (Nat.le_trans hi hsz)) (hk₅ _ _ hD₄) fun h₆ hs₆ hD₆ => ?_
        refine ⟨vs.length + 1 - (i + 1), Nat.sub_lt_sub_left (Nat.lt_succ_of_lt hlt) (Nat.lt_succ_self i), .mk h₆ tk₅ (i + 1) (ys ++ [x]) _ hlt rfl (by simpa using hyl) ?_ (hD₆.trans (congrArg some (LCg.lst_snoc ys x))) ((hn₄.keeps hk₅).sameBut hs₆ (Ne.symm hDC)) (fun b o hb y => hs₆.extBut b o (low b (Heap.lt_size y)).2 (hk₅ b o (up₄ b o hb y))) ?_⟩
        · exact W.frame _ _ h₆ hst₅ fun b hb o y => hs₆.extBut b o (low b (hflt b hb)).2 y
        · rw [hp] at hR'
          simp only [if_true] at hR'
          rw [← hR, hR', List.append_assoc]; rfl
    · have hin : i = vs.length := Nat.le_antisymm hi (Nat.not_lt.mp hlt)
      subst hin
      have hnil : vs.drop vs.length = [] := List.drop_eq_nil_of_le (Nat.le_refl _)
      rw [hnil] at hR
      have hR : ys = filtI p 0 vs := by simpa [filtI] using hR
      subst hR
      refine W.done _ _ _ (by simpa using hst) fun h₂ tk₂ hk₂ => ?_
      have up₂ : ∀ b o, b ∉ [e, it] → s₂.heap.get? b = some o → h₂.get? b = some o := fun b o hb y => hk₂ b o hb (hk' b o hb y)
      obtain ⟨F₂, N₂⟩ := frame up₂
      refine hRR _ _ h₂ tk₂ m' F₂ (fun q hq => ?_) (fun q hq => Heap.lt_size (N q hq).1) (by rw [hC]; exact Nat.lt_succ_self _) (hn'.at' fun o y => hk₂ _ o hCw y) hCL hDL (none_keep F.keep hCn)
      rcases List.mem_cons.mp hq with rfl | hq
      · exact ⟨hk₂ _ _ hDw hD, hDL, none_keep F.keep hDn⟩
      · exact N₂ q hq
  exact codeAny_compStart_list (loop _ rfl) (wpAny_pyIter_enum (old _ _ he) (loop _ rfl))

/-- what is asked of the comprehension over enumerate behind its source -/
inductive EnumGo (prog : Program) (w : World) (A : Around) (h₀ : Heap) (L : Addr) (m : Str → Option Value) (c : PySem.Expr) (a b : Str) (scope : Scope) (cl : List (Str × Addr)) (env : Env) (p : Nat → Value → Bool) (Q : Value → Shared → Prop) (xv : Value) (s₁ : Shared) : Prop
  | mk (e it l : Addr) (vs : List Value) (news : Led) : xv = .ref e → e ≠ it → l ≠ e → l ≠ it → vs.length ≤ sizeLine → IsEnum s₁.heap e it 0 .none → s₁.heap.IsListIter it l 0 → s₁.heap.IsList l vs.toArray → Fr h₀ L s₁.heap m → News h₀ L s₁.heap news → (∀ q ∈ news, q.1 ∉ [e, it]) → L ∉ [e, it] → (∀ b ∈ [e, it], h₀.get? b = none) → (∀ C oC i v t m₂ (s₃ : Shared) E', vs[i]? = some v → LCg.NsObj oC m₂ → m₂ a = some (.int ((i : Nat) : Int) t) → m₂ b = some v → Fr h₀ L s₃.heap m → News h₀ L s₃.heap ((C, oC) :: news) →    wpAny (model prog w) A (isTrue c (compEnvC scope cl C env) (eval c (compEnvC scope cl C env))) (fun ok s₄ => ok = p i v ∧ Keeps s₃ s₄) E' s₃) → (∀ D h tk, Fr h₀ L h m → News h₀ L h ((D, listOf (filtI p 0 vs).toArray (filtI p 0 vs).length) :: news) → (∀ q ∈ news, q.1 < D) → Q (.ref D) { s₁ with heap := h, toks := tk }) → EnumGo prog w A h₀ L m c a b scope cl env p Q xv s₁

/-- [b for a, b in enumerate(..) if c] -/
theorem enum_eval {iter c : PySem.Expr} {a b : Str} {pa pb pe tp : Pos} {kk : Nat} {scope : Scope} {cl : List (Str × Addr)} {pos : Pos} {Q : Value → Shared → Prop} (p : Nat → Value → Bool)
    (_F₀ : Fr h₀ L s.heap m)
    (hh : A.handled = none) (hclos : closureFor scope env = pure cl) (hcell : ∀ z ∈ scope.names, z.2 ≠ .cell) (hkind : scope.kind = .function)
    (hnames : ∀ z ∈ scope.names, z.2 = .local → scope.names.lookup z.1 = some .local) (hxa : scope.names.lookup a = some .local) (hxb : scope.names.lookup b = some .local) (hab : ¬ a = b) (hdb : (b == ("__debug__" : Str)) = false)
    (h : wpAny (model prog w) A (eval iter env) (EnumGo prog w A h₀ L m c a b scope cl env p Q) E s)
    (hs : ∀ x, foldedSetIterable iter env x = pure x := by intro _; rfl) :
    wpAny (model prog w) A (eval (.ListComp (.Name b pe) [⟨.Tuple [.Name a pa, .Name b pb] kk tp, iter, [c], 0⟩] scope pos) env) Q E s := by
  rw [arm_eval_ListComp]
  refine wpAny_comprehension_free (use := none) rfl hs hclos hkind hnames (wpAny_mono h (fun xv s₁ h₁ => ?_) fun _ _ e => e)
  obtain ⟨e, it, l, vs, news, rfl, hei, hle, hli, hsz, he, hit, hl, F, N, off, hLw, hw₀, test, hQ⟩ := h₁
  refine wpAny_pyIter_enum he ?_
  refine enum_block (RR := fun acc C => compPost (model prog w) A E none Q acc C) p hh hei hle hli hsz he hit hl hcell hkind hxa hxb hab hdb F N off hLw hw₀ test ?_
  intro D C h₁ tk m' F₁ N₁ lt hDC hn hCL hDL hC₀
  refine ⟨m', hn, fun h₃ hs₃ => ?_⟩
  refine hQ D h₃ _ (F₁.change hs₃ hCL hC₀) (fun q hq => ?_) lt
  have hne : q.1 ≠ C := by
    rcases List.mem_cons.mp hq with rfl | hq
    · exact Nat.ne_of_lt hDC
    · exact Nat.ne_of_lt (Nat.lt_trans (lt q hq) hDC)
  exact ⟨hs₃.extBut _ _ hne (N₁ q hq).1, (N₁ q hq).2⟩

/-- the source enumerate(l), l in the ledger -/
theorem enum_src {l : Addr} {vs : List Value} {n : Nat} {news : Led} {Q : Value → Shared → Prop} (F : Fr h₀ L s.heap m) (N : News h₀ L s.heap news) (hl : (l, listOf vs.toArray n) ∈ news)
    (h : ∀ e it h', e ≠ it → l ≠ e → l ≠ it → IsEnum h' e it 0 .none → h'.IsListIter it l 0 → h'.IsList l vs.toArray → Fr h₀ L h' m → News h₀ L h' news → (∀ q ∈ news, q.1 ∉ [e, it]) → L ∉ [e, it] → (∀ b ∈ [e, it], h₀.get? b = none) → Q (.ref e) { s with heap := h' }) :
    wpAny (model prog w) A (call (.type "enumerate") [.ref l]) Q E s := by
  have hL : s.heap.IsList l vs.toArray := ⟨_, (N _ hl).1, rfl, _, rfl⟩
  have hlt : l < s.heap.objs.size := Heap.lt_size (N _ hl).1
  refine call_enumerate_list hL fun h' he hi _ hk => ?_
  have two : ∀ b, b < s.heap.objs.size → b ∉ [s.heap.objs.size + 1, s.heap.objs.size] := fun b hb hm => by
    rcases List.mem_cons.mp hm with rfl | hm
    · exact Nat.lt_irrefl _ (Nat.lt_of_succ_lt hb)
    · rw [List.mem_singleton.mp hm] at hb; exact Nat.lt_irrefl _ hb
  refine h _ _ h' (Nat.succ_ne_self _) (Nat.ne_of_lt (Nat.lt_succ_of_lt hlt)) (Nat.ne_of_lt hlt) he hi (hL.at fun o x => hk l o x) (F.keeps hk) (fun q hq => ⟨hk _ _ (N q hq).1, (N q hq).2⟩) (fun q hq => two _ (Heap.lt_size (N q hq).1)) (two _ F.ns.lt) fun b hb => ?_
  have hle : h₀.objs.size ≤ s.heap.objs.size := Nat.le_trans F.above (Nat.le_of_lt F.ns.lt)
  rcases List.mem_cons.mp hb with rfl | hb
  · exact Heap.get?_none_of_le (Nat.le_succ_of_le hle)
  · rw [List.mem_singleton.mp hb]; exact Heap.get?_none_of_le hle
end
end Mine
end

/-! part U -/
section
set_option maxRecDepth 100000
set_option maxHeartbeats 2000000
namespace Mine
open PySem PySem.W PyProof.Rows PySem.Spec PySem.Calls

def ded : Option Int → List Int → List Int
  | _, [] => []
  | q, n :: r => if q = some n then ded (some n) r else n :: ded (some n) r
theorem ded_sub : ∀ (l : List Int) (q : Option Int) x, x ∈ ded q l → x ∈ l
  | [], _, _, h => h
  | n :: r, q, x, h => by
    unfold ded at h
    split at h
    · exact List.mem_cons_of_mem _ (ded_sub r _ x h)
    · rcases List.mem_cons.mp h with rfl | h
      · exact List.mem_cons_self ..
      · exact List.mem_cons_of_mem _ (ded_sub r _ x h)
theorem ded_all : ∀ (l : List Int) (q : Option Int) x, x ∈ l → x ∈ ded q l ∨ q = some x
  | [], _, _, h => nomatch h
  | n :: r, q, x, h => by
    unfold ded
    split
    · rename_i hq
      rcases List.mem_cons.mp h with rfl | h
      · exact .inr hq
      · rcases ded_all r (some n) x h with h | h
        · exact .inl h
        · exact .inr (hq.trans h)
    · rcases List.mem_cons.mp h with rfl | h
      · exact .inl (List.mem_cons_self ..)
      · rcases ded_all r (some n) x h with h | h
        · exact .inl (List.mem_cons_of_mem _ h)
        · exact .inl (by rw [← Option.some.inj h]; exact List.mem_cons_self ..)
theorem ded_rise : ∀ (l : List Int) (q : Option Int), l.Pairwise (· ≤ ·) → (∀ a, q = some a → ∀ x ∈ l, a ≤ x) → (ded q l).Pairwise (· < ·) ∧ ∀ a, q = some a → ∀ x ∈ ded q l, a < x
  | [], _, _, _ => ⟨.nil, fun _ _ _ h => nomatch h⟩
  | n :: r, q, hp, hq => by
    obtain ⟨h1, h2⟩ := List.pairwise_cons.mp hp
    obtain ⟨i1, i2⟩ := ded_rise r (some n) h2 fun a e x hx => by cases e; exact h1 x hx
    unfold ded
    split
    · rename_i e
      refine ⟨i1, fun a ea x hx => ?_⟩
      rw [e] at ea
      exact i2 a ea x hx
    · rename_i e
      refine ⟨List.pairwise_cons.mpr ⟨fun x hx => i2 n rfl x hx, i1⟩, fun a ea x hx => ?_⟩
      have han := hq a ea n (List.mem_cons_self ..)
      have hne : a ≠ n := fun h => e (by rw [ea, h])
      rcases List.mem_cons.mp hx with rfl | hx
      · exact Int.lt_iff_le_and_ne.mpr ⟨han, hne⟩
      · exact Int.lt_of_le_of_lt han (i2 n rfl x hx)

/-- the test of the text: the first, or another than the one before -/
def pd (ns : List Int) (i : Nat) : Value → Bool
  | .int n _ => decide (i = 0) || !decide (n = ns.getD (i - 1) 0)
  | _ => false
theorem filt_ded (ns : List Int) : ∀ (vs' : List Value) (r : List Int) (i : Nat), IntsAre vs' r → ns.drop i = r → IntsAre (filtI (pd ns) i vs') (ded (if i = 0 then none else some (ns.getD (i - 1) 0)) r)
  | [], _, i, h, _ => by cases h; exact .nil
  | _ :: vs', _, i, .cons n t (ns := r) h, hd => by
    have hn : ns.getD i 0 = n := by
      have hlt : i < ns.length := Nat.lt_of_not_le fun hle => nomatch (List.drop_eq_nil_of_le hle).symm.trans hd
      have := List.drop_eq_getElem_cons hlt
      rw [hd] at this
      have := (List.cons.inj this).1
      rw [this]; simp [hlt]
    have hd' : ns.drop (i + 1) = r := by
      have := congrArg List.tail hd
      rw [List.tail_drop] at this
      exact this
    have ih := filt_ded ns vs' r (i + 1) h hd'
    rw [if_neg (Nat.succ_ne_zero i)] at ih
    have e : i + 1 - 1 = i := rfl
    rw [e, hn] at ih
    unfold filtI ded
    by_cases hi : i = 0
    · subst hi
      have hpd : pd ns 0 (.int n t) = true := rfl
      rw [hpd, if_pos rfl, if_pos rfl, if_neg (by simp)]
      exact .cons _ _ ih
    · rw [if_neg hi]
      by_cases hq : ns.getD (i - 1) 0 = n
      · have hpd : pd ns i (.int n t) = false := by unfold pd; simp [hi]; rw [← hq]; simp
        rw [hpd, if_neg (by simp), if_pos (by rw [hq])]
        exact ih
      · have hpd : pd ns i (.int n t) = true := by
          show (decide (i = 0) || !decide (n = ns.getD (i - 1) 0)) = true
          rw [decide_eq_false (p := n = ns.getD (i - 1) 0) fun e => hq e.symm]; simp
        rw [hpd, if_pos rfl, if_neg (fun h => hq (Option.some.inj h))]
        exact .cons _ _ ih
theorem filt_all {ns : List Int} {vs : List Value} (h : IntsAre vs ns) (hs : ns.Pairwise (· ≤ ·)) : ∃ ks, IntsAre (filtI (pd ns) 0 vs) ks ∧ ks.Pairwise (· < ·) ∧ ∀ x, x ∈ ks ↔ x ∈ ns :=
  ⟨ded none ns, filt_ded ns vs ns 0 h rfl, (ded_rise ns none hs fun _ e => nomatch e).1, fun x => ⟨ded_sub ns none x, fun hx => (ded_all ns none x hx).resolve_right fun e => nomatch e⟩⟩

theorem rise_unique : ∀ (l k : List Int), l.Pairwise (· < ·) → k.Pairwise (· < ·) → (∀ x, x ∈ l ↔ x ∈ k) → l = k
  | [], [], _, _, _ => rfl
  | [], b :: k, _, _, h => nomatch (h b).mpr (List.mem_cons_self ..)
  | a :: l, [], _, _, h => nomatch (h a).mp (List.mem_cons_self ..)
  | a :: l, b :: k, hl, hk, h => by
    obtain ⟨l1, l2⟩ := List.pairwise_cons.mp hl
    obtain ⟨k1, k2⟩ := List.pairwise_cons.mp hk
    have hab : a = b := by
      rcases List.mem_cons.mp ((h a).mp (List.mem_cons_self ..)) with e | ha
      · exact e
      · rcases List.mem_cons.mp ((h b).mpr (List.mem_cons_self ..)) with e | hb
        · exact e.symm
        · exact absurd (Int.lt_trans (k1 a ha) (l1 b hb)) (Int.lt_irrefl _)
    subst hab
    rw [rise_unique l k l2 k2 fun x => ?_]
    have hx := h x
    simp only [List.mem_cons] at hx
    constructor
    · intro hxl
      rcases hx.mp (.inr hxl) with e | e
      · exact absurd e.symm (Int.ne_of_lt (l1 x hxl))
      · exact e
    · intro hxk
      rcases hx.mpr (.inr hxk) with e | e
      · exact absurd e.symm (Int.ne_of_lt (k1 x hxk))
      · exact e
end Mine
end

/-! part G -/
section
set_option maxRecDepth 100000
set_option maxHeartbeats 8000000
namespace Mine
open PySem PySem.W PyProof.Rows PySem.Spec PySem.Calls




variable {w : World} {mean : ExcName → Option Value} {mg mb : Str → Option Value}


local macro_rules | `(tactic| walk_at "exec Assign cons DictComp") => `(tactic| refine Stop.of ?_)
local macro_rules | `(tactic| walk_at "eval ListComp") => `(tactic| refine Stop.of ?_)
local macro_rules | `(tactic| walk_at "DcGo") => `(tactic| refine Stop.of ?_)
local macro_rules | `(tactic| walk_at "setItem ref str") => `(tactic| refine Stop.of ?_)
local macro_rules | `(tactic| walk_at "call builtin:sorted") => `(tactic| refine Stop.of ?_)
local macro_rules | `(tactic| walk_at "call type:enumerate") => `(tactic| refine Stop.of ?_)
local macro_rules | `(tactic| walk_at "compareOp NotEq ref ref") => `(tactic| refine Stop.of ?_)
local macro_rules | `(tactic| walk_at "call type:tuple") => `(tactic| refine Stop.of ?_)
local macro_rules | `(tactic| walk_at "LcGo") => `(tactic| refine Stop.of ?_)
local macro_rules | `(tactic| walk_at "call builtin:dict.pop") => `(tactic| refine Stop.of ?_)
local macro_rules | `(tactic| walk_at "storeName") => `(tactic| ((with_reducible show wpAny _ _ (storeName _ (Str.ofString "kept") _) _ _ _); refine Stop.of ?_))
local macro_rules | `(tactic| walk_at "subscriptTail") => `(tactic| ((with_reducible show wpAny _ _ (subscriptTail _ _ (Value.ref _) (Value.str _ _)) _ _ _); refine Stop.of ?_))

section
variable {prog : Program} {w : World} {A : Around} {E : Value → Shared → Prop} {s : Shared} {h₀ : Heap} {L : Addr} {m : Str → Option Value}
theorem pop_partial {led news₀ : Led} {g : Obj → Led} {d T0 : Addr} {o : Obj} {kvs1 : List (Str × Value)} {W : AW} {t : Tok} {Q : Value → Shared → Prop} (F : Fr h₀ L s.heap m) (N : News h₀ L s.heap led) (U : UpdF d o led g) (hd : o.IsDictOf (PySem.strKind prog w) kvs1) (lo : (d == sysModules) = false) (hlen : kvs1.length ≤ sizeLine)
    (hv : OptIs news₀ (if W.marks.isEmpty = true then none else some (.txts W.marks)) (valueAt kvs1 (Str.ofString "partial"))) (hsub : ∀ p ∈ news₀, p ∈ led) (hT0 : (T0, ({ cls := .type "tuple", data := .seq #[] } : Obj)) ∈ led)
    (h : ∀ h' o' tk' kvs2 pa vs, Fr h₀ L h' m → News h₀ L h' (g o') → o'.IsDictOf (PySem.strKind prog w) kvs2 → (∀ k, valueAt kvs2 k = if k = Str.ofString "partial" then none else valueAt kvs1 k) → (pa, ({ cls := .type "tuple", data := .seq vs.toArray } : Obj)) ∈ g o' → StrsAre vs W.marks → kvs2.length ≤ kvs1.length →
      Q (.ref pa) { s with heap := h', toks := tk' }) :
    wpAny (model prog w) A (call (.builtin "dict.pop") [.ref d, .str (Str.ofString "partial") t, .ref T0]) Q E s := by
  obtain ⟨pre, post, e, hg, a, b⟩ := U.split
  have keep : ∀ {pa vs} o', (pa, ({ cls := .type "tuple", data := .seq vs } : Obj)) ∈ led → (pa, ({ cls := .type "tuple", data := .seq vs } : Obj)) ∈ g o' := fun {pa vs} o' hm => by
    rw [e] at hm
    rw [hg]
    rcases List.mem_append.mp hm with hm | hm
    · exact List.mem_append_left _ hm
    rcases List.mem_cons.mp hm with hm | hm
    · obtain ⟨_, _, hc, _⟩ := hd
      have h1 := congrArg (fun p => p.2.cls) hm
      have h2 : o.cls = .type "dict" := hc.1
      rw [h2] at h1
      exact absurd (Value.type.inj h1) (by decide)
    · exact List.mem_append_right _ (List.mem_cons_of_mem _ hm)
  cases hm : W.marks.isEmpty with
  | true =>
    rw [hm] at hv
    have hv' : valueAt kvs1 (Str.ofString "partial") = none := hv
    have hD := kda_dict N (e ▸ List.mem_append_right _ (List.mem_cons_self ..)) hd
    have hgo : g o = led := by rw [hg, e]
    refine call_meetsIn PySem.F.slot_dict_pop hD.typeIs PySem.F.entry_dict_pop (PySem.F.args_dict_pop_3 _ _ _) (meets_dict_pop_default (PySem.strKind prog w) d (strKind_is _ _ _ _) lo rfl _) ⟨kvs1, hD, hv', ?_⟩
    refine h s.heap o _ kvs1 T0 [] F (hgo ▸ N) hd (fun k => ?_) (keep o hT0) (by rw [List.isEmpty_iff.mp hm]; exact .nil) (Nat.le_refl _)
    split
    · rename_i hk; rw [hk]; exact hv'
    · rfl
  | false =>
    rw [hm] at hv
    obtain ⟨v, hv', pa, vs, rfl, hp, hs⟩ := hv
    refine kob_pop (knd := PySem.strKind prog w) F N U hd (strKind_is _ _ _ _) (.inr ⟨_, rfl⟩) (by rfl) (PySem.F.args_dict_pop_3 _ _ _) hv' hlen fun h' o' F' N' hd' => ?_
    exact h h' o' _ _ pa vs F' N' hd' (fun k => valueAt_without ..) (keep o' (hsub _ hp)) hs (List.length_filter_le _ _)
end

theorem all_swap {c : Addr} {o o' : Obj} {r : Led} {D : Addr} (h : ∀ q ∈ (c, o) :: r, q.1 < D) : ∀ q ∈ (c, o') :: r, q.1 < D := fun q hq => by
  rcases List.mem_cons.mp hq with rfl | hq
  · exact h (c, o) (List.mem_cons_self ..)
  · exact h q (List.mem_cons_of_mem _ hq)

theorem marks_full {W : AW} {ks : List Int} (hk : ks ≠ []) (inv : W.cm = true → W.held ≠ []) : AW.marks { W with held := ks, cm := W.cm && !ks.isEmpty } = W.marks := by
  have h1 : ks.isEmpty = false := by cases ks with | nil => exact absurd rfl hk | cons _ _ => rfl
  unfold AW.marks
  dsimp only
  rw [h1]
  cases hc : W.cm with
  | false => simp
  | true =>
    have h2 : W.held.isEmpty = false := by cases hh : W.held with | nil => exact absurd hh (inv hc) | cons _ _ => rfl
    rw [h2]; rfl
theorem Desc.with_held {news news' : Led} {W : AW} {kvs kvs1 kvs2 : List (Str × Value)} {ks : List Int} {T : Addr} {ys : List Value} (D : Desc news kvs W) (hs : ∀ p ∈ news, p ∈ news') (h1 : ∀ k, valueAt kvs1 k = if (!decide (k = Str.ofString "communities")) = true then valueAt kvs k else none) (hn : (kvs2.map (·.1)).Nodup)
    (h2 : ∀ k, valueAt kvs2 k = if k = Str.ofString "communities" then some (.ref T) else valueAt kvs1 k) (hT : (T, ({ cls := .type "tuple", data := .seq ys.toArray } : Obj)) ∈ news') (hy : IntsAre ys ks) (hk : ks ≠ []) (inv : W.cm = true → W.held ≠ []) :
    Desc news' kvs2 { W with held := ks, cm := W.cm && !ks.isEmpty } := by
  have h3 : ks.isEmpty = false := by cases ks with | nil => exact absurd rfl hk | cons _ _ => rfl
  refine ⟨hn, fun k => ?_⟩
  rw [h2, h1]
  by_cases hkk : k = Str.ofString "communities"
  · subst hkk
    rw [if_pos rfl]
    have e : AW.look { W with held := ks, cm := W.cm && !ks.isEmpty } (Str.ofString "communities") = if ks.isEmpty = true then none else some (.nums ks) := rfl
    rw [e, h3]
    exact ⟨_, rfl, T, ys, rfl, hT, hy⟩
  · rw [if_neg hkk, decide_eq_false hkk]
    have e : AW.look { W with held := ks, cm := W.cm && !ks.isEmpty } k = W.look k := by
      unfold AW.look
      rw [marks_full hk inv]
      rw [if_neg hkk, if_neg hkk]
    rw [e]; exact (D.at_ k).mono hs

theorem Desc.no_held {news news' : Led} {W : AW} {kvs kvs1 kvs2 : List (Str × Value)} {pv : Option Value} {b : Bool} (D : Desc news kvs W) (hs : ∀ p ∈ news, p ∈ news') (h1 : ∀ k, valueAt kvs1 k = if (!decide (k = Str.ofString "communities")) = true then valueAt kvs k else none) (hn : (kvs2.map (·.1)).Nodup)
    (h2 : ∀ k, valueAt kvs2 k = if k = Str.ofString "partial" then pv else valueAt kvs1 k) (hp : OptIs news' (if (W.ag && W.agm) = true then some (.txts [Str.ofString "aggregator"]) else none) pv) :
    Desc news' kvs2 { W with held := [], cm := b } := by
  have hm : AW.marks { W with held := [], cm := b } = if (W.ag && W.agm) = true then [Str.ofString "aggregator"] else [] := by
    unfold AW.marks
    simp
  refine ⟨hn, fun k => ?_⟩
  rw [h2, h1]
  by_cases hk : k = Str.ofString "partial"
  · subst hk
    rw [if_pos rfl]
    have e : AW.look { W with held := [], cm := b } (Str.ofString "partial") = if (AW.marks { W with held := [], cm := b }).isEmpty = true then none else some (.txts (AW.marks { W with held := [], cm := b })) := rfl
    rw [e, hm]
    cases hb : (W.ag && W.agm) with
    | true => rw [hb] at hp; exact hp
    | false => rw [hb] at hp; exact hp
  · rw [if_neg hk]
    by_cases hkk : k = Str.ofString "communities"
    · subst hkk
      rw [decide_eq_true rfl]
      exact rfl
    · rw [decide_eq_false hkk]
      have e : AW.look { W with held := [], cm := b } k = W.look k := by
        unfold AW.look
        rw [if_neg hk, if_neg hk, if_neg hkk, if_neg hkk]
      rw [e]; exact (D.at_ k).mono hs
theorem marks_len (W : AW) : W.marks.length ≤ 2 := by
  unfold AW.marks
  split <;> split <;> simp
theorem strs_at {vs : List Value} {xs : List Str} (h : StrsAre vs xs) : ∀ (i : Nat) v, vs[i]? = some v → ∃ k t, v = .str k t := by
  induction h with
  | nil => intro i v h; simp at h
  | cons y t _ ih =>
    intro i v h
    cases i with
    | zero => exact ⟨y, t, (Option.some.inj h).symm⟩
    | succ i => exact ih i v (by simpa using h)
theorem strs_len {vs : List Value} {xs : List Str} (h : StrsAre vs xs) : vs.length = xs.length := by
  induction h with
  | nil => rfl
  | cons _ _ _ ih => simp [ih]
theorem paired_eq {vs ys : List Value} (h : Paired (fun v y => y = v) vs ys) : ys = vs := by
  induction h with
  | nil => rfl
  | cons h _ ih => rw [h, ih]
theorem filt_marks {vs : List Value} {W : AW} (h : StrsAre vs W.marks) : (∃ t, (W.ag && W.agm) = true ∧ (vs.filter fun v => !Value.isStrOf (Str.ofString "communities") v) = [.str (Str.ofString "aggregator") t]) ∨ ((W.ag && W.agm) = false ∧ (vs.filter fun v => !Value.isStrOf (Str.ofString "communities") v) = []) := by
  unfold AW.marks at h
  cases ha : (W.ag && W.agm) <;> cases hc : (!W.held.isEmpty && W.cm) <;> rw [ha, hc] at h
  · cases h; exact .inr ⟨rfl, rfl⟩
  · cases h with
    | cons _ t h => cases h; exact .inr ⟨rfl, rfl⟩
  · cases h with
    | cons _ t h => cases h; exact .inl ⟨t, rfl, rfl⟩
  · cases h with
    | cons _ t h => cases h with
      | cons _ t' h => cases h; exact .inl ⟨t, rfl, rfl⟩

theorem with_communities {news : Led} (W : AW) (ok : W.Ok) (d : Addr) (oD : Obj) (kvs : List (Str × Value)) (hd : (d, oD) ∈ news) (hD : oD.IsDictOf (PySem.strKind (PySem.Challenge.rw_rh0202_01.row.prog) w) kvs) (lo : (d == sysModules) = false) (D : Desc news kvs W)
    (ln : Addr) (vs : List Value) (kn : Nat) (ns : List Int) (hln : (ln, listOf vs.toArray kn) ∈ news) (hi : IntsAre vs ns) (hns : ns.length ≤ 8) (ks : List Int) (hks : ks.Pairwise (· < ·)) (hmem : ∀ x, x ∈ ks ↔ x ∈ ns) (inv : W.cm = true → W.held ≠ []) :
    Gives w mean mg mb 16 34 news [.ref d, .ref ln] (NewDict PySem.Challenge.rw_rh0202_01.row.prog w news { W with held := ks, cm := W.cm && !ks.isEmpty }) := by
  unfold Gives
  k_fill
  intro dp un gd env outer A₀ base h₀ L m s Q E B F X N T hf hke hdp hu hret
  refine wpAny_call ?_
  k_dflt (first | (refine' enterP ?k1 ?k2 ?k3 ?k4 ?k5 ?kA ?kF ?kK ?k6 ?k7 ?k8 ?k9 ?kB ?_ ?c2 ?c3 ?c4 ?c5; (case kA => exact rfl); (case kF => first | exact rfl | assumption); (case kK => first | exact rfl | assumption); (case k1 => k_asm); (case k2 => k_asm); (case k3 => k_asm); (case k4 => k_asm); (case k5 => k_asm); (case k6 => k_is); (case k7 => k_is); (case k8 => (first | exact room_at (by assumption) | ktr_room)); (case k9 => exact BindsTo.of_eq rfl); (case c5 => decide); (case kB => exact locs rfl); (case c2 => exact rfl); (case c3 => exact rfl); (case c4 => exact rfl); k_whole; intro g' L' h' FG' F' N' B' X' T' kG' l1; (try k_lt l1); (try dsimp only); (try k_lift B'); (try k_fold)) | (refine' enterC ?k1 ?k2 ?k3 ?k4 ?k5 ?kA ?kF ?kK ?k6 ?k7 ?k8 ?k9 ?kB ?kD ?_ ?c2 ?c3 ?c4; (case kA => exact rfl); (case kF => first | exact rfl | assumption); (case kK => first | exact rfl | assumption); (case k1 => k_asm); (case k2 => k_asm); (case k3 => k_asm); (case k4 => k_asm); (case k5 => k_asm); (case k6 => k_is); (case k7 => k_is); (case k8 => (first | exact room_at (by assumption) | ktr_room)); (case k9 => exact BindsTo.of_eq rfl); (case kB => exact rfl); (case kD => decide +kernel); (case c2 => exact rfl); (case c3 => exact rfl); (case c4 => exact rfl); k_whole; intro g' L' h' tk' cells' FG' F' N' Y' B' X' T' kG' l1; (try k_lt l1); k_cells Y'; (try simp only [List.cons_append, List.nil_append] at N'); (try dsimp only); (try k_lift B'); (try k_fold)))
  k_dflt (refine hide (by passes_own) fun Q' E' hQ hpo => ?_)
  rename ∀ p ∈ news, p.1 < _ => hnl
  repeat (first | ((with_reducible show wpAny _ _ (exec (Stmt.Assign [_] (Expr.ListComp ..) ..) _) _ _ _); (refine wpAny_Assign_Name ?_ (by with_unfolding_all rfl))) | ((with_reducible show wpAny _ _ (getMethod (Value.ref _) (Str.ofString "pop") _) _ _ _); (refine kob_method (knd := PySem.strKind _ _) PySem.F.slot_dict_pop PySem.F.type_dict_pop (by k_asm) (by k_mem) (by assumption) ?_)) | (k_unfold; (try dsimp only)) | walk1 | (dsimp only; walk1))
  refine Stop.go ?_
  k_dflt (refine dc_assign (PySem.strKind _ w) (fun v => !Value.isStrOf (Str.ofString "communities") v) (fun v k => (PySem.strKind PySem.Challenge.rw_rh0202_01.row.prog w).is k v = true) (fun v y => ∃ k, (PySem.strKind PySem.Challenge.rw_rh0202_01.row.prog w).is k v = true ∧ valueAt kvs k = some y) (by k_asm) rfl (by with_unfolding_all rfl) rfl (by with_unfolding_all rfl) (by decide) (by rfl) (by decide) (by rfl) (by rfl) (by rfl) ?_ (by intro _; rfl))
  repeat (first | ((with_reducible show wpAny _ _ (exec (Stmt.Assign [_] (Expr.ListComp ..) ..) _) _ _ _); (refine wpAny_Assign_Name ?_ (by with_unfolding_all rfl))) | ((with_reducible show wpAny _ _ (getMethod (Value.ref _) (Str.ofString "pop") _) _ _ _); (refine kob_method (knd := PySem.strKind _ _) PySem.F.slot_dict_pop PySem.F.type_dict_pop (by k_asm) (by k_mem) (by assumption) ?_)) | (k_unfold; (try dsimp only)) | walk1 | (dsimp only; walk1))
  refine Stop.go ?_
  refine ⟨_, _, _, Src.dict (kda_dict (by k_asm) (by k_mem) hD) lo, ?len, by k_asm, by k_asm, ?ht, ?hk, ?hv, ?hq⟩
  case len => exact le_size D.len (by decide)
  case ht =>
    intro C oC i v m₂ s₃ E' hv hC hm up F3 N3
    obtain ⟨k, x, hkx, hkv⟩ := hv
    obtain ⟨t', rfl⟩ := Value.isStrOf_shape hkv
    refine wpAny_tests_one (wpAny_mono (Q := fun ok s₄ => Stop (ok = (!Value.isStrOf (Str.ofString "communities") (.str k t')) ∧ Keeps s₃ s₄)) ?_ (fun _ _ h => h) (fun _ _ e => e))
    repeat (first | ((with_reducible show wpAny _ _ (exec (Stmt.Assign [_] (Expr.ListComp ..) ..) _) _ _ _); (refine wpAny_Assign_Name ?_ (by with_unfolding_all rfl))) | ((with_reducible show wpAny _ _ (getMethod (Value.ref _) (Str.ofString "pop") _) _ _ _); (refine kob_method (knd := PySem.strKind _ _) PySem.F.slot_dict_pop PySem.F.type_dict_pop (by k_asm) (by k_mem) (by assumption) ?_)) | (k_unfold; (try dsimp only)) | walk1 | (dsimp only; walk1))
    refine Stop.go ⟨?_, keeps_toks⟩
    show (!(k == Str.ofString "communities")) = !(k == Str.ofString "communities")
    rfl
  case hk =>
    intro C oC i v m₂ s₃ E' hv _ hC hm up F3 N3
    obtain ⟨k, x, hkx, hkv⟩ := hv
    obtain ⟨t', rfl⟩ := Value.isStrOf_shape hkv
    refine wpAny_mono (Q := fun y s₄ => Stop ((∃ k', (PySem.strKind PySem.Challenge.rw_rh0202_01.row.prog w).is k' y = true ∧ (PySem.strKind PySem.Challenge.rw_rh0202_01.row.prog w).is k' (.str k t') = true) ∧ Keeps s₃ s₄)) ?_ (fun _ _ h => h) (fun _ _ e => e)
    repeat (first | ((with_reducible show wpAny _ _ (exec (Stmt.Assign [_] (Expr.ListComp ..) ..) _) _ _ _); (refine wpAny_Assign_Name ?_ (by with_unfolding_all rfl))) | ((with_reducible show wpAny _ _ (getMethod (Value.ref _) (Str.ofString "pop") _) _ _ _); (refine kob_method (knd := PySem.strKind _ _) PySem.F.slot_dict_pop PySem.F.type_dict_pop (by k_asm) (by k_mem) (by assumption) ?_)) | (k_unfold; (try dsimp only)) | walk1 | (dsimp only; walk1))
    exact Stop.go ⟨⟨k, strKind_is _ _ _ _, strKind_is _ _ _ _⟩, keeps_self⟩
  case hv =>
    intro C oC i v m₂ s₃ E' hv _ hC hm up F3 N3
    obtain ⟨k, x, hkx, hkv⟩ := hv
    obtain ⟨t', rfl⟩ := Value.isStrOf_shape hkv
    refine wpAny_mono (Q := fun y s₄ => Stop ((∃ k', (PySem.strKind PySem.Challenge.rw_rh0202_01.row.prog w).is k' (.str k t') = true ∧ valueAt kvs k' = some y) ∧ Keeps s₃ s₄)) ?_ (fun _ _ h => h) (fun _ _ e => e)
    repeat (first | ((with_reducible show wpAny _ _ (exec (Stmt.Assign [_] (Expr.ListComp ..) ..) _) _ _ _); (refine wpAny_Assign_Name ?_ (by with_unfolding_all rfl))) | ((with_reducible show wpAny _ _ (getMethod (Value.ref _) (Str.ofString "pop") _) _ _ _); (refine kob_method (knd := PySem.strKind _ _) PySem.F.slot_dict_pop PySem.F.type_dict_pop (by k_asm) (by k_mem) (by assumption) ?_)) | (k_unfold; (try dsimp only)) | walk1 | (dsimp only; walk1))
    refine Stop.go ?_
    k_dflt (refine kda_item (knd := PySem.strKind _ _) (by k_asm) (by k_mem) hD (strKind_is _ _ _ _) (valueAt_of_get D.nd hkx) ?_)
    exact Stop.go ⟨⟨k, strKind_is _ _ _ _, valueAt_of_get D.nd hkx⟩, keeps_toks⟩
  case hq =>
    intro D1 o1 kvs1 us h9 tk9 hlen hus hst up F9 N9 lt9 mod9 hd9
    have hcop := copied_of (q := fun k => !decide (k = Str.ofString "communities")) hst hlen hus (fun k v hk => by obtain ⟨t', rfl⟩ := Value.isStrOf_shape hk; rfl)
    have lt9' := lt9
    k_lt lt9
    dsimp only [envOfC] at F9 N9
    repeat (first | ((with_reducible show wpAny _ _ (exec (Stmt.Assign [_] (Expr.ListComp ..) ..) _) _ _ _); (refine wpAny_Assign_Name ?_ (by with_unfolding_all rfl))) | ((with_reducible show wpAny _ _ (getMethod (Value.ref _) (Str.ofString "pop") _) _ _ _); (refine kob_method (knd := PySem.strKind _ _) PySem.F.slot_dict_pop PySem.F.type_dict_pop (by k_asm) (by k_mem) (by assumption) ?_)) | (k_unfold; (try dsimp only)) | walk1 | (dsimp only; walk1))
    refine Stop.go ?_
    k_dflt (refine kso_sorted (by k_asm) (by k_asm) (News.isList (by k_asm) (by k_mem)) hi (Nat.lt_of_le_of_lt (by assumption) (by decide : 8 < _)) ?_)
    intro Dk vs1 ns1 ck hk9 Fk Nk ltk hi1 hlen1 hperm1 hsort1 _
    have ltk' := ltk
    k_lt ltk
    repeat (first | ((with_reducible show wpAny _ _ (exec (Stmt.Assign [_] (Expr.ListComp ..) ..) _) _ _ _); (refine wpAny_Assign_Name ?_ (by with_unfolding_all rfl))) | ((with_reducible show wpAny _ _ (getMethod (Value.ref _) (Str.ofString "pop") _) _ _ _); (refine kob_method (knd := PySem.strKind _ _) PySem.F.slot_dict_pop PySem.F.type_dict_pop (by k_asm) (by k_mem) (by assumption) ?_)) | (k_unfold; (try dsimp only)) | walk1 | (dsimp only; walk1))
    refine Stop.go ?_
    k_dflt (refine storeX_C (by k_asm) (by k_asm) rfl (.tail (Nat.ne_of_gt ltk.2.1) (.tail (Nat.ne_of_gt lt9.1) (.head fun p hp => ?off))) (by assumption) ?_ rfl rfl)
    case off =>
      rcases List.mem_cons.mp hp with rfl | hp
      · exact Nat.ne_of_lt (Nat.lt_succ_self _)
      · exact Nat.ne_of_lt (Nat.lt_succ_of_lt (Nat.lt_succ_of_lt (hnl p hp)))
    intro h8 oc8 F8 N8 hoc8

    repeat (first | ((with_reducible show wpAny _ _ (exec (Stmt.Assign [_] (Expr.ListComp ..) ..) _) _ _ _); (refine wpAny_Assign_Name ?_ (by with_unfolding_all rfl))) | ((with_reducible show wpAny _ _ (getMethod (Value.ref _) (Str.ofString "pop") _) _ _ _); (refine kob_method (knd := PySem.strKind _ _) PySem.F.slot_dict_pop PySem.F.type_dict_pop (by k_asm) (by k_mem) (by assumption) ?_)) | (k_unfold; (try dsimp only)) | walk1 | (dsimp only; walk1))
    refine Stop.go ?_
    k_dflt (refine enum_eval (pd ns1) (by k_asm) rfl (by with_unfolding_all rfl) (by decide) (by rfl) (by decide) (by rfl) (by rfl) (by decide) (by decide) ?_ (by intro _; rfl))
    repeat (first | ((with_reducible show wpAny _ _ (exec (Stmt.Assign [_] (Expr.ListComp ..) ..) _) _ _ _); (refine wpAny_Assign_Name ?_ (by with_unfolding_all rfl))) | ((with_reducible show wpAny _ _ (getMethod (Value.ref _) (Str.ofString "pop") _) _ _ _); (refine kob_method (knd := PySem.strKind _ _) PySem.F.slot_dict_pop PySem.F.type_dict_pop (by k_asm) (by k_mem) (by assumption) ?_)) | (k_unfold; (try dsimp only)) | walk1 | (dsimp only; walk1))
    refine Stop.go ?_
    k_dflt (refine enum_src (by k_asm) (by k_asm) (List.mem_cons_self ..) ?_)
    intro e8 it8 h7 hei hle hli hen hit hlis F7 N7 off7 hLw hw0
    refine ⟨e8, it8, Dk, vs1, _, rfl, hei, hle, hli, le_size (Nat.le_trans (Nat.le_of_eq (hi1.length.trans hlen1)) (by assumption)) (by decide : 8 ≤ _), hen, hit, hlis, F7, N7, off7, hLw, hw0, ?test, ?fin⟩
    case test =>
      intro C oC i v t m₂ s₃ E' hv hC hma hmb F3 N3
      obtain ⟨n, t', rfl, hn⟩ := IntsAre.at hi1 i v hv
      refine wpAny_mono (Q := fun ok s₄ => Stop (ok = pd ns1 i (.int n t') ∧ Keeps s₃ s₄)) ?_ (fun _ _ h => h) (fun _ _ e => e)
      repeat (first | ((with_reducible show wpAny _ _ (exec (Stmt.Assign [_] (Expr.ListComp ..) ..) _) _ _ _); (refine wpAny_Assign_Name ?_ (by with_unfolding_all rfl))) | ((with_reducible show wpAny _ _ (getMethod (Value.ref _) (Str.ofString "pop") _) _ _ _); (refine kob_method (knd := PySem.strKind _ _) PySem.F.slot_dict_pop PySem.F.type_dict_pop (by k_asm) (by k_mem) (by assumption) ?_)) | (k_unfold; (try dsimp only)) | walk1 | (dsimp only; walk1))
      · refine Stop.go ⟨?_, keeps_toks⟩
        rename (i : Int) = 0 => hi0
        show true = (decide (i = 0) || !decide (n = ns1.getD (i - 1) 0))
        rw [decide_eq_true (p := i = 0) (Int.ofNat.inj hi0)]; rfl
      · refine isTrue_or ?_
        rename (i : Int) ≠ 0 => hi0
        have hil : i < vs1.length := (List.getElem?_eq_some_iff.mp hv).1
        have hll : ns1.length = vs1.length := hi1.length.symm
        have hlo : (0 : Int) ≤ (i : Int) - 1 := Int.sub_nonneg.mpr (Int.ofNat_le.mpr (Nat.pos_of_ne_zero fun e => hi0 (by rw [e]; rfl)))
        have hhi : (i : Int) - 1 < (ns1.length : Int) := Int.lt_of_le_of_lt (Int.sub_le_self _ (by decide)) (Int.ofNat_lt.mpr (Nat.lt_of_lt_of_le hil (Nat.le_of_eq hll.symm)))
        repeat (first | ((with_reducible show wpAny _ _ (exec (Stmt.Assign [_] (Expr.ListComp ..) ..) _) _ _ _); (refine wpAny_Assign_Name ?_ (by with_unfolding_all rfl))) | ((with_reducible show wpAny _ _ (getMethod (Value.ref _) (Str.ofString "pop") _) _ _ _); (refine kob_method (knd := PySem.strKind _ _) PySem.F.slot_dict_pop PySem.F.type_dict_pop (by k_asm) (by k_mem) (by assumption) ?_)) | (k_unfold; (try dsimp only)) | walk1 | (dsimp only; walk1))
        · rename n ≠ _ => hna
          refine Stop.go ⟨?_, keeps_heap (fun _ _ e => e)⟩
          have e : ((i : Int) - 1).toNat = i - 1 := Int.toNat_sub i 1
          rw [e] at hna
          show true = (decide (i = 0) || !decide (n = ns1.getD (i - 1) 0))
          rw [decide_eq_false (p := n = ns1.getD (i - 1) 0) hna]; simp
        · rename n = _ => hna
          refine isTrue_or_nil ?_
          refine Stop.go ⟨?_, keeps_heap (fun _ _ e => e)⟩
          have e : ((i : Int) - 1).toNat = i - 1 := Int.toNat_sub i 1
          rw [e] at hna
          show false = (decide (i = 0) || !decide (n = ns1.getD (i - 1) 0))
          rw [decide_eq_true (p := n = ns1.getD (i - 1) 0) hna, decide_eq_false (p := i = 0) (fun e => hi0 (by rw [e]; rfl))]; rfl
    case fin =>
      intro D5 h6 tk6 F6 N6 lt6
      obtain ⟨kk, hik, hrise, hmemk⟩ := filt_all hi1 hsort1
      have hkk : kk = ks := rise_unique kk ks hrise hks fun x => by rw [hmemk, hmem]; exact hperm1.mem_iff
      subst hkk
      generalize filtI (pd ns1) 0 vs1 = ys at hik N6
      have lt6' := lt6
      k_lt lt6
      repeat (first | ((with_reducible show wpAny _ _ (exec (Stmt.Assign [_] (Expr.ListComp ..) ..) _) _ _ _); (refine wpAny_Assign_Name ?_ (by with_unfolding_all rfl))) | ((with_reducible show wpAny _ _ (getMethod (Value.ref _) (Str.ofString "pop") _) _ _ _); (refine kob_method (knd := PySem.strKind _ _) PySem.F.slot_dict_pop PySem.F.type_dict_pop (by k_asm) (by k_mem) (by assumption) ?_)) | (k_unfold; (try dsimp only)) | walk1 | (dsimp only; walk1))
      refine Stop.go ?_
      k_dflt (refine storeX_C (by k_asm) (by k_asm) rfl (.tail (Nat.ne_of_gt lt6.2.2.1) (.tail (Nat.ne_of_gt ltk.2.1) (.tail (Nat.ne_of_gt lt9.1) (.head fun p hp => ?off)))) (by assumption) ?_ rfl rfl)
      case off =>
        rcases List.mem_cons.mp hp with rfl | hp
        · exact Nat.ne_of_lt (Nat.lt_succ_self _)
        · exact Nat.ne_of_lt (Nat.lt_succ_of_lt (Nat.lt_succ_of_lt (hnl p hp)))
      intro ha oca Fa Na hoca
      repeat (first | ((with_reducible show wpAny _ _ (exec (Stmt.Assign [_] (Expr.ListComp ..) ..) _) _ _ _); (refine wpAny_Assign_Name ?_ (by with_unfolding_all rfl))) | ((with_reducible show wpAny _ _ (getMethod (Value.ref _) (Str.ofString "pop") _) _ _ _); (refine kob_method (knd := PySem.strKind _ _) PySem.F.slot_dict_pop PySem.F.type_dict_pop (by k_asm) (by k_mem) (by assumption) ?_)) | (k_unfold; (try dsimp only)) | walk1 | (dsimp only; walk1))
      refine Stop.go ?_
      rename News _ _ _ _ => Nb
      k_dflt (refine ke_ne_ints (News.isList Nb (List.mem_cons_of_mem _ (List.mem_cons_self ..))) (News.isList Nb (List.mem_cons_self ..)) hik IntsAre.nil (units_ne hu (Nat.le_of_ble_eq_true rfl)) ?_)
      have hkl : kk.length ≤ 8 := Nat.le_trans (nodup_le kk ns (hrise.imp fun h => Int.ne_of_lt h) fun x hx => (hmem x).mp hx) hns
      have hm9 := mod9 (Top.nolimit (by assumption))
      by_cases hk0 : kk = []
      · rw [decide_eq_true hk0]
        dsimp only [Bool.not_true]
        repeat (first | ((with_reducible show wpAny _ _ (exec (Stmt.Assign [_] (Expr.ListComp ..) ..) _) _ _ _); (refine wpAny_Assign_Name ?_ (by with_unfolding_all rfl))) | ((with_reducible show wpAny _ _ (getMethod (Value.ref _) (Str.ofString "pop") _) _ _ _); (refine kob_method (knd := PySem.strKind _ _) PySem.F.slot_dict_pop PySem.F.type_dict_pop (by k_asm) (by k_mem) (by assumption) ?_)) | (k_unfold; (try dsimp only)) | walk1 | (dsimp only; walk1))
        refine Stop.go ?_
        k_dflt (refine lc_quiet (by k_asm) (fun v => !Value.isStrOf (Str.ofString "communities") v) (fun v y => y = v) rfl (by with_unfolding_all rfl) (by decide) (by rfl) (by decide) (by rfl) ?_ (by intro _; rfl))
        repeat (first | ((with_reducible show wpAny _ _ (exec (Stmt.Assign [_] (Expr.ListComp ..) ..) _) _ _ _); (refine wpAny_Assign_Name ?_ (by with_unfolding_all rfl))) | ((with_reducible show wpAny _ _ (getMethod (Value.ref _) (Str.ofString "pop") _) _ _ _); (refine kob_method (knd := PySem.strKind _ _) PySem.F.slot_dict_pop PySem.F.type_dict_pop (by k_asm) (by k_mem) (by assumption) ?_)) | (k_unfold; (try dsimp only)) | walk1 | (dsimp only; walk1))
        refine Stop.go ?_
        subst hk0
        k_dflt (refine pop_partial (W := W) (news₀ := news) (by k_asm) (by k_asm) (.tail (by first | exact pick1 (by assumption) | exact pick2 (by assumption) | exact pick3 (by assumption) | exact pick4 (by assumption) | exact pick5 (by assumption) | exact pick6 (by assumption) | exact pick7 (by assumption) | exact pick8 (by assumption) | k_ne) (.tail (by first | exact pick1 (by assumption) | exact pick2 (by assumption) | exact pick3 (by assumption) | exact pick4 (by assumption) | exact pick5 (by assumption) | exact pick6 (by assumption) | exact pick7 (by assumption) | exact pick8 (by assumption) | k_ne) (.tail (by first | exact pick1 (by assumption) | exact pick2 (by assumption) | exact pick3 (by assumption) | exact pick4 (by assumption) | exact pick5 (by assumption) | exact pick6 (by assumption) | exact pick7 (by assumption) | exact pick8 (by assumption) | k_ne) (.tail (by first | exact pick1 (by assumption) | exact pick2 (by assumption) | exact pick3 (by assumption) | exact pick4 (by assumption) | exact pick5 (by assumption) | exact pick6 (by assumption) | exact pick7 (by assumption) | exact pick8 (by assumption) | k_ne) (.head fun p hp => Nat.ne_of_lt (all_swap lt9' p hp)))))) hd9 hm9 ?len3 ?hv (fun p hp => by k_mem) (List.mem_cons_self ..) ?_)
        case len3 =>
          exact le_size (Nat.le_trans hst.length_le (Nat.le_trans (List.length_filter_le _ _) (Nat.le_trans (Nat.le_of_eq hlen) D.len))) (by decide)
        case hv => rw [hcop]; exact D.at_ (Str.ofString "partial")
        intro hp op tkp kvs2 pa vsP Fp Np hdp hkp hmp hsp hlp
        have hmark := marks_len W
        have hlenP := strs_len hsp
        repeat (first | ((with_reducible show wpAny _ _ (exec (Stmt.Assign [_] (Expr.ListComp ..) ..) _) _ _ _); (refine wpAny_Assign_Name ?_ (by with_unfolding_all rfl))) | ((with_reducible show wpAny _ _ (getMethod (Value.ref _) (Str.ofString "pop") _) _ _ _); (refine kob_method (knd := PySem.strKind _ _) PySem.F.slot_dict_pop PySem.F.type_dict_pop (by k_asm) (by k_mem) (by assumption) ?_)) | (k_unfold; (try dsimp only)) | walk1 | (dsimp only; walk1))
        refine Stop.go ?_
        rename News _ _ _ _ => Np
        refine ⟨_, _, _, Src.tuple ⟨_, (Np _ hmp).1, rfl, _, rfl⟩, le_size (Nat.le_trans (Nat.le_of_eq hlenP) hmark) (by decide), by k_asm, by k_asm, ?ht, ?he, ?hq⟩
        case ht =>
          intro C oC i v m₂ s₃ E' hv hC hm up F3 N3
          obtain ⟨k, t', rfl⟩ := strs_at hsp i v (by simpa using hv)
          refine wpAny_tests_one (wpAny_mono (Q := fun ok s₄ => Stop (ok = (!Value.isStrOf (Str.ofString "communities") (.str k t')) ∧ Keeps s₃ s₄)) ?_ (fun _ _ h => h) (fun _ _ e => e))
          repeat (first | ((with_reducible show wpAny _ _ (exec (Stmt.Assign [_] (Expr.ListComp ..) ..) _) _ _ _); (refine wpAny_Assign_Name ?_ (by with_unfolding_all rfl))) | ((with_reducible show wpAny _ _ (getMethod (Value.ref _) (Str.ofString "pop") _) _ _ _); (refine kob_method (knd := PySem.strKind _ _) PySem.F.slot_dict_pop PySem.F.type_dict_pop (by k_asm) (by k_mem) (by assumption) ?_)) | (k_unfold; (try dsimp only)) | walk1 | (dsimp only; walk1))
          refine Stop.go ⟨?_, keeps_toks⟩
          show (!(k == Str.ofString "communities")) = !(k == Str.ofString "communities")
          rfl
        case he =>
          intro C oC i v m₂ s₃ E' hv _ hC hm up F3 N3
          obtain ⟨k, t', rfl⟩ := strs_at hsp i v (by simpa using hv)
          refine wpAny_mono (Q := fun (y : Value) s₄ => Stop (y = Value.str k t' ∧ Keeps s₃ s₄)) ?_ (fun _ _ h => h) (fun _ _ e => e)
          repeat (first | ((with_reducible show wpAny _ _ (exec (Stmt.Assign [_] (Expr.ListComp ..) ..) _) _ _ _); (refine wpAny_Assign_Name ?_ (by with_unfolding_all rfl))) | ((with_reducible show wpAny _ _ (getMethod (Value.ref _) (Str.ofString "pop") _) _ _ _); (refine kob_method (knd := PySem.strKind _ _) PySem.F.slot_dict_pop PySem.F.type_dict_pop (by k_asm) (by k_mem) (by assumption) ?_)) | (k_unfold; (try dsimp only)) | walk1 | (dsimp only; walk1))
          exact Stop.go ⟨rfl, keeps_self⟩
        case hq =>
          intro D6 k6 ys6 us6 h6b tk6b hlen6 hus6 hP6 up6 F6b N6b ne6
          have e6 : us6 = vsP := same_list hlen6 hus6
          subst e6
          have e7 := paired_eq hP6
          rcases filt_marks hsp with ⟨tg, hg1, hg2⟩ | ⟨hg1, hg2⟩
          · rw [hg2] at e7
            subst e7
            repeat (first | ((with_reducible show wpAny _ _ (exec (Stmt.Assign [_] (Expr.ListComp ..) ..) _) _ _ _); (refine wpAny_Assign_Name ?_ (by with_unfolding_all rfl))) | ((with_reducible show wpAny _ _ (getMethod (Value.ref _) (Str.ofString "pop") _) _ _ _); (refine kob_method (knd := PySem.strKind _ _) PySem.F.slot_dict_pop PySem.F.type_dict_pop (by k_asm) (by k_mem) (by assumption) ?_)) | (k_unfold; (try dsimp only)) | walk1 | (dsimp only; walk1))
            refine Stop.go ?_
            k_dflt (refine kde_tupleOf (by k_asm) (by k_asm) (News.isList (by k_asm) (by k_mem)) (Nat.le_of_ble_eq_true rfl) rfl ?_)
            intro T hT FT NT ltT
            have ltT' := ltT
            k_lt ltT
            repeat (first | ((with_reducible show wpAny _ _ (exec (Stmt.Assign [_] (Expr.ListComp ..) ..) _) _ _ _); (refine wpAny_Assign_Name ?_ (by with_unfolding_all rfl))) | ((with_reducible show wpAny _ _ (getMethod (Value.ref _) (Str.ofString "pop") _) _ _ _); (refine kob_method (knd := PySem.strKind _ _) PySem.F.slot_dict_pop PySem.F.type_dict_pop (by k_asm) (by k_mem) (by assumption) ?_)) | (k_unfold; (try dsimp only)) | walk1 | (dsimp only; walk1))
            refine Stop.go ?_
            k_dflt (refine ne_dataH (by ke_read) (by ke_read) (by ke_shaped) (by ke_shaped) (units_ne hu (Nat.le_of_ble_eq_true rfl)) ?_)
            ke_norm
            repeat (first | ((with_reducible show wpAny _ _ (exec (Stmt.Assign [_] (Expr.ListComp ..) ..) _) _ _ _); (refine wpAny_Assign_Name ?_ (by with_unfolding_all rfl))) | ((with_reducible show wpAny _ _ (getMethod (Value.ref _) (Str.ofString "pop") _) _ _ _); (refine kob_method (knd := PySem.strKind _ _) PySem.F.slot_dict_pop PySem.F.type_dict_pop (by k_asm) (by k_mem) (by assumption) ?_)) | (k_unfold; (try dsimp only)) | walk1 | (dsimp only; walk1))
            refine Stop.go ?_
            k_dflt (refine kda_set (knd := PySem.strKind _ _) (by k_asm) (by k_asm) (.tail (by first | exact pick1 (by assumption) | exact pick2 (by assumption) | exact pick3 (by assumption) | exact pick4 (by assumption) | exact pick5 (by assumption) | exact pick6 (by assumption) | exact pick7 (by assumption) | exact pick8 (by assumption) | k_ne) (.tail (by first | exact pick1 (by assumption) | exact pick2 (by assumption) | exact pick3 (by assumption) | exact pick4 (by assumption) | exact pick5 (by assumption) | exact pick6 (by assumption) | exact pick7 (by assumption) | exact pick8 (by assumption) | k_ne) (.tail (Ne.symm (ne6 (D1, op) (by repeat (first | exact List.mem_cons_self .. | apply List.mem_cons_of_mem)))) (.tail (by first | exact pick1 (by assumption) | exact pick2 (by assumption) | exact pick3 (by assumption) | exact pick4 (by assumption) | exact pick5 (by assumption) | exact pick6 (by assumption) | exact pick7 (by assumption) | exact pick8 (by assumption) | k_ne) (.tail (by first | exact pick1 (by assumption) | exact pick2 (by assumption) | exact pick3 (by assumption) | exact pick4 (by assumption) | exact pick5 (by assumption) | exact pick6 (by assumption) | exact pick7 (by assumption) | exact pick8 (by assumption) | k_ne) (.tail (by first | exact pick1 (by assumption) | exact pick2 (by assumption) | exact pick3 (by assumption) | exact pick4 (by assumption) | exact pick5 (by assumption) | exact pick6 (by assumption) | exact pick7 (by assumption) | exact pick8 (by assumption) | k_ne) (.tail (by first | exact pick1 (by assumption) | exact pick2 (by assumption) | exact pick3 (by assumption) | exact pick4 (by assumption) | exact pick5 (by assumption) | exact pick6 (by assumption) | exact pick7 (by assumption) | exact pick8 (by assumption) | k_ne) (.head fun p hp => Nat.ne_of_lt (all_swap lt9' p hp))))))))) hdp (strKind_is _ _ _ _) ?len2 ?_)
            case len2 =>
              exact le_size (Nat.le_trans hlp (Nat.le_trans hst.length_le (Nat.le_trans (List.length_filter_le _ _) (Nat.le_trans (Nat.le_of_eq hlen) D.len)))) (by decide)
            intro hz oz Fz Nz hdz
            repeat (first | ((with_reducible show wpAny _ _ (exec (Stmt.Assign [_] (Expr.ListComp ..) ..) _) _ _ _); (refine wpAny_Assign_Name ?_ (by with_unfolding_all rfl))) | ((with_reducible show wpAny _ _ (getMethod (Value.ref _) (Str.ofString "pop") _) _ _ _); (refine kob_method (knd := PySem.strKind _ _) PySem.F.slot_dict_pop PySem.F.type_dict_pop (by k_asm) (by k_mem) (by assumption) ?_)) | (k_unfold; (try dsimp only)) | walk1 | (dsimp only; walk1))
            refine hQ _ _ ?_
            repeat (first | ((with_reducible show wpAny _ _ (exec (Stmt.Assign [_] (Expr.ListComp ..) ..) _) _ _ _); (refine wpAny_Assign_Name ?_ (by with_unfolding_all rfl))) | ((with_reducible show wpAny _ _ (getMethod (Value.ref _) (Str.ofString "pop") _) _ _ _); (refine kob_method (knd := PySem.strKind _ _) PySem.F.slot_dict_pop PySem.F.type_dict_pop (by k_asm) (by k_mem) (by assumption) ?_)) | (k_unfold; (try dsimp only)) | walk1 | (dsimp only; walk1))
            refine give hret N (by assumption) (by assumption) (by assumption) (by assumption) (by assumption) [(D1, oz), (T, { cls := .type "tuple", data := .seq #[Value.str (Str.ofString "aggregator") tg] })] (fun p hp => ?_) (fun p hp q hq => ?_) ⟨List.mem_cons_self .., hdz, hm9, ?de⟩
            · rcases List.mem_append.mp hp with hp | hp
              · rcases List.mem_cons.mp hp with rfl | hp
                · repeat (first | exact List.mem_cons_self .. | apply List.mem_cons_of_mem)
                · rw [List.mem_singleton.mp hp]; repeat (first | exact List.mem_cons_self .. | apply List.mem_cons_of_mem)
              · repeat (first | exact hp | apply List.mem_cons_of_mem)
            · rcases List.mem_cons.mp hp with rfl | hp
              · exact lt9' q (by repeat (first | exact hq | apply List.mem_cons_of_mem))
              · rw [List.mem_singleton.mp hp]; exact ltT' q (by repeat (first | exact hq | apply List.mem_cons_of_mem))
            case de =>
              refine Desc.no_held (kvs1 := kvs1) (pv := some (.ref T)) D (fun p hp => List.mem_append_right _ hp) hcop (dict_nd hdz) (fun k => ?_) ?_
              · rw [valueAt_stored, hkp]
                split
                · rfl
                · rfl
              · rw [hg1]
                exact ⟨_, rfl, T, [Value.str (Str.ofString "aggregator") tg], rfl, List.mem_append_left _ (List.mem_cons_of_mem _ (List.mem_cons_self ..)), .cons _ _ .nil⟩
          · rw [hg2] at e7
            subst e7
            repeat (first | ((with_reducible show wpAny _ _ (exec (Stmt.Assign [_] (Expr.ListComp ..) ..) _) _ _ _); (refine wpAny_Assign_Name ?_ (by with_unfolding_all rfl))) | ((with_reducible show wpAny _ _ (getMethod (Value.ref _) (Str.ofString "pop") _) _ _ _); (refine kob_method (knd := PySem.strKind _ _) PySem.F.slot_dict_pop PySem.F.type_dict_pop (by k_asm) (by k_mem) (by assumption) ?_)) | (k_unfold; (try dsimp only)) | walk1 | (dsimp only; walk1))
            refine Stop.go ?_
            k_dflt (refine kde_tupleOf (by k_asm) (by k_asm) (News.isList (by k_asm) (by k_mem)) (Nat.le_of_ble_eq_true rfl) rfl ?_)
            intro T hT FT NT ltT
            have ltT' := ltT
            k_lt ltT
            repeat (first | ((with_reducible show wpAny _ _ (exec (Stmt.Assign [_] (Expr.ListComp ..) ..) _) _ _ _); (refine wpAny_Assign_Name ?_ (by with_unfolding_all rfl))) | ((with_reducible show wpAny _ _ (getMethod (Value.ref _) (Str.ofString "pop") _) _ _ _); (refine kob_method (knd := PySem.strKind _ _) PySem.F.slot_dict_pop PySem.F.type_dict_pop (by k_asm) (by k_mem) (by assumption) ?_)) | (k_unfold; (try dsimp only)) | walk1 | (dsimp only; walk1))
            refine Stop.go ?_
            k_dflt (refine ne_dataH (by ke_read) (by ke_read) (by ke_shaped) (by ke_shaped) (units_ne hu (Nat.le_of_ble_eq_true rfl)) ?_)
            ke_norm
            repeat (first | ((with_reducible show wpAny _ _ (exec (Stmt.Assign [_] (Expr.ListComp ..) ..) _) _ _ _); (refine wpAny_Assign_Name ?_ (by with_unfolding_all rfl))) | ((with_reducible show wpAny _ _ (getMethod (Value.ref _) (Str.ofString "pop") _) _ _ _); (refine kob_method (knd := PySem.strKind _ _) PySem.F.slot_dict_pop PySem.F.type_dict_pop (by k_asm) (by k_mem) (by assumption) ?_)) | (k_unfold; (try dsimp only)) | walk1 | (dsimp only; walk1))
            refine hQ _ _ ?_
            repeat (first | ((with_reducible show wpAny _ _ (exec (Stmt.Assign [_] (Expr.ListComp ..) ..) _) _ _ _); (refine wpAny_Assign_Name ?_ (by with_unfolding_all rfl))) | ((with_reducible show wpAny _ _ (getMethod (Value.ref _) (Str.ofString "pop") _) _ _ _); (refine kob_method (knd := PySem.strKind _ _) PySem.F.slot_dict_pop PySem.F.type_dict_pop (by k_asm) (by k_mem) (by assumption) ?_)) | (k_unfold; (try dsimp only)) | walk1 | (dsimp only; walk1))
            refine give hret N (by assumption) (by assumption) (by assumption) (by assumption) (by assumption) [(D1, op)] (fun p hp => ?_) (fun p hp q hq => ?_) ⟨List.mem_cons_self .., hdp, hm9, ?de⟩
            · rcases List.mem_append.mp hp with hp | hp
              · rw [List.mem_singleton.mp hp]; repeat (first | exact List.mem_cons_self .. | apply List.mem_cons_of_mem)
              · repeat (first | exact hp | apply List.mem_cons_of_mem)
            · rw [List.mem_singleton.mp hp]
              exact lt9' q (by repeat (first | exact hq | apply List.mem_cons_of_mem))
            case de =>
              refine Desc.no_held (kvs1 := kvs1) (pv := none) D (fun p hp => List.mem_append_right _ hp) hcop (dict_nd hdp) hkp ?_
              rw [hg1]
              exact rfl
      · rw [decide_eq_false hk0]
        dsimp only [Bool.not_false]
        repeat (first | ((with_reducible show wpAny _ _ (exec (Stmt.Assign [_] (Expr.ListComp ..) ..) _) _ _ _); (refine wpAny_Assign_Name ?_ (by with_unfolding_all rfl))) | ((with_reducible show wpAny _ _ (getMethod (Value.ref _) (Str.ofString "pop") _) _ _ _); (refine kob_method (knd := PySem.strKind _ _) PySem.F.slot_dict_pop PySem.F.type_dict_pop (by k_asm) (by k_mem) (by assumption) ?_)) | (k_unfold; (try dsimp only)) | walk1 | (dsimp only; walk1))
        refine Stop.go ?_
        k_dflt (refine kde_tupleOf (by k_asm) (by k_asm) (News.isList (by k_asm) (by k_mem)) ?sz rfl ?_)
        case sz => exact Nat.le_trans (Nat.le_of_eq hik.length) (Nat.le_trans (by assumption) (by decide : 8 ≤ _))
        intro T hT FT NT ltT
        have ltT' := ltT
        k_lt ltT
        repeat (first | ((with_reducible show wpAny _ _ (exec (Stmt.Assign [_] (Expr.ListComp ..) ..) _) _ _ _); (refine wpAny_Assign_Name ?_ (by with_unfolding_all rfl))) | ((with_reducible show wpAny _ _ (getMethod (Value.ref _) (Str.ofString "pop") _) _ _ _); (refine kob_method (knd := PySem.strKind _ _) PySem.F.slot_dict_pop PySem.F.type_dict_pop (by k_asm) (by k_mem) (by assumption) ?_)) | (k_unfold; (try dsimp only)) | walk1 | (dsimp only; walk1))
        refine Stop.go ?_
        k_dflt (refine kda_set (knd := PySem.strKind _ _) (by k_asm) (by k_asm) (.tail (by first | exact pick1 (by assumption) | exact pick2 (by assumption) | exact pick3 (by assumption) | exact pick4 (by assumption) | exact pick5 (by assumption) | exact pick6 (by assumption) | exact pick7 (by assumption) | exact pick8 (by assumption) | k_ne) (.tail (by first | exact pick1 (by assumption) | exact pick2 (by assumption) | exact pick3 (by assumption) | exact pick4 (by assumption) | exact pick5 (by assumption) | exact pick6 (by assumption) | exact pick7 (by assumption) | exact pick8 (by assumption) | k_ne) (.tail (by first | exact pick1 (by assumption) | exact pick2 (by assumption) | exact pick3 (by assumption) | exact pick4 (by assumption) | exact pick5 (by assumption) | exact pick6 (by assumption) | exact pick7 (by assumption) | exact pick8 (by assumption) | k_ne) (.tail (by first | exact pick1 (by assumption) | exact pick2 (by assumption) | exact pick3 (by assumption) | exact pick4 (by assumption) | exact pick5 (by assumption) | exact pick6 (by assumption) | exact pick7 (by assumption) | exact pick8 (by assumption) | k_ne) (.head fun p hp => Nat.ne_of_lt (all_swap lt9' p hp)))))) hd9 (strKind_is _ _ _ _) ?len2 ?_)
        case len2 =>
          exact le_size (Nat.le_trans hst.length_le (Nat.le_trans (List.length_filter_le _ _) (Nat.le_trans (Nat.le_of_eq hlen) D.len))) (by decide)
        intro hz oz Fz Nz hdz
        repeat (first | ((with_reducible show wpAny _ _ (exec (Stmt.Assign [_] (Expr.ListComp ..) ..) _) _ _ _); (refine wpAny_Assign_Name ?_ (by with_unfolding_all rfl))) | ((with_reducible show wpAny _ _ (getMethod (Value.ref _) (Str.ofString "pop") _) _ _ _); (refine kob_method (knd := PySem.strKind _ _) PySem.F.slot_dict_pop PySem.F.type_dict_pop (by k_asm) (by k_mem) (by assumption) ?_)) | (k_unfold; (try dsimp only)) | walk1 | (dsimp only; walk1))
        refine hQ _ _ ?_
        repeat (first | ((with_reducible show wpAny _ _ (exec (Stmt.Assign [_] (Expr.ListComp ..) ..) _) _ _ _); (refine wpAny_Assign_Name ?_ (by with_unfolding_all rfl))) | ((with_reducible show wpAny _ _ (getMethod (Value.ref _) (Str.ofString "pop") _) _ _ _); (refine kob_method (knd := PySem.strKind _ _) PySem.F.slot_dict_pop PySem.F.type_dict_pop (by k_asm) (by k_mem) (by assumption) ?_)) | (k_unfold; (try dsimp only)) | walk1 | (dsimp only; walk1))
        refine give hret N (by assumption) (by assumption) (by assumption) (by assumption) (by assumption) [(D1, oz), (T, { cls := .type "tuple", data := .seq ys.toArray })] (fun p hp => ?_) (fun p hp q hq => ?_) ⟨List.mem_cons_self .., hdz, hm9, D.with_held (fun p hp => List.mem_append_right _ hp) hcop (dict_nd hdz) (fun k => valueAt_stored ..) (List.mem_append_left _ (List.mem_cons_of_mem _ (List.mem_cons_self ..))) hik hk0 inv⟩
        · rcases List.mem_append.mp hp with hp | hp
          · rcases List.mem_cons.mp hp with rfl | hp
            · repeat (first | exact List.mem_cons_self .. | apply List.mem_cons_of_mem)
            · rw [List.mem_singleton.mp hp]; exact List.mem_cons_self ..
          · repeat (first | exact hp | apply List.mem_cons_of_mem)
        · rcases List.mem_cons.mp hp with rfl | hp
          · exact lt9' q (by repeat (first | exact hq | apply List.mem_cons_of_mem))
          · rw [List.mem_singleton.mp hp]; exact ltT' q (by repeat (first | exact hq | apply List.mem_cons_of_mem))
end Mine
end

/-! part I -/
section
set_option maxRecDepth 100000
set_option maxHeartbeats 8000000
namespace Mine
open PySem PySem.W PyProof.Rows PySem.Spec PySem.Calls




variable {w : World} {mean : ExcName → Option Value} {mg mb : Str → Option Value}

theorem comm_at {h₀ h : Heap} {L : Addr} {news₀ news : Led} {W : AW} {kvs : List (Str × Value)} (_N : News h₀ L h news) (D₀ : Desc news₀ kvs W) (hs : ∀ p ∈ news₀, p ∈ news) {a : Addr} (ha : (a, ({ cls := .type "tuple", data := .seq #[] } : Obj)) ∈ news) :
    ∃ pa vs, (valueAt kvs (Str.ofString "communities")).getD (.ref a) = .ref pa ∧ (pa, ({ cls := .type "tuple", data := .seq vs.toArray } : Obj)) ∈ news ∧ IntsAre vs W.held := by
  have D := D₀.mono hs
  have h := D.at_ (Str.ofString "communities")
  have e : W.look (Str.ofString "communities") = if W.held.isEmpty = true then none else some (.nums W.held) := rfl
  rw [e] at h
  cases hm : W.held.isEmpty with
  | true =>
    rw [hm] at h
    have h' : valueAt kvs (Str.ofString "communities") = none := h
    rw [h']
    exact ⟨a, [], rfl, ha, by rw [List.isEmpty_iff.mp hm]; exact .nil⟩
  | false =>
    rw [hm] at h
    obtain ⟨v, hv, pa, vs, rfl, hp, hs⟩ := h
    exact ⟨pa, vs, by rw [hv]; rfl, hp, hs⟩

theorem sub2 {h₀ h : Heap} {L a : Addr} {o : Obj} {news led : Led} (N : News h₀ L h led) (h1 : (a, o) ∈ led) (h2 : ∀ p ∈ news, p ∈ led) : News h₀ L h ((a, o) :: news) := fun p hp => by
  rcases List.mem_cons.mp hp with rfl | hp
  · exact N _ h1
  · exact N _ (h2 p hp)
def pn (n : Int) : Value → Bool
  | .int k _ => !decide (k = n)
  | _ => false

theorem ints_filter (n : Int) {vs : List Value} {ns : List Int} (h : IntsAre vs ns) : IntsAre (vs.filter (pn n)) (ns.filter fun y => !decide (y = n)) := by
  induction h with
  | nil => exact .nil
  | cons k t _ ih =>
    rw [List.filter_cons, List.filter_cons]
    show IntsAre (if (!decide (k = n)) = true then _ else _) (if (!decide (k = n)) = true then _ else _)
    cases (!decide (k = n))
    · exact ih
    · exact .cons _ _ ih
theorem Desc.drop_list {tl news : Led} {l : Addr} {a : Array Value} {n : Nat} {kvs : List (Str × Value)} {W : AW} (D : Desc (tl ++ (l, listOf a n) :: news) kvs W) : Desc (tl ++ news) kvs W := by
  have key : ∀ {b : Addr} {vs : List Value}, (b, ({ cls := .type "tuple", data := .seq vs.toArray } : Obj)) ∈ tl ++ (l, listOf a n) :: news → (b, ({ cls := .type "tuple", data := .seq vs.toArray } : Obj)) ∈ tl ++ news := fun {b vs} hm => by
    rcases List.mem_append.mp hm with hm | hm
    · exact List.mem_append_left _ hm
    rcases List.mem_cons.mp hm with hm | hm
    · have h1 := congrArg (fun p => p.2.cls) hm
      exact absurd (Value.type.inj h1) (by decide)
    · exact List.mem_append_right _ hm
  refine ⟨D.nd, fun k => ?_⟩
  have h := D.at_ k
  cases e : W.look k with
  | none => rw [e] at h; exact h
  | some d =>
    rw [e] at h
    obtain ⟨v, hv, hh⟩ := h
    refine ⟨v, hv, ?_⟩
    cases d with
    | num n => exact hh
    | nums l => obtain ⟨b, vs, e, m, i⟩ := hh; exact ⟨b, vs, e, key m, i⟩
    | txts l => obtain ⟨b, vs, e, m, i⟩ := hh; exact ⟨b, vs, e, key m, i⟩
theorem NewDict.drop_list {prog : Program} {w : World} {news : Led} {l : Addr} {a : Array Value} {n : Nat} {W : AW} {r : Value} {tl : Led} (h : NewDict prog w ((l, listOf a n) :: news) W r tl) : NewDict prog w news W r tl := by
  cases h with
  | mk h2 h3 h4 h5 => exact .mk h2 h3 h4 h5.drop_list
theorem sub_in (tl : Led) {x : Addr × Obj} {news : Led} : ∀ p ∈ tl ++ news, p ∈ tl ++ x :: news := fun p hp => by
  rcases List.mem_append.mp hp with hp | hp
  · exact List.mem_append_left _ hp
  · exact List.mem_append_right _ (List.mem_cons_of_mem _ hp)


local macro_rules | `(tactic| walk_at "call builtin:dict.get") => `(tactic| refine Stop.of ?_)
local macro_rules | `(tactic| walk_at "call type:list") => `(tactic| refine Stop.of ?_)
local macro_rules | `(tactic| walk_at "call ref") => `(tactic| refine Stop.of ?_)
local macro_rules | `(tactic| walk_at "binaryOp Add ref ref") => `(tactic| refine Stop.of ?_)
local macro_rules | `(tactic| walk_at "eval ListComp") => `(tactic| refine Stop.of ?_)
local macro_rules | `(tactic| walk_at "LcGo") => `(tactic| refine Stop.of ?_)

theorem changed_add {news : Led} (W : AW) (ok : W.Ok) (d : Addr) (oD : Obj) (kvs : List (Str × Value)) (hd : (d, oD) ∈ news) (hD : oD.IsDictOf (PySem.strKind (PySem.Challenge.rw_rh0202_01.row.prog) w) kvs) (lo : (d == sysModules) = false) (D : Desc news kvs W)
    (sa fd : Addr) (n : Int) (t0 t1 t2 : Tok) (hsa : (sa, ({ cls := .type "tuple", data := .seq #[.str (Str.ofString "add") t0, .int n t1] } : Obj)) ∈ news) (ks : List Int) (hks : ks.Pairwise (· < ·)) (hmem : ∀ x, x ∈ ks ↔ x ∈ W.held ++ [n]) (inv : W.cm = true → W.held ≠ []) :
    Gives w mean mg mb 24 44 news [.ref sa, .ref d, .ref fd] (NewDict PySem.Challenge.rw_rh0202_01.row.prog w news { W with held := ks, cm := W.cm && !ks.isEmpty }) := by
  unfold Gives
  k_fill
  intro dp un gd env outer A₀ base h₀ L m s Q E B F X N T hf hke hdp hu hret
  have hun := ok.len
  refine wpAny_call ?_
  k_dflt (first | (refine' enterP ?k1 ?k2 ?k3 ?k4 ?k5 ?kA ?kF ?kK ?k6 ?k7 ?k8 ?k9 ?kB ?_ ?c2 ?c3 ?c4 ?c5; (case kA => exact rfl); (case kF => first | exact rfl | assumption); (case kK => first | exact rfl | assumption); (case k1 => k_asm); (case k2 => k_asm); (case k3 => k_asm); (case k4 => k_asm); (case k5 => k_asm); (case k6 => k_is); (case k7 => k_is); (case k8 => (first | exact room_at (by assumption) | ktr_room)); (case k9 => exact BindsTo.of_eq rfl); (case c5 => decide); (case kB => exact locs rfl); (case c2 => exact rfl); (case c3 => exact rfl); (case c4 => exact rfl); k_whole; intro g' L' h' FG' F' N' B' X' T' kG' l1; (try k_lt l1); (try dsimp only); (try k_lift B'); (try k_fold)) | (refine' enterC ?k1 ?k2 ?k3 ?k4 ?k5 ?kA ?kF ?kK ?k6 ?k7 ?k8 ?k9 ?kB ?kD ?_ ?c2 ?c3 ?c4; (case kA => exact rfl); (case kF => first | exact rfl | assumption); (case kK => first | exact rfl | assumption); (case k1 => k_asm); (case k2 => k_asm); (case k3 => k_asm); (case k4 => k_asm); (case k5 => k_asm); (case k6 => k_is); (case k7 => k_is); (case k8 => (first | exact room_at (by assumption) | ktr_room)); (case k9 => exact BindsTo.of_eq rfl); (case kB => exact rfl); (case kD => decide +kernel); (case c2 => exact rfl); (case c3 => exact rfl); (case c4 => exact rfl); k_whole; intro g' L' h' tk' cells' FG' F' N' Y' B' X' T' kG' l1; (try k_lt l1); k_cells Y'; (try simp only [List.cons_append, List.nil_append] at N'); (try dsimp only); (try k_lift B'); (try k_fold)))
  k_dflt (refine hide (by passes_own) fun Q' E' hQ hpo => ?_)
  rename ∀ p ∈ news, p.1 < _ => hnl
  repeat (first | ((with_reducible show wpAny _ _ (getMethod (Value.ref _) (Str.ofString "get") _) _ _ _); (refine kdg_method (knd := PySem.strKind _ _) (by k_asm) (by k_mem) (by assumption) ?_)) | (k_unfold; (try dsimp only)) | walk1 | (dsimp only; walk1))
  refine Stop.go ?_
  rename News _ _ _ _ => N1
  obtain ⟨pa, pvs, hpv, hpm, hps⟩ := comm_at N1 D (fun p hp => by k_mem) (List.mem_cons_self ..)
  k_dflt (refine dget (by k_asm) (by k_mem) hD lo (strKind_is _ _ _ _) hpv ?_)
  repeat (first | ((with_reducible show wpAny _ _ (getMethod (Value.ref _) (Str.ofString "get") _) _ _ _); (refine kdg_method (knd := PySem.strKind _ _) (by k_asm) (by k_mem) (by assumption) ?_)) | (k_unfold; (try dsimp only)) | walk1 | (dsimp only; walk1))
  refine Stop.go ?_
  k_dflt (refine kup_listOfT (zs := pvs) (by k_asm) (by k_asm) hpm rfl ?_ (le_size (Nat.le_trans (Nat.le_of_eq hps.length) ok.len) (by decide)))
  intro Dl cl9 hl Fl Nl ltl
  have ltl' := ltl
  k_lt ltl
  repeat (first | ((with_reducible show wpAny _ _ (getMethod (Value.ref _) (Str.ofString "get") _) _ _ _); (refine kdg_method (knd := PySem.strKind _ _) (by k_asm) (by k_mem) (by assumption) ?_)) | (k_unfold; (try dsimp only)) | walk1 | (dsimp only; walk1))
  refine Stop.go ?_
  rename News _ _ _ _ => Ny
  k_dflt (refine kmk_add_ints (by k_asm) (by k_asm) (News.isList Ny (by k_mem)) (News.isList Ny (by k_mem)) hps (IntsAre.cons n t1 .nil) ?_ (le_size (Nat.add_le_add_right ok.len 1) (by decide)))
  intro Da usa ha Fa Na lta hia
  have lta' := lta
  k_lt lta
  repeat (first | ((with_reducible show wpAny _ _ (getMethod (Value.ref _) (Str.ofString "get") _) _ _ _); (refine kdg_method (knd := PySem.strKind _ _) (by k_asm) (by k_mem) (by assumption) ?_)) | (k_unfold; (try dsimp only)) | walk1 | (dsimp only; walk1))
  refine Stop.go ?_
  rename News _ _ _ _ => Nz
  k_dflt (refine use_ref (with_communities (news := (Da, listOf usa.toArray 0) :: news) W ok d oD kvs (List.mem_cons_of_mem _ hd) hD lo (D.mono fun p hp => List.mem_cons_of_mem _ hp) Da usa 0 (W.held ++ [n]) (List.mem_cons_self ..) hia (by rw [List.length_append]; exact Nat.le_trans (Nat.add_le_add_right ok.len 1) (by decide)) ks hks hmem inv) (by k_asm) (by k_asm) (by k_asm) (sub2 Nz (by k_mem) (fun p hp => by k_mem)) (by k_asm) rfl rfl (room_in hdp (Nat.le_of_ble_eq_true rfl)) (units_in hu (Nat.le_of_ble_eq_true rfl)) ?_)
  intro dn tl' h' tk' F' N' lt' hnd
  have hnd := NewDict.drop_list hnd
  dsimp only
  repeat (first | ((with_reducible show wpAny _ _ (getMethod (Value.ref _) (Str.ofString "get") _) _ _ _); (refine kdg_method (knd := PySem.strKind _ _) (by k_asm) (by k_mem) (by assumption) ?_)) | (k_unfold; (try dsimp only)) | walk1 | (dsimp only; walk1))
  refine hQ _ _ ?_
  repeat (first | ((with_reducible show wpAny _ _ (getMethod (Value.ref _) (Str.ofString "get") _) _ _ _); (refine kdg_method (knd := PySem.strKind _ _) (by k_asm) (by k_mem) (by assumption) ?_)) | (k_unfold; (try dsimp only)) | walk1 | (dsimp only; walk1))
  exact give hret N (by assumption) (by assumption) (by assumption) (by assumption) (by assumption) tl' (sub_in tl') (fun p hp q hq => lt' p hp q (List.mem_cons_of_mem _ hq)) hnd

theorem changed_drop {news : Led} (W : AW) (ok : W.Ok) (d : Addr) (oD : Obj) (kvs : List (Str × Value)) (hd : (d, oD) ∈ news) (hD : oD.IsDictOf (PySem.strKind (PySem.Challenge.rw_rh0202_01.row.prog) w) kvs) (lo : (d == sysModules) = false) (D : Desc news kvs W)
    (sa fd : Addr) (n : Int) (t0 t1 t2 : Tok) (hsa : (sa, ({ cls := .type "tuple", data := .seq #[.str (Str.ofString "drop") t0, .int n t1] } : Obj)) ∈ news) (ks : List Int) (hks : ks.Pairwise (· < ·)) (hmem : ∀ x, x ∈ ks ↔ x ∈ W.held.filter fun y => !decide (y = n)) (inv : W.cm = true → W.held ≠ []) :
    Gives w mean mg mb 24 44 news [.ref sa, .ref d, .ref fd] (NewDict PySem.Challenge.rw_rh0202_01.row.prog w news { W with held := ks, cm := W.cm && !ks.isEmpty }) := by
  unfold Gives
  k_fill
  intro dp un gd env outer A₀ base h₀ L m s Q E B F X N T hf hke hdp hu hret
  have hun := ok.len
  refine wpAny_call ?_
  k_dflt (first | (refine' enterP ?k1 ?k2 ?k3 ?k4 ?k5 ?kA ?kF ?kK ?k6 ?k7 ?k8 ?k9 ?kB ?_ ?c2 ?c3 ?c4 ?c5; (case kA => exact rfl); (case kF => first | exact rfl | assumption); (case kK => first | exact rfl | assumption); (case k1 => k_asm); (case k2 => k_asm); (case k3 => k_asm); (case k4 => k_asm); (case k5 => k_asm); (case k6 => k_is); (case k7 => k_is); (case k8 => (first | exact room_at (by assumption) | ktr_room)); (case k9 => exact BindsTo.of_eq rfl); (case c5 => decide); (case kB => exact locs rfl); (case c2 => exact rfl); (case c3 => exact rfl); (case c4 => exact rfl); k_whole; intro g' L' h' FG' F' N' B' X' T' kG' l1; (try k_lt l1); (try dsimp only); (try k_lift B'); (try k_fold)) | (refine' enterC ?k1 ?k2 ?k3 ?k4 ?k5 ?kA ?kF ?kK ?k6 ?k7 ?k8 ?k9 ?kB ?kD ?_ ?c2 ?c3 ?c4; (case kA => exact rfl); (case kF => first | exact rfl | assumption); (case kK => first | exact rfl | assumption); (case k1 => k_asm); (case k2 => k_asm); (case k3 => k_asm); (case k4 => k_asm); (case k5 => k_asm); (case k6 => k_is); (case k7 => k_is); (case k8 => (first | exact room_at (by assumption) | ktr_room)); (case k9 => exact BindsTo.of_eq rfl); (case kB => exact rfl); (case kD => decide +kernel); (case c2 => exact rfl); (case c3 => exact rfl); (case c4 => exact rfl); k_whole; intro g' L' h' tk' cells' FG' F' N' Y' B' X' T' kG' l1; (try k_lt l1); k_cells Y'; (try simp only [List.cons_append, List.nil_append] at N'); (try dsimp only); (try k_lift B'); (try k_fold)))
  k_dflt (refine hide (by passes_own) fun Q' E' hQ hpo => ?_)
  rename ∀ p ∈ news, p.1 < _ => hnl
  repeat (first | ((with_reducible show wpAny _ _ (getMethod (Value.ref _) (Str.ofString "get") _) _ _ _); (refine kdg_method (knd := PySem.strKind _ _) (by k_asm) (by k_mem) (by assumption) ?_)) | (k_unfold; (try dsimp only)) | walk1 | (dsimp only; walk1))
  refine Stop.go ?_
  rename News _ _ _ _ => N1
  obtain ⟨pa, pvs, hpv, hpm, hps⟩ := comm_at N1 D (fun p hp => by k_mem) (List.mem_cons_self ..)
  k_dflt (refine dget (by k_asm) (by k_mem) hD lo (strKind_is _ _ _ _) hpv ?_)
  repeat (first | ((with_reducible show wpAny _ _ (getMethod (Value.ref _) (Str.ofString "get") _) _ _ _); (refine kdg_method (knd := PySem.strKind _ _) (by k_asm) (by k_mem) (by assumption) ?_)) | (k_unfold; (try dsimp only)) | walk1 | (dsimp only; walk1))
  refine Stop.go ?_
  k_dflt (refine kup_listOfT (zs := pvs) (by k_asm) (by k_asm) hpm rfl ?_ (le_size (Nat.le_trans (Nat.le_of_eq hps.length) ok.len) (by decide)))
  intro Dl cl9 hl Fl Nl ltl
  have ltl' := ltl
  k_lt ltl
  repeat (first | ((with_reducible show wpAny _ _ (getMethod (Value.ref _) (Str.ofString "get") _) _ _ _); (refine kdg_method (knd := PySem.strKind _ _) (by k_asm) (by k_mem) (by assumption) ?_)) | (k_unfold; (try dsimp only)) | walk1 | (dsimp only; walk1))
  refine Stop.go ?_
  k_dflt (refine lc_quiet (by k_asm) (pn n) (fun v y => y = v) rfl (by with_unfolding_all rfl) (by decide) (by rfl) (by decide) (by rfl) ?_ (by intro _; rfl))
  repeat (first | ((with_reducible show wpAny _ _ (getMethod (Value.ref _) (Str.ofString "get") _) _ _ _); (refine kdg_method (knd := PySem.strKind _ _) (by k_asm) (by k_mem) (by assumption) ?_)) | (k_unfold; (try dsimp only)) | walk1 | (dsimp only; walk1))
  refine Stop.go ?_
  rename News _ _ _ _ => Np
  refine ⟨_, _, _, Src.list (News.isList Np (by k_mem)), le_size (Nat.le_trans (Nat.le_of_eq hps.length) ok.len) (by decide), by k_asm, by k_asm, ?ht, ?he, ?hq⟩
  case ht =>
    intro C oC i v m₂ s₃ E' hv hC hm up F3 N3
    obtain ⟨k, t', rfl, hk⟩ := IntsAre.at hps i v (by simpa using hv)
    refine wpAny_tests_one (wpAny_mono (Q := fun ok s₄ => Stop (ok = pn n (.int k t') ∧ Keeps s₃ s₄)) ?_ (fun _ _ h => h) (fun _ _ e => e))
    repeat (first | ((with_reducible show wpAny _ _ (getMethod (Value.ref _) (Str.ofString "get") _) _ _ _); (refine kdg_method (knd := PySem.strKind _ _) (by k_asm) (by k_mem) (by assumption) ?_)) | (k_unfold; (try dsimp only)) | walk1 | (dsimp only; walk1))
    refine Stop.go ⟨?_, keeps_toks⟩
    show (!(k == n)) = !decide (k = n)
    by_cases hkn : k = n <;> simp [hkn]
  case he =>
    intro C oC i v m₂ s₃ E' hv _ hC hm up F3 N3
    obtain ⟨k, t', rfl, hk⟩ := IntsAre.at hps i v (by simpa using hv)
    refine wpAny_mono (Q := fun (y : Value) s₄ => Stop (y = Value.int k t' ∧ Keeps s₃ s₄)) ?_ (fun _ _ h => h) (fun _ _ e => e)
    repeat (first | ((with_reducible show wpAny _ _ (getMethod (Value.ref _) (Str.ofString "get") _) _ _ _); (refine kdg_method (knd := PySem.strKind _ _) (by k_asm) (by k_mem) (by assumption) ?_)) | (k_unfold; (try dsimp only)) | walk1 | (dsimp only; walk1))
    exact Stop.go ⟨rfl, keeps_self⟩
  case hq =>
    intro D6 k6 ys6 us6 h6b tk6b hlen6 hus6 hP6 up6 F6b N6b ne6
    have e6 : us6 = pvs := same_list hlen6 hus6
    subst e6
    have e7 := paired_eq hP6
    subst e7
    have hif := ints_filter n hps
    have hfl : (W.held.filter fun y => !decide (y = n)).length ≤ W.held.length := List.length_filter_le _ _
    repeat (first | ((with_reducible show wpAny _ _ (getMethod (Value.ref _) (Str.ofString "get") _) _ _ _); (refine kdg_method (knd := PySem.strKind _ _) (by k_asm) (by k_mem) (by assumption) ?_)) | (k_unfold; (try dsimp only)) | walk1 | (dsimp only; walk1))
    refine Stop.go ?_
    rename News _ _ _ _ => Nz
    k_dflt (refine use_ref (with_communities (news := (D6, listOf (us6.filter (pn n)).toArray k6) :: news) W ok d oD kvs (List.mem_cons_of_mem _ hd) hD lo (D.mono fun p hp => List.mem_cons_of_mem _ hp) D6 (us6.filter (pn n)) k6 (W.held.filter fun y => !decide (y = n)) (List.mem_cons_self ..) hif (Nat.le_trans hfl (Nat.le_trans ok.len (by decide))) ks hks hmem inv) (by k_asm) (by k_asm) (by k_asm) (sub2 Nz (by k_mem) (fun p hp => by k_mem)) (by k_asm) rfl rfl (room_in hdp (Nat.le_of_ble_eq_true rfl)) (units_in hu (Nat.le_of_ble_eq_true rfl)) ?_)
    intro dn tl' h' tk' F' N' lt' hnd
    have hnd := NewDict.drop_list hnd
    dsimp only
    repeat (first | ((with_reducible show wpAny _ _ (getMethod (Value.ref _) (Str.ofString "get") _) _ _ _); (refine kdg_method (knd := PySem.strKind _ _) (by k_asm) (by k_mem) (by assumption) ?_)) | (k_unfold; (try dsimp only)) | walk1 | (dsimp only; walk1))
    refine hQ _ _ ?_
    repeat (first | ((with_reducible show wpAny _ _ (getMethod (Value.ref _) (Str.ofString "get") _) _ _ _); (refine kdg_method (knd := PySem.strKind _ _) (by k_asm) (by k_mem) (by assumption) ?_)) | (k_unfold; (try dsimp only)) | walk1 | (dsimp only; walk1))
    exact give hret N (by assumption) (by assumption) (by assumption) (by assumption) (by assumption) tl' (sub_in tl') (fun p hp q hq => lt' p hp q (List.mem_cons_of_mem _ hq)) hnd

theorem changed_clear {news : Led} (W : AW) (ok : W.Ok) (d : Addr) (oD : Obj) (kvs : List (Str × Value)) (hd : (d, oD) ∈ news) (hD : oD.IsDictOf (PySem.strKind (PySem.Challenge.rw_rh0202_01.row.prog) w) kvs) (lo : (d == sysModules) = false) (D : Desc news kvs W)
    (sa fd : Addr) (n : Int) (t0 t1 t2 : Tok) (hsa : (sa, ({ cls := .type "tuple", data := .seq #[.str (Str.ofString "clear") t0] } : Obj)) ∈ news)  (inv : W.cm = true → W.held ≠ []) :
    Gives w mean mg mb 24 44 news [.ref sa, .ref d, .ref fd] (NewDict PySem.Challenge.rw_rh0202_01.row.prog w news { W with held := [], cm := W.cm && !([] : List Int).isEmpty }) := by
  unfold Gives
  k_fill
  intro dp un gd env outer A₀ base h₀ L m s Q E B F X N T hf hke hdp hu hret
  have hun := ok.len
  refine wpAny_call ?_
  k_dflt (first | (refine' enterP ?k1 ?k2 ?k3 ?k4 ?k5 ?kA ?kF ?kK ?k6 ?k7 ?k8 ?k9 ?kB ?_ ?c2 ?c3 ?c4 ?c5; (case kA => exact rfl); (case kF => first | exact rfl | assumption); (case kK => first | exact rfl | assumption); (case k1 => k_asm); (case k2 => k_asm); (case k3 => k_asm); (case k4 => k_asm); (case k5 => k_asm); (case k6 => k_is); (case k7 => k_is); (case k8 => (first | exact room_at (by assumption) | ktr_room)); (case k9 => exact BindsTo.of_eq rfl); (case c5 => decide); (case kB => exact locs rfl); (case c2 => exact rfl); (case c3 => exact rfl); (case c4 => exact rfl); k_whole; intro g' L' h' FG' F' N' B' X' T' kG' l1; (try k_lt l1); (try dsimp only); (try k_lift B'); (try k_fold)) | (refine' enterC ?k1 ?k2 ?k3 ?k4 ?k5 ?kA ?kF ?kK ?k6 ?k7 ?k8 ?k9 ?kB ?kD ?_ ?c2 ?c3 ?c4; (case kA => exact rfl); (case kF => first | exact rfl | assumption); (case kK => first | exact rfl | assumption); (case k1 => k_asm); (case k2 => k_asm); (case k3 => k_asm); (case k4 => k_asm); (case k5 => k_asm); (case k6 => k_is); (case k7 => k_is); (case k8 => (first | exact room_at (by assumption) | ktr_room)); (case k9 => exact BindsTo.of_eq rfl); (case kB => exact rfl); (case kD => decide +kernel); (case c2 => exact rfl); (case c3 => exact rfl); (case c4 => exact rfl); k_whole; intro g' L' h' tk' cells' FG' F' N' Y' B' X' T' kG' l1; (try k_lt l1); k_cells Y'; (try simp only [List.cons_append, List.nil_append] at N'); (try dsimp only); (try k_lift B'); (try k_fold)))
  k_dflt (refine hide (by passes_own) fun Q' E' hQ hpo => ?_)
  rename ∀ p ∈ news, p.1 < _ => hnl
  repeat (first | ((with_reducible show wpAny _ _ (getMethod (Value.ref _) (Str.ofString "get") _) _ _ _); (refine kdg_method (knd := PySem.strKind _ _) (by k_asm) (by k_mem) (by assumption) ?_)) | (k_unfold; (try dsimp only)) | walk1 | (dsimp only; walk1))
  refine Stop.go ?_
  rename News _ _ _ _ => N1
  obtain ⟨pa, pvs, hpv, hpm, hps⟩ := comm_at N1 D (fun p hp => by k_mem) (List.mem_cons_self ..)
  k_dflt (refine dget (by k_asm) (by k_mem) hD lo (strKind_is _ _ _ _) hpv ?_)
  repeat (first | ((with_reducible show wpAny _ _ (getMethod (Value.ref _) (Str.ofString "get") _) _ _ _); (refine kdg_method (knd := PySem.strKind _ _) (by k_asm) (by k_mem) (by assumption) ?_)) | (k_unfold; (try dsimp only)) | walk1 | (dsimp only; walk1))
  refine Stop.go ?_
  k_dflt (refine kup_listOfT (zs := pvs) (by k_asm) (by k_asm) hpm rfl ?_ (le_size (Nat.le_trans (Nat.le_of_eq hps.length) ok.len) (by decide)))
  intro Dl cl9 hl Fl Nl ltl
  have ltl' := ltl
  k_lt ltl
  repeat (first | ((with_reducible show wpAny _ _ (getMethod (Value.ref _) (Str.ofString "get") _) _ _ _); (refine kdg_method (knd := PySem.strKind _ _) (by k_asm) (by k_mem) (by assumption) ?_)) | (k_unfold; (try dsimp only)) | walk1 | (dsimp only; walk1))
  refine Stop.go ?_
  rename News _ _ _ _ => Nz
  k_dflt (refine use_ref (with_communities (news := (_, listOf [].toArray 0) :: news) W ok d oD kvs (List.mem_cons_of_mem _ hd) hD lo (D.mono fun p hp => List.mem_cons_of_mem _ hp) _ [] 0 [] (List.mem_cons_self ..) .nil (by decide) [] .nil (fun _ => Iff.rfl) inv) (by k_asm) (by k_asm) (by k_asm) (sub2 Nz (by k_mem) (fun p hp => by k_mem)) (by k_asm) rfl rfl (room_in hdp (Nat.le_of_ble_eq_true rfl)) (units_in hu (Nat.le_of_ble_eq_true rfl)) ?_)
  intro dn tl' h' tk' F' N' lt' hnd
  have hnd := NewDict.drop_list hnd
  dsimp only
  repeat (first | ((with_reducible show wpAny _ _ (getMethod (Value.ref _) (Str.ofString "get") _) _ _ _); (refine kdg_method (knd := PySem.strKind _ _) (by k_asm) (by k_mem) (by assumption) ?_)) | (k_unfold; (try dsimp only)) | walk1 | (dsimp only; walk1))
  refine hQ _ _ ?_
  repeat (first | ((with_reducible show wpAny _ _ (getMethod (Value.ref _) (Str.ofString "get") _) _ _ _); (refine kdg_method (knd := PySem.strKind _ _) (by k_asm) (by k_mem) (by assumption) ?_)) | (k_unfold; (try dsimp only)) | walk1 | (dsimp only; walk1))
  exact give hret N (by assumption) (by assumption) (by assumption) (by assumption) (by assumption) tl' (sub_in tl') (fun p hp q hq => lt' p hp q (List.mem_cons_of_mem _ hq)) hnd

theorem changed_set {news : Led} (W : AW) (ok : W.Ok) (d : Addr) (oD : Obj) (kvs : List (Str × Value)) (hd : (d, oD) ∈ news) (hD : oD.IsDictOf (PySem.strKind (PySem.Challenge.rw_rh0202_01.row.prog) w) kvs) (lo : (d == sysModules) = false) (D : Desc news kvs W)
    (sa fd : Addr) (n : Int) (t0 t1 t2 : Tok) (hsa : (sa, ({ cls := .type "tuple", data := .seq #[.str (Str.ofString "set") t0, .str (Str.ofString "med") t1, .int n t2] } : Obj)) ∈ news)  (inv : W.cm = true → W.held ≠ []) :
    Gives w mean mg mb 24 44 news [.ref sa, .ref d, .ref fd] (NewDict PySem.Challenge.rw_rh0202_01.row.prog w news { W with med := some n }) := by
  unfold Gives
  k_fill
  intro dp un gd env outer A₀ base h₀ L m s Q E B F X N T hf hke hdp hu hret
  have hun := ok.len
  refine wpAny_call ?_
  k_dflt (first | (refine' enterP ?k1 ?k2 ?k3 ?k4 ?k5 ?kA ?kF ?kK ?k6 ?k7 ?k8 ?k9 ?kB ?_ ?c2 ?c3 ?c4 ?c5; (case kA => exact rfl); (case kF => first | exact rfl | assumption); (case kK => first | exact rfl | assumption); (case k1 => k_asm); (case k2 => k_asm); (case k3 => k_asm); (case k4 => k_asm); (case k5 => k_asm); (case k6 => k_is); (case k7 => k_is); (case k8 => (first | exact room_at (by assumption) | ktr_room)); (case k9 => exact BindsTo.of_eq rfl); (case c5 => decide); (case kB => exact locs rfl); (case c2 => exact rfl); (case c3 => exact rfl); (case c4 => exact rfl); k_whole; intro g' L' h' FG' F' N' B' X' T' kG' l1; (try k_lt l1); (try dsimp only); (try k_lift B'); (try k_fold)) | (refine' enterC ?k1 ?k2 ?k3 ?k4 ?k5 ?kA ?kF ?kK ?k6 ?k7 ?k8 ?k9 ?kB ?kD ?_ ?c2 ?c3 ?c4; (case kA => exact rfl); (case kF => first | exact rfl | assumption); (case kK => first | exact rfl | assumption); (case k1 => k_asm); (case k2 => k_asm); (case k3 => k_asm); (case k4 => k_asm); (case k5 => k_asm); (case k6 => k_is); (case k7 => k_is); (case k8 => (first | exact room_at (by assumption) | ktr_room)); (case k9 => exact BindsTo.of_eq rfl); (case kB => exact rfl); (case kD => decide +kernel); (case c2 => exact rfl); (case c3 => exact rfl); (case c4 => exact rfl); k_whole; intro g' L' h' tk' cells' FG' F' N' Y' B' X' T' kG' l1; (try k_lt l1); k_cells Y'; (try simp only [List.cons_append, List.nil_append] at N'); (try dsimp only); (try k_lift B'); (try k_fold)))
  k_dflt (refine hide (by passes_own) fun Q' E' hQ hpo => ?_)
  rename ∀ p ∈ news, p.1 < _ => hnl
  repeat (first | ((with_reducible show wpAny _ _ (getMethod (Value.ref _) (Str.ofString "get") _) _ _ _); (refine kdg_method (knd := PySem.strKind _ _) (by k_asm) (by k_mem) (by assumption) ?_)) | (k_unfold; (try dsimp only)) | walk1 | (dsimp only; walk1))
  refine Stop.go ?_
  rename News _ _ _ _ => N1
  obtain ⟨pa, pvs, hpv, hpm, hps⟩ := comm_at N1 D (fun p hp => by k_mem) (List.mem_cons_self ..)
  k_dflt (refine dget (by k_asm) (by k_mem) hD lo (strKind_is _ _ _ _) hpv ?_)
  repeat (first | ((with_reducible show wpAny _ _ (getMethod (Value.ref _) (Str.ofString "get") _) _ _ _); (refine kdg_method (knd := PySem.strKind _ _) (by k_asm) (by k_mem) (by assumption) ?_)) | (k_unfold; (try dsimp only)) | walk1 | (dsimp only; walk1))
  refine Stop.go ?_
  k_dflt (refine kup_listOfT (zs := pvs) (by k_asm) (by k_asm) hpm rfl ?_ (le_size (Nat.le_trans (Nat.le_of_eq hps.length) ok.len) (by decide)))
  intro Dl cl9 hl Fl Nl ltl
  have ltl' := ltl
  k_lt ltl
  repeat (first | ((with_reducible show wpAny _ _ (getMethod (Value.ref _) (Str.ofString "get") _) _ _ _); (refine kdg_method (knd := PySem.strKind _ _) (by k_asm) (by k_mem) (by assumption) ?_)) | (k_unfold; (try dsimp only)) | walk1 | (dsimp only; walk1))
  refine Stop.go ?_
  rename News _ _ _ _ => Nz
  k_dflt (refine use_ref (with_field W d oD kvs hd hD lo D n t2 _) (by k_asm) (by k_asm) (by k_asm) (fun p hp => Nz p (by k_mem)) (by k_asm) rfl rfl (room_in hdp (Nat.le_of_ble_eq_true rfl)) (units_in hu (Nat.le_of_ble_eq_true rfl)) ?_)
  intro dn tl' h' tk' F' N' lt' hnd
  dsimp only
  repeat (first | ((with_reducible show wpAny _ _ (getMethod (Value.ref _) (Str.ofString "get") _) _ _ _); (refine kdg_method (knd := PySem.strKind _ _) (by k_asm) (by k_mem) (by assumption) ?_)) | (k_unfold; (try dsimp only)) | walk1 | (dsimp only; walk1))
  refine hQ _ _ ?_
  repeat (first | ((with_reducible show wpAny _ _ (getMethod (Value.ref _) (Str.ofString "get") _) _ _ _); (refine kdg_method (knd := PySem.strKind _ _) (by k_asm) (by k_mem) (by assumption) ?_)) | (k_unfold; (try dsimp only)) | walk1 | (dsimp only; walk1))
  exact give hret N (by assumption) (by assumption) (by assumption) (by assumption) (by assumption) tl' (fun p hp => hp) lt' hnd
end Mine
end

/-! part M -/
section
set_option maxRecDepth 100000
set_option maxHeartbeats 2000000
namespace Mine
open PySem PySem.W PyProof.Rows PySem.Spec PySem.Calls

/-- a contract of a def that writes to some objects of its caller's ledger (pre) -/
def GivesM (w : World) (mean : ExcName → Option Value) (mg mb : Str → Option Value) (D : Nat) (f : Addr) (pre news : Led) (vs : List Value) (Ret : Value → Led → Led → Prop) : Prop :=
  ∀ (dp un : Nat) (gd : Option (List Code)) (env : Env) (outer : List Env) (A₀ : Around) (base h₀ : Heap) (L : Addr) (m : Str → Option Value) (s : Shared) (Q E : Value → Shared → Prop),
    Below A₀ base outer h₀ → Fr h₀ L s.heap m → (Mine.hd.heap_39 w.params).In h₀ → News h₀ L s.heap (pre ++ news) → Top Mine.hd.view_39 (looseW Mine.hd.view_39 [Str.ofString "FIELDS", Str.ofString "KNOWN_ATTRS"]) mean mg mb h₀ →
    env.frame = some L → env.scope.kind = .function → dp + D < recursionLimit → un + 8 * D < cLine →
    (∀ r tl pre' h' tk', (∀ b o, b ∉ pre.map (·.1) → s.heap.get? b = some o → h'.get? b = some o) → Fr h₀ L h' m → News h₀ L h' (tl ++ (pre' ++ news)) → (∀ p ∈ tl, ∀ q ∈ pre' ++ news, q.1 ≠ p.1) → Ret r tl pre' → Q r { s with heap := h', toks := tk' }) →
    wpAny (model PySem.Challenge.rw_rh0202_01.row.prog w) { handled := none, depth := dp, frames := some (env :: outer), guards := gd, units := un } (call (.ref f) vs) Q E s

theorem keepM {s : Shared} {h₀ g : Heap} {L L' : Addr} {m' : Str → Option Value} {pre news all : Led} {h' : Heap} (N : News h₀ L s.heap (pre ++ news)) (kG : GSub s.heap g ((pre ++ news).map (·.1))) (F' : Fr g L' h' m') (N' : News g L' h' all) (sub : ∀ p ∈ news, p ∈ all) :
    ∀ b o, b ∉ pre.map (·.1) → s.heap.get? b = some o → h'.get? b = some o := by
  intro b o hb e
  by_cases hm : b ∈ (pre ++ news).map (·.1)
  · obtain ⟨p, hp, rfl⟩ := List.mem_map.mp hm
    rcases List.mem_append.mp hp with h1 | h1
    · exact absurd (List.mem_map_of_mem h1) hb
    · have h2 := (N p hp).1
      rw [h2] at e
      cases e
      exact (N' p (sub p h1)).1
  · exact F'.keep b o (kG b o e hm)

theorem giveM {Q : Value → Shared → Prop} {Ret : Value → Led → Led → Prop} {s : Shared} {h₀ g : Heap} {L L' : Addr} {m m' : Str → Option Value} {pre news all : Led} {r : Value} {h' : Heap} {tk : Nat}
    (hret : ∀ r tl pre' h' tk', (∀ b o, b ∉ pre.map (·.1) → s.heap.get? b = some o → h'.get? b = some o) → Fr h₀ L h' m → News h₀ L h' (tl ++ (pre' ++ news)) → (∀ p ∈ tl, ∀ q ∈ pre' ++ news, q.1 ≠ p.1) → Ret r tl pre' → Q r { s with heap := h', toks := tk' })
    (N : News h₀ L s.heap (pre ++ news)) (kG : GSub s.heap g ((pre ++ news).map (·.1))) (F' : Fr g L' h' m') (N' : News g L' h' all) (kF : Fr h₀ L h' m) (kN : News h₀ L h' all) (tl pre' : Led)
    (sub : ∀ p ∈ tl ++ (pre' ++ news), p ∈ all) (lt : ∀ p ∈ tl, ∀ q ∈ pre' ++ news, q.1 ≠ p.1) (hr : Ret r tl pre') : Q r { s with heap := h', toks := tk } :=
  hret r tl pre' h' tk (keepM N kG F' N' fun p hp => sub p (List.mem_append_right _ (List.mem_append_right _ hp))) kF (fun p hp => kN p (sub p hp)) lt hr

theorem useM {w : World} {mean : ExcName → Option Value} {mg mb : Str → Option Value} {D : Nat} {f : Addr} {pre news : Led} {vs : List Value} {Ret : Value → Led → Led → Prop} (C : GivesM w mean mg mb D f pre news vs Ret)
    {dp un : Nat} {gd : Option (List Code)} {env : Env} {outer : List Env} {A₀ : Around} {base h₀ : Heap} {L : Addr} {m : Str → Option Value} {s : Shared} {Q E : Value → Shared → Prop}
    (B : Below A₀ base outer h₀) (F : Fr h₀ L s.heap m) (X : (Mine.hd.heap_39 w.params).In h₀) (N : News h₀ L s.heap (pre ++ news)) (T : Top Mine.hd.view_39 (looseW Mine.hd.view_39 [Str.ofString "FIELDS", Str.ofString "KNOWN_ATTRS"]) mean mg mb h₀)
    (hf : env.frame = some L) (hk : env.scope.kind = .function) (hd : dp + D < recursionLimit) (hu : un + 8 * D < cLine)
    (ret : ∀ r tl pre' h' tk', (∀ b o, b ∉ pre.map (·.1) → s.heap.get? b = some o → h'.get? b = some o) → Fr h₀ L h' m → News h₀ L h' (tl ++ (pre' ++ news)) → (∀ p ∈ tl, ∀ q ∈ pre' ++ news, q.1 ≠ p.1) → Ret r tl pre' → Q r { s with heap := h', toks := tk' }) :
    wpAny (model PySem.Challenge.rw_rh0202_01.row.prog w) { handled := none, depth := dp, frames := some (env :: outer), guards := gd, units := un } (call (.ref f) vs) Q E s :=
  C dp un gd env outer A₀ base h₀ L m s Q E B F X N T hf hk hd hu ret
end Mine
end

/-! part N -/
section
set_option maxRecDepth 100000
set_option maxHeartbeats 8000000
namespace Mine
open PySem PySem.W PyProof.Rows PySem.Spec PySem.Calls




variable {w : World} {mean : ExcName → Option Value} {mg mb : Str → Option Value}


local macro_rules | `(tactic| walk_at "setItem ref int") => `(tactic| refine Stop.of ?_)

/-- what a draw hands out -/
inductive DrawRet (bx sl : Addr) (c many : Int) : Value → Led → Led → Prop
  | mk {k : Int} {t tc' : Tok} {kb' : Nat} : 0 ≤ k → k < many → DrawRet bx sl c many (.int k t) [] [(bx, listOf #[.ref sl, .int (c + 1) tc'] kb')]

/-- a draw: a number below many; the box counts on -/
theorem law_draw {news : Led} (bx sl : Addr) (c many : Int) (tc tm : Tok) (kb ks : Nat) (svs : List Value) (sns : List Int) (hc : 0 ≤ c) (hm : 0 < many) (hsl : (sl, listOf svs.toArray ks) ∈ news) (hi : IntsAre svs sns) (hns : sns.length ≤ 63) (hoff : ∀ p ∈ news, p.1 ≠ bx) :
    GivesM w mean mg mb 4 149 [(bx, listOf #[.ref sl, .int c tc] kb)] news [.ref bx, .int many tm] (DrawRet bx sl c many) := by
  unfold GivesM
  k_fill
  intro dp un gd env outer A₀ base h₀ L m s Q E B F X N T hf hke hdp hu hret
  simp only [List.cons_append, List.nil_append] at N
  refine wpAny_call ?_
  k_dflt (first | (refine' enterP ?k1 ?k2 ?k3 ?k4 ?k5 ?kA ?kF ?kK ?k6 ?k7 ?k8 ?k9 ?kB ?_ ?c2 ?c3 ?c4 ?c5; (case kA => exact rfl); (case kF => first | exact rfl | assumption); (case kK => first | exact rfl | assumption); (case k1 => k_asm); (case k2 => k_asm); (case k3 => k_asm); (case k4 => k_asm); (case k5 => k_asm); (case k6 => k_is); (case k7 => k_is); (case k8 => (first | exact room_at (by assumption) | ktr_room)); (case k9 => exact BindsTo.of_eq rfl); (case c5 => decide); (case kB => exact locs rfl); (case c2 => exact rfl); (case c3 => exact rfl); (case c4 => exact rfl); k_whole; intro g' L' h' FG' F' N' B' X' T' kG' l1; (try k_lt l1); (try dsimp only); (try k_lift B'); (try k_fold)) | (refine' enterC ?k1 ?k2 ?k3 ?k4 ?k5 ?kA ?kF ?kK ?k6 ?k7 ?k8 ?k9 ?kB ?kD ?_ ?c2 ?c3 ?c4; (case kA => exact rfl); (case kF => first | exact rfl | assumption); (case kK => first | exact rfl | assumption); (case k1 => k_asm); (case k2 => k_asm); (case k3 => k_asm); (case k4 => k_asm); (case k5 => k_asm); (case k6 => k_is); (case k7 => k_is); (case k8 => (first | exact room_at (by assumption) | ktr_room)); (case k9 => exact BindsTo.of_eq rfl); (case kB => exact rfl); (case kD => decide +kernel); (case c2 => exact rfl); (case c3 => exact rfl); (case c4 => exact rfl); k_whole; intro g' L' h' tk' cells' FG' F' N' Y' B' X' T' kG' l1; (try k_lt l1); k_cells Y'; (try simp only [List.cons_append, List.nil_append] at N'); (try dsimp only); (try k_lift B'); (try k_fold)))
  repeat (first | ((with_reducible show wpAny _ _ (call (Value.builtin "len") [Value.ref _]) _ _ _); ((refine Calls.call_len_list (News.isList (by k_asm) (by k_mem)) (by rw [List.size_toArray]; omega) ?_); simp only [List.size_toArray])) | (k_unfold; (try dsimp only)) | walk1 | (dsimp only; walk1))
  refine Stop.go ?_
  k_dflt (refine ki_set (by k_asm) (by k_asm) (by decide) (by decide) rfl (.head hoff) ?_)
  intro h8 F8 N8
  have hlen := hi.length
  repeat (first | ((with_reducible show wpAny _ _ (call (Value.builtin "len") [Value.ref _]) _ _ _); ((refine Calls.call_len_list (News.isList (by k_asm) (by k_mem)) (by rw [List.size_toArray]; omega) ?_); simp only [List.size_toArray])) | (k_unfold; (try dsimp only)) | walk1 | (dsimp only; walk1))
  · refine giveM hret N (by assumption) (by assumption) (by assumption) (by assumption) (by assumption) [] [(bx, listOf #[.ref sl, .int (c + 1) _] _)] (fun p hp => hp) (fun _ h => nomatch h) (.mk (Int.fmod_nonneg_of_pos _ hm) (Int.fmod_lt_of_pos _ hm))
  · refine wpAny_execs_nil ?_
    repeat (first | ((with_reducible show wpAny _ _ (call (Value.builtin "len") [Value.ref _]) _ _ _); ((refine Calls.call_len_list (News.isList (by k_asm) (by k_mem)) (by rw [List.size_toArray]; omega) ?_); simp only [List.size_toArray])) | (k_unfold; (try dsimp only)) | walk1 | (dsimp only; walk1))
    refine giveM hret N (by assumption) (by assumption) (by assumption) (by assumption) (by assumption) [] [(bx, listOf #[.ref sl, .int (c + 1) _] _)] (fun p hp => hp) (fun _ h => nomatch h) (.mk (Int.fmod_nonneg_of_pos _ hm) (Int.fmod_lt_of_pos _ hm))
/-- a draw, put to use -/
theorem use_draw {news : Led} (bx sl : Addr) (c many : Int) (tc tm : Tok) (kb ks : Nat) (svs : List Value) (sns : List Int) (hc : 0 ≤ c) (hm : 0 < many) (hsl : (sl, listOf svs.toArray ks) ∈ news) (hi : IntsAre svs sns) (hns : sns.length ≤ 63) (hoff : ∀ p ∈ news, p.1 ≠ bx)
    {dp un : Nat} {gd : Option (List Code)} {env : Env} {outer : List Env} {A₀ : Around} {base h₀ : Heap} {L : Addr} {m : Str → Option Value} {s : Shared} {Q E : Value → Shared → Prop}
    (B : Below A₀ base outer h₀) (F : Fr h₀ L s.heap m) (X : (Mine.hd.heap_39 w.params).In h₀) (N : News h₀ L s.heap ((bx, listOf #[.ref sl, .int c tc] kb) :: news)) (T : Top Mine.hd.view_39 (looseW Mine.hd.view_39 [Str.ofString "FIELDS", Str.ofString "KNOWN_ATTRS"]) mean mg mb h₀)
    (hf : env.frame = some L) (hk : env.scope.kind = .function) (hd : dp + 4 < recursionLimit) (hu : un + 8 * 4 < cLine)
    (ret : ∀ k t tc' kb' h' tk', Fr h₀ L h' m → News h₀ L h' ((bx, listOf #[.ref sl, .int (c + 1) tc'] kb') :: news) → 0 ≤ k → k < many → Q (.int k t) { s with heap := h', toks := tk' }) :
    wpAny (model PySem.Challenge.rw_rh0202_01.row.prog w) { handled := none, depth := dp, frames := some (env :: outer), guards := gd, units := un } (call (.ref 149) [.ref bx, .int many tm]) Q E s :=
  useM (law_draw bx sl c many tc tm kb ks svs sns hc hm hsl hi hns hoff) B F X N T hf hk hd hu fun r tl pre' h' tk' _ F N _ e => by
    cases e with
    | mk h1 h2 => exact ret _ _ _ _ h' tk' F N h1 h2
end Mine
end

/-! part Q -/
section
set_option maxRecDepth 100000
set_option maxHeartbeats 8000000
namespace Mine
open PySem PySem.W PyProof.Rows PySem.Spec PySem.Calls




variable {w : World} {mean : ExcName → Option Value} {mg mb : Str → Option Value}

/-- where the world's list of communities stands -/
inductive HeldD (news : Led) (kvs : List (Str × Value)) (l : List Int) : Prop
  | mk (a : Addr) (vs : List Value) (k : Nat) : valueAt kvs (Str.ofString "held") = some (.ref a) → (a, listOf vs.toArray k) ∈ news → IntsAre vs l → HeldD news kvs l

/-- the world of the law, as its dict says it -/
structure WDesc (news : Led) (kvs : List (Str × Value)) (W : AW) : Prop where
  med : ∃ v, valueAt kvs (Str.ofString "med") = some v ∧ ((W.med = none ∧ v = .none) ∨ ∃ m t, W.med = some m ∧ v = .int m t)
  held : HeldD news kvs W.held
  cm : valueAt kvs (Str.ofString "is_marked") = some (.bool W.cm)
  ag : valueAt kvs (Str.ofString "has_maker") = some (.bool W.ag)
  agm : valueAt kvs (Str.ofString "is_maker_marked") = some (.bool W.agm)

/-- a dict of attributes, described by any table -/
structure DescP (news : Led) (kvs : List (Str × Value)) (look : Str → Option VD) : Prop where
  nd : (kvs.map (·.1)).Nodup
  at_ : ∀ k, OptIs news (look k) (valueAt kvs k)


local macro_rules | `(tactic| walk_at "And") => `(tactic| refine Stop.of ?_)
local macro_rules | `(tactic| walk_at "compareOp NotEq ref ref") => `(tactic| refine Stop.of ?_)
local macro_rules | `(tactic| walk_at "call type:tuple") => `(tactic| refine Stop.of ?_)
local macro_rules | `(tactic| walk_at "binaryOp Add ref ref") => `(tactic| refine Stop.of ?_)
local macro_rules | `(tactic| walk_at "exec If") => `(tactic| refine Stop.of ?_)
local macro_rules | `(tactic| walk_at "setItem ref str") => `(tactic| refine Stop.of ?_)
local macro_rules | `(tactic| walk_at "subscriptTail") => `(tactic| ((with_reducible show wpAny _ _ (subscriptTail _ _ (Value.ref _) (Value.str _ _)) _ _ _); refine Stop.of ?_))

/-- between the statements of _law_attrs -/
inductive AInv (prog : Program) (w : World) (wd : Addr) (news : Led) (look : Str → Option VD) (mks : List Str) (i : Nat) (g : Heap) (L : Addr) (h : Heap) : Prop
  | mk (u : Str → Option Value) (fa : Addr) (fo : Obj) (kvs : List (Str × Value)) (ma : Addr) (ms : List Value) (km : Nat) (tlx : Led) : Fr g L h (kstB u [(Str.ofString "world", .ref wd), (Str.ofString "found", .ref fa), (Str.ofString "marks", .ref ma)]) → News g L h ((fa, fo) :: (ma, listOf (List.toArray ms) km) :: (tlx ++ news)) → (∀ p ∈ (ma, listOf (List.toArray ms) km) :: (tlx ++ news), p.1 ≠ fa) →
    (∀ p ∈ news, p.1 < fa) → (∀ p ∈ tlx, ∀ q ∈ news, q.1 < p.1) → fo.IsDictOf (PySem.strKind prog w) kvs → (fa == sysModules) = false → DescP (tlx ++ news) kvs look → StrsAre ms mks → kvs.length ≤ i → AInv prog w wd news look mks i g L h

theorem AInv.elim {prog : Program} {w : World} {wd : Addr} {news : Led} {look : Str → Option VD} {mks : List Str} {i : Nat} {g h : Heap} {L : Addr} {P : Prop} (I : AInv prog w wd news look mks i g L h)
    (k : ∀ u fa fo kvs ma ms km tlx, Fr g L h (kstB u [(Str.ofString "world", .ref wd), (Str.ofString "found", .ref fa), (Str.ofString "marks", .ref ma)]) → News g L h ((fa, fo) :: (ma, listOf (List.toArray ms) km) :: (tlx ++ news)) → (∀ p ∈ (ma, listOf (List.toArray ms) km) :: (tlx ++ news), p.1 ≠ fa) →
      (∀ p ∈ news, p.1 < fa) → (∀ p ∈ tlx, ∀ q ∈ news, q.1 < p.1) → fo.IsDictOf (PySem.strKind prog w) kvs → (fa == sysModules) = false → DescP (tlx ++ news) kvs look → StrsAre ms mks → kvs.length ≤ i → P) : P := by
  cases I with
  | mk u fa fo kvs ma ms km tlx a b c d e f g h i j => exact k u fa fo kvs ma ms km tlx a b c d e f g h i j

theorem cut_if {M : Model} {A : Around} {E : Value → Shared → Prop} {s s₁ : Shared} {g : Heap} {L : Addr} {m : Str → Option Value} {x : Sem Flow} {Q : Flow → Shared → Prop} (_F : Fr g L s₁.heap m) (I : Heap → Addr → Heap → Prop)
    (seg : wpAny M A x (fun f s₂ => f = .next ∧ ∃ h tk, s₂ = { s with heap := h, toks := tk } ∧ I g L h) E s₁) (cont : ∀ h tk, I g L h → Q .next { s with heap := h, toks := tk }) : wpAny M A x Q E s₁ :=
  wpAny_mono seg (fun f s₂ ⟨e, h, tk, e2, i⟩ => by subst e; subst e2; exact cont h tk i) (fun _ _ e => e)

theorem fr_world {g h : Heap} {L wd fa ma : Addr} {m : Str → Option Value} (F : Fr g L h m) (e1 : m (Str.ofString "world") = some (.ref wd)) (e2 : m (Str.ofString "found") = some (.ref fa)) (e3 : m (Str.ofString "marks") = some (.ref ma)) :
    Fr g L h (kstB m [(Str.ofString "world", .ref wd), (Str.ofString "found", .ref fa), (Str.ofString "marks", .ref ma)]) := by
  have e : kstB m [(Str.ofString "world", .ref wd), (Str.ofString "found", .ref fa), (Str.ofString "marks", .ref ma)] = m := by
    funext z
    refine kstB_eq (fun p hp => ?_) fun _ => rfl
    simp only [List.mem_cons, List.not_mem_nil, or_false] at hp
    rcases hp with rfl | rfl | rfl
    · exact e1
    · exact e2
    · exact e3
  rw [e]; exact F

def mk2 (W : AW) : List Str := if (W.ag && W.agm) = true then [Str.ofString "aggregator"] else []
theorem AInv.intro {prog : Program} {w : World} {wd : Addr} {news all : Led} {look : Str → Option VD} {mks : List Str} {i : Nat} {g h : Heap} {L : Addr} {m : Str → Option Value} (F : Fr g L h m) (N : News g L h all) {fa : Addr} {fo : Obj} {kvs : List (Str × Value)} {ma : Addr} {ms : List Value} {km : Nat} (tlx : Led)
    (e1 : m (Str.ofString "world") = some (.ref wd)) (e2 : m (Str.ofString "found") = some (.ref fa)) (e3 : m (Str.ofString "marks") = some (.ref ma)) (hd : fo.IsDictOf (PySem.strKind prog w) kvs) (hs : StrsAre ms mks)
    (sub : ∀ p ∈ (fa, fo) :: (ma, listOf (List.toArray ms) km) :: (tlx ++ news), p ∈ all) (off : ∀ p ∈ (ma, listOf (List.toArray ms) km) :: (tlx ++ news), p.1 ≠ fa)
    (lt : ∀ p ∈ news, p.1 < fa) (lt2 : ∀ p ∈ tlx, ∀ q ∈ news, q.1 < p.1) (lo : (fa == sysModules) = false) (D : DescP (tlx ++ news) kvs look) (hl : kvs.length ≤ i) : AInv prog w wd news look mks i g L h :=
  ⟨m, fa, fo, kvs, ma, ms, km, tlx, fr_world F e1 e2 e3, fun p hp => N p (sub p hp), off, lt, lt2, hd, lo, D, hs, hl⟩

def look0 (k : Str) : Option VD := if k = Str.ofString "origin" then some (.num 0) else none
def look1 (W : AW) (k : Str) : Option VD := if k = Str.ofString "med" then W.med.map .num else look0 k

def look2 (W : AW) (k : Str) : Option VD := if k = Str.ofString "aggregator" then (if W.ag = true then some (.nums [7, 9]) else none) else look1 W k
def look3 (W : AW) (k : Str) : Option VD := if k = Str.ofString "communities" then (if W.held.isEmpty = true then none else some (.nums W.held)) else look2 W k
def mk3 (W : AW) : List Str := mk2 W ++ (if (!W.held.isEmpty && W.cm) = true then [Str.ofString "communities"] else [])
theorem DescP.zero {news : Led} {t : Tok} : DescP news [(Str.ofString "origin", .int 0 t)] look0 := by
  refine ⟨by simp, fun k => ?_⟩
  rw [valueAt_cons]
  unfold look0
  by_cases hk : k = Str.ofString "origin"
  · rw [if_pos hk, if_pos hk]; exact ⟨_, rfl, t, rfl⟩
  · rw [if_neg hk, if_neg hk]; rfl
theorem DescP.skip {news news' : Led} {kvs : List (Str × Value)} {look look' : Str → Option VD} (D : DescP news kvs look) (hs : ∀ p ∈ news, p ∈ news') (h : ∀ k, look' k = look k) : DescP news' kvs look' := ⟨D.nd, fun k => by rw [h]; exact (D.at_ k).mono hs⟩
theorem DescP.store {news news' : Led} {kvs kvs' : List (Str × Value)} {look look' : Str → Option VD} {k₀ : Str} {v : Value} {d : VD} (D : DescP news kvs look) (hs : ∀ p ∈ news, p ∈ news') (hn : (kvs'.map (·.1)).Nodup) (h2 : ∀ k, valueAt kvs' k = if k = k₀ then some v else valueAt kvs k)
    (h : ∀ k, look' k = if k = k₀ then some d else look k) (hd : d.Holds news' v) : DescP news' kvs' look' := by
  refine ⟨hn, fun k => ?_⟩
  rw [h2, h]
  by_cases hk : k = k₀
  · rw [if_pos hk, if_pos hk]; exact ⟨_, rfl, hd⟩
  · rw [if_neg hk, if_neg hk]; exact (D.at_ k).mono hs

theorem AInv.maker {prog : Program} {w : World} {wd : Addr} {news tlx : Led} {W : AW} {kvs kvs' : List (Str × Value)} {i : Nat} {g h h1 : Heap} {L : Addr} {m : Str → Option Value} {fa ma l2 T : Addr} {oz o2 : Obj} {ms : List Value} {k2 : Nat} {t7 t9 : Tok} {n2 : Nat} (F : Fr g L h m)
    (N : News g L h ((l2, listOf (List.toArray ms) k2) :: (T, ({ cls := .type "tuple", data := .seq #[.int 7 t7, .int 9 t9] n2 } : Obj)) :: (fa, oz) :: (ma, o2) :: (tlx ++ news)))
    (hn2 : n2 = 0) (e1 : m (Str.ofString "world") = some (.ref wd)) (e2 : m (Str.ofString "found") = some (.ref fa)) (e3 : m (Str.ofString "marks") = some (.ref l2)) (hs : StrsAre ms (mk2 W)) (hag : W.ag = true)
    (hl2 : @LT.lt Nat _ fa l2) (hT : T = h1.objs.size) (hlf : fa < h1.objs.size) (hlive : ∀ p ∈ news, p.1 < h1.objs.size) (offa : ∀ p ∈ tlx ++ news, p.1 ≠ fa) (lta : ∀ p ∈ news, p.1 < fa) (lt2a : ∀ p ∈ tlx, ∀ q ∈ news, q.1 < p.1)
    (lo : (fa == sysModules) = false) (Da : DescP (tlx ++ news) kvs (look1 W)) (hdz : oz.IsDictOf (PySem.strKind prog w) kvs') (h2 : ∀ k, valueAt kvs' k = if k = Str.ofString "aggregator" then some (.ref T) else valueAt kvs k) (hl : kvs'.length ≤ i) :
    AInv prog w wd news (look2 W) (mk2 W) i g L h := by
  subst hn2
  refine AInv.intro (km := k2) F N ((T, ({ cls := .type "tuple", data := .seq #[.int 7 t7, .int 9 t9] } : Obj)) :: tlx) e1 e2 e3 hdz hs (fun p hp => ?_) (fun p hp => ?_) lta (fun p hp q hq => ?_) lo (Da.store (d := .nums [7, 9]) (fun p hp => List.mem_cons_of_mem _ hp) (dict_nd hdz) h2 (fun k => by unfold look2; rw [hag]; rfl) ⟨T, _, rfl, List.mem_cons_self .., .cons _ _ (.cons _ _ .nil)⟩) hl
  · rcases List.mem_cons.mp hp with rfl | hp
    · exact List.mem_cons_of_mem _ (List.mem_cons_of_mem _ (List.mem_cons_self ..))
    rcases List.mem_cons.mp hp with rfl | hp
    · exact List.mem_cons_self ..
    rcases List.mem_cons.mp hp with rfl | hp
    · exact List.mem_cons_of_mem _ (List.mem_cons_self ..)
    · exact List.mem_cons_of_mem _ (List.mem_cons_of_mem _ (List.mem_cons_of_mem _ (List.mem_cons_of_mem _ hp)))
  · rcases List.mem_cons.mp hp with rfl | hp
    · exact Nat.ne_of_gt hl2
    rcases List.mem_cons.mp hp with rfl | hp
    · rw [hT]; exact Nat.ne_of_gt hlf
    · exact offa p hp
  · rcases List.mem_cons.mp hp with rfl | hp
    · rw [hT]; exact hlive q hq
    · exact lt2a p hp q hq

theorem strs_len2 {vs : List Value} {xs : List Str} (h : StrsAre vs xs) : vs.length = xs.length := by
  induction h with
  | nil => rfl
  | cons _ _ _ ih => simp [ih]
theorem strs_app {a b : List Value} {xs ys : List Str} (h : StrsAre a xs) (k : StrsAre b ys) : StrsAre (a ++ b) (xs ++ ys) := by
  induction h with
  | nil => exact k
  | cons y t _ ih => exact .cons y t ih
theorem AInv.heldc {prog : Program} {w : World} {wd : Addr} {news tlx : Led} {W : AW} {kvs kvs' : List (Str × Value)} {i : Nat} {g h : Heap} {L : Addr} {m : Str → Option Value} {fa ma l1 l2 l3 T : Addr} {oz o0 o1 o2 : Obj} {ms hvs : List Value} {k3 : Nat} (F : Fr g L h m)
    (N : News g L h ((l3, listOf (List.toArray ms) k3) :: (l2, o2) :: (T, ({ cls := .type "tuple", data := .seq hvs.toArray } : Obj)) :: (l1, o1) :: (fa, oz) :: (ma, o0) :: (tlx ++ news)))
    (e1 : m (Str.ofString "world") = some (.ref wd)) (e2 : m (Str.ofString "found") = some (.ref fa)) (e3 : m (Str.ofString "marks") = some (.ref l3)) (hs : StrsAre ms (mk3 W)) (hhe : W.held.isEmpty = false) (hih : IntsAre hvs W.held)
    (hl3 : @LT.lt Nat _ fa l3) (hT : @LT.lt Nat _ fa T) (hTn : ∀ p ∈ news, p.1 < T) (offa : ∀ p ∈ tlx ++ news, p.1 ≠ fa) (lta : ∀ p ∈ news, p.1 < fa) (lt2a : ∀ p ∈ tlx, ∀ q ∈ news, q.1 < p.1)
    (lo : (fa == sysModules) = false) (Da : DescP (tlx ++ news) kvs (look2 W)) (hdz : oz.IsDictOf (PySem.strKind prog w) kvs') (h2 : ∀ k, valueAt kvs' k = if k = Str.ofString "communities" then some (.ref T) else valueAt kvs k) (hl : kvs'.length ≤ i) :
    AInv prog w wd news (look3 W) (mk3 W) i g L h := by
  refine AInv.intro (km := k3) F N ((T, ({ cls := .type "tuple", data := .seq hvs.toArray } : Obj)) :: tlx) e1 e2 e3 hdz hs (fun p hp => ?_) (fun p hp => ?_) lta (fun p hp q hq => ?_) lo (Da.store (d := .nums W.held) (fun p hp => List.mem_cons_of_mem _ hp) (dict_nd hdz) h2 (fun k => by unfold look3; rw [hhe]; rfl) ⟨T, _, rfl, List.mem_cons_self .., hih⟩) hl
  · rcases List.mem_cons.mp hp with rfl | hp
    · exact List.mem_cons_of_mem _ (List.mem_cons_of_mem _ (List.mem_cons_of_mem _ (List.mem_cons_of_mem _ (List.mem_cons_self ..))))
    rcases List.mem_cons.mp hp with rfl | hp
    · exact List.mem_cons_self ..
    rcases List.mem_cons.mp hp with rfl | hp
    · exact List.mem_cons_of_mem _ (List.mem_cons_of_mem _ (List.mem_cons_self ..))
    · exact List.mem_cons_of_mem _ (List.mem_cons_of_mem _ (List.mem_cons_of_mem _ (List.mem_cons_of_mem _ (List.mem_cons_of_mem _ (List.mem_cons_of_mem _ hp)))))
  · rcases List.mem_cons.mp hp with rfl | hp
    · exact Nat.ne_of_gt hl3
    rcases List.mem_cons.mp hp with rfl | hp
    · exact Nat.ne_of_gt hT
    · exact offa p hp
  · rcases List.mem_cons.mp hp with rfl | hp
    · exact hTn q hq
    · exact lt2a p hp q hq

theorem mk3_ok (W : AW) : ∀ x ∈ mk3 W, PyData.strOk x = true := by
  unfold mk3 mk2; split <;> split <;> decide +kernel
theorem mk3_len (W : AW) : (mk3 W).length ≤ 2 := by
  unfold mk3 mk2; split <;> split <;> decide
theorem mk2_len (W : AW) : (mk2 W).length ≤ 1 := by
  unfold mk2; split <;> decide
theorem look_last {W : AW} (k : Str) : W.look k = if k = Str.ofString "partial" then (if (mk3 W).isEmpty = true then none else some (.txts (mk3 W))) else look3 W k := by
  show W.look k = if k = Str.ofString "partial" then (if W.marks.isEmpty = true then none else some (.txts W.marks)) else look3 W k
  unfold AW.look look3 look2 look1 look0
  by_cases h1 : k = Str.ofString "origin"
  · subst h1; rfl
  by_cases h2 : k = Str.ofString "med"
  · subst h2; rfl
  by_cases h3 : k = Str.ofString "aggregator"
  · subst h3; rfl
  by_cases h4 : k = Str.ofString "communities"
  · subst h4; rfl
  simp only [if_neg h1, if_neg h2, if_neg h3, if_neg h4]
theorem AInv.part {prog : Program} {w : World} {wd : Addr} {news tlx : Led} {W : AW} {kvs kvs' : List (Str × Value)} {i : Nat} {g h : Heap} {L : Addr} {m : Str → Option Value} {fa ma l1 T : Addr} {oz o1 : Obj} {ms hvs : List Value} {km : Nat} (F : Fr g L h m)
    (N : News g L h ((T, ({ cls := .type "tuple", data := .seq hvs.toArray } : Obj)) :: (l1, o1) :: (fa, oz) :: (ma, listOf ms.toArray km) :: (tlx ++ news)))
    (e1 : m (Str.ofString "world") = some (.ref wd)) (e2 : m (Str.ofString "found") = some (.ref fa)) (e3 : m (Str.ofString "marks") = some (.ref ma)) (hs : StrsAre ms (mk3 W)) (hne : (mk3 W).isEmpty = false) (hih : StrsAre hvs (mk3 W))
    (hT : @LT.lt Nat _ fa T) (hTn : ∀ p ∈ news, p.1 < T) (offa : ∀ p ∈ (ma, listOf ms.toArray km) :: (tlx ++ news), p.1 ≠ fa) (lta : ∀ p ∈ news, p.1 < fa) (lt2a : ∀ p ∈ tlx, ∀ q ∈ news, q.1 < p.1)
    (lo : (fa == sysModules) = false) (Da : DescP (tlx ++ news) kvs (look3 W)) (hdz : oz.IsDictOf (PySem.strKind prog w) kvs') (h2 : ∀ k, valueAt kvs' k = if k = Str.ofString "partial" then some (.ref T) else valueAt kvs k) (hl : kvs'.length ≤ i) :
    AInv prog w wd news W.look (mk3 W) i g L h := by
  refine AInv.intro (km := km) F N ((T, ({ cls := .type "tuple", data := .seq hvs.toArray } : Obj)) :: tlx) e1 e2 e3 hdz hs (fun p hp => ?_) (fun p hp => ?_) lta (fun p hp q hq => ?_) lo (Da.store (d := .txts (mk3 W)) (fun p hp => List.mem_cons_of_mem _ hp) (dict_nd hdz) h2 (fun k => by rw [look_last, hne]; rfl) ⟨T, _, rfl, List.mem_cons_self .., hih⟩) hl
  · rcases List.mem_cons.mp hp with rfl | hp
    · exact List.mem_cons_of_mem _ (List.mem_cons_of_mem _ (List.mem_cons_self ..))
    rcases List.mem_cons.mp hp with rfl | hp
    · exact List.mem_cons_of_mem _ (List.mem_cons_of_mem _ (List.mem_cons_of_mem _ (List.mem_cons_self ..)))
    rcases List.mem_cons.mp hp with rfl | hp
    · exact List.mem_cons_self ..
    · exact List.mem_cons_of_mem _ (List.mem_cons_of_mem _ (List.mem_cons_of_mem _ (List.mem_cons_of_mem _ hp)))
  · rcases List.mem_cons.mp hp with rfl | hp
    · exact offa _ (List.mem_cons_self ..)
    rcases List.mem_cons.mp hp with rfl | hp
    · exact Nat.ne_of_gt hT
    · exact offa p (List.mem_cons_of_mem _ hp)
  · rcases List.mem_cons.mp hp with rfl | hp
    · exact hTn q hq
    · exact lt2a p hp q hq

theorem law_attrs {news : Led} (W : AW) (ok : W.Ok) (wd : Addr) (oW : Obj) (kvsW : List (Str × Value)) (hd : (wd, oW) ∈ news) (hD : oW.IsDictOf (PySem.strKind (PySem.Challenge.rw_rh0202_01.row.prog) w) kvsW) (lo : (wd == sysModules) = false) (D : WDesc news kvsW W) :
    Gives w mean mg mb 20 156 news [.ref wd] (NewDict PySem.Challenge.rw_rh0202_01.row.prog w news W) := by
  unfold Gives
  k_fill
  intro dp un gd env outer A₀ base h₀ L m s Q E B F X N T hf hke hdp hu hret
  refine wpAny_call ?_
  k_dflt (first | (refine' enterP ?k1 ?k2 ?k3 ?k4 ?k5 ?kA ?kF ?kK ?k6 ?k7 ?k8 ?k9 ?kB ?_ ?c2 ?c3 ?c4 ?c5; (case kA => exact rfl); (case kF => first | exact rfl | assumption); (case kK => first | exact rfl | assumption); (case k1 => k_asm); (case k2 => k_asm); (case k3 => k_asm); (case k4 => k_asm); (case k5 => k_asm); (case k6 => k_is); (case k7 => k_is); (case k8 => (first | exact room_at (by assumption) | ktr_room)); (case k9 => exact BindsTo.of_eq rfl); (case c5 => decide); (case kB => exact locs rfl); (case c2 => exact rfl); (case c3 => exact rfl); (case c4 => exact rfl); k_whole; intro g' L' h' FG' F' N' B' X' T' kG' l1; (try k_lt l1); (try dsimp only); (try k_lift B'); (try k_fold)) | (refine' enterC ?k1 ?k2 ?k3 ?k4 ?k5 ?kA ?kF ?kK ?k6 ?k7 ?k8 ?k9 ?kB ?kD ?_ ?c2 ?c3 ?c4; (case kA => exact rfl); (case kF => first | exact rfl | assumption); (case kK => first | exact rfl | assumption); (case k1 => k_asm); (case k2 => k_asm); (case k3 => k_asm); (case k4 => k_asm); (case k5 => k_asm); (case k6 => k_is); (case k7 => k_is); (case k8 => (first | exact room_at (by assumption) | ktr_room)); (case k9 => exact BindsTo.of_eq rfl); (case kB => exact rfl); (case kD => decide +kernel); (case c2 => exact rfl); (case c3 => exact rfl); (case c4 => exact rfl); k_whole; intro g' L' h' tk' cells' FG' F' N' Y' B' X' T' kG' l1; (try k_lt l1); k_cells Y'; (try simp only [List.cons_append, List.nil_append] at N'); (try dsimp only); (try k_lift B'); (try k_fold)))
  rename ∀ p ∈ news, p.1 < _ => hnl
  repeat (first | (k_unfold; (try dsimp only)) | walk1 | (dsimp only; walk1))
  refine Stop.go ?_
  k_dflt (refine cut_if (s := s) (by k_asm) (AInv PySem.Challenge.rw_rh0202_01.row.prog w wd news (look1 W) [] 2) ?seg ?cont)
  case seg =>
    refine wpAny_If ?_
    repeat (first | (k_unfold; (try dsimp only)) | walk1 | (dsimp only; walk1))
    refine Stop.go ?_
    obtain ⟨mv, hmv, hmc⟩ := D.med
    k_dflt (refine kda_item (knd := PySem.strKind _ _) (by k_asm) (by k_mem) hD (strKind_is _ _ _ _) hmv ?_)
    rcases hmc with ⟨hm1, rfl⟩ | ⟨mm, mt, hm1, rfl⟩
    · repeat (first | (k_unfold; (try dsimp only)) | walk1 | (dsimp only; walk1))
      rename News _ _ _ _ => Nq
      refine Stop.go ⟨rfl, _, _, rfl, AInv.intro (ms := []) (km := 0) (by assumption) Nq [] rfl rfl rfl (by assumption) .nil (fun p hp => ?sub) (fun p hp => ?off) (by assumption) (fun _ h => nomatch h) (by assumption) (DescP.zero.skip (fun p hp => hp) fun k => ?lk) (Nat.le_succ 1)⟩
      case sub => rcases List.mem_cons.mp hp with rfl | hp
                  · k_mem
                  rcases List.mem_cons.mp hp with rfl | hp
                  · k_mem
                  · exact List.mem_cons_of_mem _ (List.mem_cons_of_mem _ (List.mem_cons_of_mem _ hp))
      case off => rcases List.mem_cons.mp hp with rfl | hp
                  · exact (by first | exact pick1 (by assumption) | exact pick2 (by assumption) | exact pick3 (by assumption) | exact pick4 (by assumption) | exact pick5 (by assumption) | exact pick6 (by assumption) | exact pick7 (by assumption) | exact pick8 (by assumption) | k_ne)
                  · exact Nat.ne_of_lt ((by assumption : ∀ p ∈ news, p.1 < _) p hp)
      case lk => unfold look1; rw [hm1]; split
                 · rename_i hk; rw [hk]; rfl
                 · rfl
    · repeat (first | (k_unfold; (try dsimp only)) | walk1 | (dsimp only; walk1))
      refine Stop.go ?_
      k_dflt (refine kda_item (knd := PySem.strKind _ _) (by k_asm) (by k_mem) hD (strKind_is _ _ _ _) hmv ?_)
      repeat (first | (k_unfold; (try dsimp only)) | walk1 | (dsimp only; walk1))
      refine Stop.go ?_
      rename News _ _ _ _ => Nv
      k_dflt (refine kda_set (knd := PySem.strKind _ _) (by k_asm) Nv (.tail (by first | exact pick1 (by assumption) | exact pick2 (by assumption) | exact pick3 (by assumption) | exact pick4 (by assumption) | exact pick5 (by assumption) | exact pick6 (by assumption) | exact pick7 (by assumption) | exact pick8 (by assumption) | k_ne) (.tail (by first | exact pick1 (by assumption) | exact pick2 (by assumption) | exact pick3 (by assumption) | exact pick4 (by assumption) | exact pick5 (by assumption) | exact pick6 (by assumption) | exact pick7 (by assumption) | exact pick8 (by assumption) | k_ne) (.head (by assumption)))) (by assumption) (strKind_is _ _ _ _) (by rw [sizeLine_eq]; exact Nat.le_of_ble_eq_true rfl) ?_)
      intro hz oz Fz Nz hdz
      repeat (first | (k_unfold; (try dsimp only)) | walk1 | (dsimp only; walk1))
      rename News _ _ _ _ => Nq
      refine Stop.go ⟨rfl, _, _, rfl, AInv.intro (ms := []) (km := 0) (by assumption) Nq [] rfl rfl rfl hdz .nil (fun p hp => ?sub) (fun p hp => ?off) (by assumption) (fun _ h => nomatch h) (by assumption) (DescP.zero.store (d := .num mm) (fun p hp => hp) (dict_nd hdz) (fun k => valueAt_stored ..) (fun k => ?lk) ⟨mt, rfl⟩) (Nat.le_refl 2)⟩
      case sub => rcases List.mem_cons.mp hp with rfl | hp
                  · k_mem
                  rcases List.mem_cons.mp hp with rfl | hp
                  · k_mem
                  · exact List.mem_cons_of_mem _ (List.mem_cons_of_mem _ (List.mem_cons_of_mem _ hp))
      case off => rcases List.mem_cons.mp hp with rfl | hp
                  · exact (by first | exact pick1 (by assumption) | exact pick2 (by assumption) | exact pick3 (by assumption) | exact pick4 (by assumption) | exact pick5 (by assumption) | exact pick6 (by assumption) | exact pick7 (by assumption) | exact pick8 (by assumption) | k_ne)
                  · exact Nat.ne_of_lt ((by assumption : ∀ p ∈ news, p.1 < _) p hp)
      case lk => unfold look1; rw [hm1]; rfl
  case cont =>
    intro h1 tk1 I1
    refine AInv.elim I1 fun u fa fo kvs ma ms km tlx Fa Na offa lta lt2a hda loa Da hsa hla => ?_
    have hlive : ∀ p ∈ (fa, fo) :: (ma, listOf (List.toArray ms) km) :: (tlx ++ news), p.1 < h1.objs.size := fun p hp => Heap.lt_size (Na p hp).1
    dsimp only
    repeat (first | (k_unfold; (try dsimp only)) | walk1 | (dsimp only; walk1))
    refine Stop.go ?_
    cases hsa
    k_dflt (refine cut_if (s := s) (by k_asm) (AInv PySem.Challenge.rw_rh0202_01.row.prog w wd news (look2 W) (mk2 W) 3) ?seg ?cont)
    case seg =>
      refine wpAny_If ?_
      repeat (first | (k_unfold; (try dsimp only)) | walk1 | (dsimp only; walk1))
      refine Stop.go ?_
      cases hag : W.ag with
      | false =>
        k_dflt (refine kda_item (knd := PySem.strKind _ _) (by k_asm) (by k_mem) hD (strKind_is _ _ _ _) (by rw [D.ag, hag]) ?_)
        repeat (first | (k_unfold; (try dsimp only)) | walk1 | (dsimp only; walk1))
        rename News _ _ _ _ => Nq
        exact Stop.go ⟨rfl, _, _, rfl, AInv.intro (ms := []) (km := km) (by assumption) Nq tlx rfl rfl rfl hda (by unfold mk2; rw [hag]; exact .nil) (fun p hp => hp) offa lta lt2a loa (Da.skip (fun p hp => hp) fun k => by unfold look2; rw [hag]; split; (rename_i hk; rw [hk]; rfl); rfl) (Nat.le_succ_of_le hla)⟩
      | true =>
        k_dflt (refine kda_item (knd := PySem.strKind _ _) (by k_asm) (by k_mem) hD (strKind_is _ _ _ _) (by rw [D.ag, hag]) ?_)
        repeat (first | (k_unfold; (try dsimp only)) | walk1 | (dsimp only; walk1))
        refine Stop.go ?_
        rename News _ _ _ _ => Nv
        k_dflt (refine kda_set (knd := PySem.strKind _ _) (by k_asm) Nv (.tail (Nat.ne_of_gt (hlive _ (List.mem_cons_self ..))) (.head offa)) hda (strKind_is _ _ _ _) (Nat.le_trans hla (by rw [sizeLine_eq]; exact Nat.le_of_ble_eq_true rfl)) ?_)
        intro hz oz Fz Nz hdz
        repeat (first | (k_unfold; (try dsimp only)) | walk1 | (dsimp only; walk1))
        refine Stop.go ?_
        cases hagm : W.agm
        · -- not marked
          k_dflt (refine kda_item (knd := PySem.strKind _ _) (by k_asm) (by k_mem) hD (strKind_is _ _ _ _) (by rw [D.agm, hagm]) ?_)
          repeat (first | (k_unfold; (try dsimp only)) | walk1 | (dsimp only; walk1))
          rename News _ _ _ _ => Nq
          exact Stop.go ⟨rfl, _, _, rfl, AInv.maker (h1 := h1) (by assumption) Nq rfl rfl rfl rfl (by rw [show mk2 W = [] from by unfold mk2; rw [hag, hagm]; rfl]; exact .nil) hag (by first | exact gt1 (by assumption) | exact gt2 (by assumption) | exact gt3 (by assumption) | exact gt4 (by assumption) | exact gt5 (by assumption) | exact gt6 (by assumption) | exact gt7 (by assumption) | exact gt8 (by assumption) | omega) rfl (hlive _ (List.mem_cons_self ..)) (fun p hp => hlive p (List.mem_cons_of_mem _ (List.mem_cons_of_mem _ (List.mem_append_right _ hp)))) (fun p hp => offa p (List.mem_cons_of_mem _ hp)) lta lt2a loa Da hdz (fun k => valueAt_stored ..) (Nat.le_trans (stored_length_le ..) (Nat.succ_le_succ hla))⟩
        · -- marked
          k_dflt (refine kda_item (knd := PySem.strKind _ _) (by k_asm) (by k_mem) hD (strKind_is _ _ _ _) (by rw [D.agm, hagm]) ?_)
          repeat (first | (k_unfold; (try dsimp only)) | walk1 | (dsimp only; walk1))
          rename News _ _ _ _ => Nq
          exact Stop.go ⟨rfl, _, _, rfl, AInv.maker (h1 := h1) (by assumption) Nq rfl rfl rfl rfl (by rw [show mk2 W = [Str.ofString "aggregator"] from by unfold mk2; rw [hag, hagm]; rfl]; exact (.cons _ _ .nil)) hag (by first | exact gt1 (by assumption) | exact gt2 (by assumption) | exact gt3 (by assumption) | exact gt4 (by assumption) | exact gt5 (by assumption) | exact gt6 (by assumption) | exact gt7 (by assumption) | exact gt8 (by assumption) | omega) rfl (hlive _ (List.mem_cons_self ..)) (fun p hp => hlive p (List.mem_cons_of_mem _ (List.mem_cons_of_mem _ (List.mem_append_right _ hp)))) (fun p hp => offa p (List.mem_cons_of_mem _ hp)) lta lt2a loa Da hdz (fun k => valueAt_stored ..) (Nat.le_trans (stored_length_le ..) (Nat.succ_le_succ hla))⟩
    case cont =>
      intro h2 tk2 I2
      refine AInv.elim I2 fun u fa fo kvs ma ms km tlx Fa Na offa lta lt2a hda loa Da hsa hla => ?_
      have hlive : ∀ p ∈ (fa, fo) :: (ma, listOf (List.toArray ms) km) :: (tlx ++ news), p.1 < h2.objs.size := fun p hp => Heap.lt_size (Na p hp).1
      dsimp only
      repeat (first | (k_unfold; (try dsimp only)) | walk1 | (dsimp only; walk1))
      refine Stop.go ?_
      obtain ⟨ha, hvs, hk, hva, hma, hia⟩ := D.held
      k_dflt (refine cut_if (s := s) (by k_asm) (AInv PySem.Challenge.rw_rh0202_01.row.prog w wd news (look3 W) (mk3 W) 4) ?seg ?cont)
      case seg =>
        refine wpAny_If ?_
        repeat (first | (k_unfold; (try dsimp only)) | walk1 | (dsimp only; walk1))
        refine Stop.go ?_
        k_dflt (refine kda_item (knd := PySem.strKind _ _) (by k_asm) (by k_mem) hD (strKind_is _ _ _ _) hva ?_)
        repeat (first | (k_unfold; (try dsimp only)) | walk1 | (dsimp only; walk1))
        refine Stop.go ?_
        rename News _ _ _ _ => Nb
        k_dflt (refine ke_ne_ints (News.isList Nb (by k_mem)) (News.isList Nb (List.mem_cons_self ..)) hia IntsAre.nil (units_ne hu (Nat.le_of_ble_eq_true rfl)) ?_)
        cases hhe : W.held with
        | nil =>
          rw [decide_eq_true rfl]
          dsimp only [Bool.not_true]
          repeat (first | (k_unfold; (try dsimp only)) | walk1 | (dsimp only; walk1))
          rename News _ _ _ _ => Nq
          exact Stop.go ⟨rfl, _, _, rfl, AInv.intro (ms := ms) (km := km) (by assumption) Nq tlx rfl rfl rfl hda (by rw [show mk3 W = mk2 W from by unfold mk3; rw [hhe]; simp]; exact hsa) (fun p hp => List.mem_cons_of_mem _ hp) offa lta lt2a loa (Da.skip (fun p hp => hp) fun k => by unfold look3; rw [hhe]; split; (rename_i hk; rw [hk]; rfl); rfl) (Nat.le_succ_of_le hla)⟩
        | cons hx hr =>
          rw [decide_eq_false (List.cons_ne_nil _ _)]
          dsimp only [Bool.not_false]
          repeat (first | (k_unfold; (try dsimp only)) | walk1 | (dsimp only; walk1))
          refine Stop.go ?_
          k_dflt (refine kda_item (knd := PySem.strKind _ _) (by k_asm) (by k_mem) hD (strKind_is _ _ _ _) hva ?_)
          repeat (first | (k_unfold; (try dsimp only)) | walk1 | (dsimp only; walk1))
          refine Stop.go ?_
          have hlenh := ok.len
          rename News _ _ _ _ => Nb
          k_dflt (refine kde_tupleOf (by k_asm) (by k_asm) (News.isList Nb (by k_mem)) (Nat.le_trans (Nat.le_of_eq hia.length) (Nat.le_trans hlenh (by decide))) rfl ?_)
          intro T hT FT NT ltT
          have ltT' := ltT
          k_lt ltT
          repeat (first | (k_unfold; (try dsimp only)) | walk1 | (dsimp only; walk1))
          refine Stop.go ?_
          rename News _ _ _ _ => Nv
          k_dflt (refine kda_set (knd := PySem.strKind _ _) (by k_asm) Nv (.tail (by first | exact pick1 (by assumption) | exact pick2 (by assumption) | exact pick3 (by assumption) | exact pick4 (by assumption) | exact pick5 (by assumption) | exact pick6 (by assumption) | exact pick7 (by assumption) | exact pick8 (by assumption) | k_ne) (.tail (by first | exact pick1 (by assumption) | exact pick2 (by assumption) | exact pick3 (by assumption) | exact pick4 (by assumption) | exact pick5 (by assumption) | exact pick6 (by assumption) | exact pick7 (by assumption) | exact pick8 (by assumption) | k_ne) (.head offa))) hda (strKind_is _ _ _ _) (Nat.le_trans hla (by rw [sizeLine_eq]; exact Nat.le_of_ble_eq_true rfl)) ?_)
          intro hz oz Fz Nz hdz
          repeat (first | (k_unfold; (try dsimp only)) | walk1 | (dsimp only; walk1))
          refine Stop.go ?_
          cases hcm : W.cm
          · k_dflt (refine kda_item (knd := PySem.strKind _ _) (by k_asm) (by k_mem) hD (strKind_is _ _ _ _) (by rw [D.cm, hcm]) ?_)
            repeat (first | (k_unfold; (try dsimp only)) | walk1 | (dsimp only; walk1))
            refine Stop.go ?_
            rename News _ _ _ _ => Nw
            k_dflt (refine kmk_add_lit (by k_asm) (by k_asm) (News.isList Nw (by k_mem)) (News.isList Nw (by k_mem)) rfl ?_ (le_size (Nat.add_le_add_right (Nat.le_trans (Nat.le_of_eq (strs_len2 hsa)) (mk2_len W)) 0) (by decide)))
            intro l3 h3 F3 N3 lt3
            have lt3' := lt3
            repeat (first | (k_unfold; (try dsimp only)) | walk1 | (dsimp only; walk1))
            rename News _ _ _ _ => Nq
            exact Stop.go ⟨rfl, _, _, rfl, AInv.heldc (by assumption) Nq rfl rfl rfl (by unfold mk3; rw [hhe, hcm]; exact strs_app hsa .nil) (by rw [hhe]; rfl) hia (lt3' (fa, oz) (by k_mem)) (by first | exact gt1 (by assumption) | exact gt2 (by assumption) | exact gt3 (by assumption) | exact gt4 (by assumption) | exact gt5 (by assumption) | exact gt6 (by assumption) | exact gt7 (by assumption) | exact gt8 (by assumption) | omega) (fun p hp => ltT' p (by repeat (first | exact hp | apply List.mem_cons_of_mem | (refine List.mem_append_right _ ?_)))) (fun p hp => offa p (List.mem_cons_of_mem _ hp)) lta lt2a loa Da hdz (fun k => valueAt_stored ..) (Nat.le_trans (stored_length_le ..) (Nat.succ_le_succ hla))⟩
          · k_dflt (refine kda_item (knd := PySem.strKind _ _) (by k_asm) (by k_mem) hD (strKind_is _ _ _ _) (by rw [D.cm, hcm]) ?_)
            repeat (first | (k_unfold; (try dsimp only)) | walk1 | (dsimp only; walk1))
            refine Stop.go ?_
            rename News _ _ _ _ => Nw
            k_dflt (refine kmk_add_lit (by k_asm) (by k_asm) (News.isList Nw (by k_mem)) (News.isList Nw (by k_mem)) rfl ?_ (le_size (Nat.add_le_add_right (Nat.le_trans (Nat.le_of_eq (strs_len2 hsa)) (mk2_len W)) 1) (by decide)))
            intro l3 h3 F3 N3 lt3
            have lt3' := lt3
            repeat (first | (k_unfold; (try dsimp only)) | walk1 | (dsimp only; walk1))
            rename News _ _ _ _ => Nq
            exact Stop.go ⟨rfl, _, _, rfl, AInv.heldc (by assumption) Nq rfl rfl rfl (by unfold mk3; rw [hhe, hcm]; exact strs_app hsa (.cons _ _ .nil)) (by rw [hhe]; rfl) hia (lt3' (fa, oz) (by k_mem)) (by first | exact gt1 (by assumption) | exact gt2 (by assumption) | exact gt3 (by assumption) | exact gt4 (by assumption) | exact gt5 (by assumption) | exact gt6 (by assumption) | exact gt7 (by assumption) | exact gt8 (by assumption) | omega) (fun p hp => ltT' p (by repeat (first | exact hp | apply List.mem_cons_of_mem | (refine List.mem_append_right _ ?_)))) (fun p hp => offa p (List.mem_cons_of_mem _ hp)) lta lt2a loa Da hdz (fun k => valueAt_stored ..) (Nat.le_trans (stored_length_le ..) (Nat.succ_le_succ hla))⟩
      case cont =>
        intro h3 tk3 I3
        refine AInv.elim I3 fun u fa fo kvs ma ms km tlx Fa Na offa lta lt2a hda loa Da hsa hla => ?_
        have hlive : ∀ p ∈ (fa, fo) :: (ma, listOf (List.toArray ms) km) :: (tlx ++ news), p.1 < h3.objs.size := fun p hp => Heap.lt_size (Na p hp).1
        dsimp only
        repeat (first | (k_unfold; (try dsimp only)) | walk1 | (dsimp only; walk1))
        refine Stop.go ?_
        k_dflt (refine cut_if (s := s) (by k_asm) (AInv PySem.Challenge.rw_rh0202_01.row.prog w wd news W.look (mk3 W) 5) ?seg ?cont)
        case seg =>
          refine wpAny_If ?_
          repeat (first | (k_unfold; (try dsimp only)) | walk1 | (dsimp only; walk1))
          refine Stop.go ?_
          rename News _ _ _ _ => Nb
          k_dflt (refine strs_ne (News.isList Nb (by k_mem)) (News.isList Nb (List.mem_cons_self ..)) hsa (mk3_ok W) (units_ne hu (Nat.le_of_ble_eq_true rfl)) ?_)
          cases hm0 : (mk3 W).isEmpty with
          | true =>
            dsimp only [Bool.not_true]
            repeat (first | (k_unfold; (try dsimp only)) | walk1 | (dsimp only; walk1))
            rename News _ _ _ _ => Nq
            exact Stop.go ⟨rfl, _, _, rfl, AInv.intro (ms := ms) (km := km) (by assumption) Nq tlx rfl rfl rfl hda hsa (fun p hp => List.mem_cons_of_mem _ hp) offa lta lt2a loa (Da.skip (fun p hp => hp) fun k => by rw [look_last, hm0]; split; (rename_i hk; rw [hk]; rfl); rfl) (Nat.le_succ_of_le hla)⟩
          | false =>
            dsimp only [Bool.not_false]
            repeat (first | (k_unfold; (try dsimp only)) | walk1 | (dsimp only; walk1))
            refine Stop.go ?_
            rename News _ _ _ _ => Nb
            k_dflt (refine kde_tupleOf (by k_asm) (by k_asm) (News.isList Nb (by k_mem)) (Nat.le_trans (Nat.le_trans (Nat.le_of_eq (strs_len2 hsa)) (mk3_len W)) (by decide)) rfl ?_)
            intro T hT FT NT ltT
            have ltT' := ltT
            k_lt ltT
            repeat (first | (k_unfold; (try dsimp only)) | walk1 | (dsimp only; walk1))
            refine Stop.go ?_
            rename News _ _ _ _ => Nv
            k_dflt (refine kda_set (knd := PySem.strKind _ _) (by k_asm) Nv (.tail (by first | exact pick1 (by assumption) | exact pick2 (by assumption) | exact pick3 (by assumption) | exact pick4 (by assumption) | exact pick5 (by assumption) | exact pick6 (by assumption) | exact pick7 (by assumption) | exact pick8 (by assumption) | k_ne) (.tail (by first | exact pick1 (by assumption) | exact pick2 (by assumption) | exact pick3 (by assumption) | exact pick4 (by assumption) | exact pick5 (by assumption) | exact pick6 (by assumption) | exact pick7 (by assumption) | exact pick8 (by assumption) | k_ne) (.head offa))) hda (strKind_is _ _ _ _) (Nat.le_trans hla (by rw [sizeLine_eq]; exact Nat.le_of_ble_eq_true rfl)) ?_)
            intro hz oz Fz Nz hdz
            repeat (first | (k_unfold; (try dsimp only)) | walk1 | (dsimp only; walk1))
            rename News _ _ _ _ => Nq
            exact Stop.go ⟨rfl, _, _, rfl, AInv.part (by assumption) Nq rfl rfl rfl hsa hm0 hsa (by first | exact gt1 (by assumption) | exact gt2 (by assumption) | exact gt3 (by assumption) | exact gt4 (by assumption) | exact gt5 (by assumption) | exact gt6 (by assumption) | exact gt7 (by assumption) | exact gt8 (by assumption) | omega) (fun p hp => ltT' p (by repeat (first | exact hp | apply List.mem_cons_of_mem | (refine List.mem_append_right _ ?_)))) offa lta lt2a loa Da hdz (fun k => valueAt_stored ..) (Nat.le_trans (stored_length_le ..) (Nat.succ_le_succ hla))⟩
        case cont =>
          intro h4 tk4 I4
          refine AInv.elim I4 fun u fa fo kvs ma ms km tlx Fa Na offa lta lt2a hda loa Da hsa hla => ?_
          dsimp only
          repeat (first | (k_unfold; (try dsimp only)) | walk1 | (dsimp only; walk1))
          refine give hret N (by assumption) (by assumption) (by assumption) (by assumption) (by assumption) ((fa, fo) :: tlx) (fun p hp => ?_) (fun p hp q hq => ?_) ⟨List.mem_cons_self .., hda, loa, ⟨Da.nd, fun k => (Da.at_ k).mono fun p hp => List.mem_cons_of_mem _ hp⟩⟩
          · rcases List.mem_cons.mp hp with rfl | hp
            · exact List.mem_cons_self ..
            · exact List.mem_cons_of_mem _ (List.mem_cons_of_mem _ hp)
          · rcases List.mem_cons.mp hp with rfl | hp
            · exact lta q hq
            · exact lt2a p hp q hq
end Mine
end

/-! part R -/
section
set_option maxRecDepth 100000
set_option maxHeartbeats 8000000
namespace Mine
open PySem PySem.W PyProof.Rows PySem.Spec PySem.Calls




variable {w : World} {mean : ExcName → Option Value} {mg mb : Str → Option Value}


local macro_rules | `(tactic| walk_at "compareOp NotEq ref ref") => `(tactic| refine Stop.of ?_)
local macro_rules | `(tactic| walk_at "call type:bytes") => `(tactic| refine Stop.of ?_)
local macro_rules | `(tactic| walk_at "binaryOp Add bytes bytes") => `(tactic| refine Stop.of ?_)
local macro_rules | `(tactic| walk_at "And") => `(tactic| refine Stop.of ?_)
local macro_rules | `(tactic| walk_at "exec If") => `(tactic| refine Stop.of ?_)
local macro_rules | `(tactic| walk_at "eval IfExp") => `(tactic| refine Stop.of ?_)
local macro_rules | `(tactic| walk_at "exec For") => `(tactic| refine Stop.of ?_)
local macro_rules | `(tactic| walk_at "exec For Name Subscript cons nil") => `(tactic| refine Stop.of ?_)
local macro_rules | `(tactic| walk_at "pyIter ref") => `(tactic| refine Stop.of ?_)
local macro_rules | `(tactic| walk_at "UnrEnd") => `(tactic| refine Stop.of ?_)
local macro_rules | `(tactic| walk_at "call builtin:len") => `(tactic| refine Stop.of ?_)
local macro_rules | `(tactic| walk_at "subscriptTail") => `(tactic| ((with_reducible show wpAny _ _ (subscriptTail _ _ (Value.ref _) (Value.str _ _)) _ _ _); refine Stop.of ?_))

/-- between the statements of _law_octets -/
inductive OInv (wd : Addr) (news : Led) (X : List Int) (g : Heap) (L : Addr) (h : Heap) : Prop
  | mk (u : Str → Option Value) (t : Tok) : Fr g L h (kstB u [(Str.ofString "world", .ref wd), (Str.ofString "found", .bytes (byteArr X) t)]) → News g L h news → OInv wd news X g L h
theorem OInv.elim {wd : Addr} {news : Led} {X : List Int} {g : Heap} {L : Addr} {h : Heap} {P : Prop} (I : OInv wd news X g L h) (k : ∀ u t, Fr g L h (kstB u [(Str.ofString "world", .ref wd), (Str.ofString "found", .bytes (byteArr X) t)]) → News g L h news → P) : P := by
  cases I with
  | mk u t F N => exact k u t F N
theorem OInv.intro {wd : Addr} {news all : Led} {X Y : List Int} {g : Heap} {L : Addr} {h : Heap} {m : Str → Option Value} {t : Tok} (F : Fr g L h m) (N : News g L h all) (e1 : m (Str.ofString "world") = some (.ref wd)) (e2 : m (Str.ofString "found") = some (.bytes (byteArr X) t)) (e : X = Y) (sub : ∀ p ∈ news, p ∈ all) : OInv wd news Y g L h := by
  subst e
  refine ⟨m, t, ?_, fun p hp => N p (sub p hp)⟩
  have e : kstB m [(Str.ofString "world", .ref wd), (Str.ofString "found", .bytes (byteArr X) t)] = m := by
    funext z
    refine kstB_eq (fun p hp => ?_) fun _ => rfl
    simp only [List.mem_cons, List.not_mem_nil, or_false] at hp
    rcases hp with rfl | rfl
    · exact e1
    · exact e2
  rw [e]; exact F

def oct1 (W : AW) : List Int := [64, 1, 1, 0] ++ (match W.med with | none => [] | some m => [128, 4, 4, 0, 0, 0, m])
def oct2 (W : AW) : List Int := oct1 W ++ (if W.ag = true then [if W.agm = true then 224 else 192, 7, 6, 0, 7, 0, 0, 0, 9] else [])
def oct3 (W : AW) : List Int := oct2 W ++ (if W.held.isEmpty = true then [] else [if W.cm = true then 224 else 192, 8, 4 * (W.held.length : Int)] ++ (W.held.map fun k => be k 4).flatten)
theorem oct1_len (W : AW) : (oct1 W).length ≤ 11 := by unfold oct1; cases W.med <;> simp
theorem oct2_len (W : AW) : (oct2 W).length ≤ 20 := by
  unfold oct2; rw [List.length_append]
  refine Nat.add_le_add (d := 9) (oct1_len W) ?_
  split <;> exact Nat.le_of_ble_eq_true rfl
theorem app_len {a b : List Int} {n k : Nat} (h : a.length ≤ n) (e : n + b.length ≤ k) : (a ++ b).length ≤ k := by
  rw [List.length_append]; exact Nat.le_trans (Nat.add_le_add_right h _) e
theorem ok_cons {x : Int} {l : List Int} (h : 0 ≤ x ∧ x < 256) (t : ∀ y ∈ l, 0 ≤ y ∧ y < 256) : ∀ y ∈ x :: l, 0 ≤ y ∧ y < 256 := List.forall_mem_cons.mpr ⟨h, t⟩
theorem ok_app {a b : List Int} (h : ∀ y ∈ a, 0 ≤ y ∧ y < 256) (t : ∀ y ∈ b, 0 ≤ y ∧ y < 256) : ∀ y ∈ a ++ b, 0 ≤ y ∧ y < 256 := fun y hy => (List.mem_append.mp hy).elim (h y) (t y)
theorem len_octet {n : Nat} (h : n ≤ 3) : 0 ≤ 4 * (n : Int) ∧ 4 * (n : Int) < 256 := ⟨Int.mul_nonneg (by decide) (Int.natCast_nonneg n), (Int.ofNat_lt.mpr (Nat.lt_of_le_of_lt (Nat.mul_le_mul_left 4 h) (by decide)) : ((4 * n : Nat) : Int) < ((256 : Nat) : Int))⟩
def Three (n : Int) : Prop := n = 65537 ∨ n = 65538 ∨ n = 131075
theorem oct4 {n : Int} (h : Three n) : [0, n.fdiv 65536, 0, n.fmod 65536] = be n 4 ∧ ∀ x ∈ ([0, n.fdiv 65536, 0, n.fmod 65536] : List Int), 0 ≤ x ∧ x < 256 := by
  rcases h with rfl | rfl | rfl <;> decide
theorem oct_last {W : AW} (ok : W.Ok) : oct3 W = W.octs' := by
  unfold oct3 oct2 oct1 AW.octs'
  simp only [List.append_assoc]
  congr 1
  congr 1
  · cases hm : W.med with
    | none => rfl
    | some m =>
      have := ok.med m hm
      simp only [be, List.cons_append, List.nil_append]
      have z : ∀ d : Int, 256 ≤ d → m / d = 0 := fun d hd => Int.ediv_eq_zero_of_lt this.1 (Int.lt_of_lt_of_le this.2 hd)
      rw [z 16777216 (by decide), z 65536 (by decide), z 256 (by decide), Int.emod_eq_of_lt this.1 this.2]
      rfl
  congr 1
  split
  · rfl
  · rw [flat4]; simp

section
variable {prog : Program} {w : World} {A : Around} {E : Value → Shared → Prop} {Q : Flow → Shared → Prop} {s : Shared} {env : Env} {h₀ : Heap} {body : List Stmt}
theorem oct_loop {I : Addr} {lp : Addr × Obj} {wd : Addr} {news : Led} (hI : ∀ p ∈ news, p.1 < I) (hlp : lp ∈ news)
    (turn : ∀ n X t v u (it : Obj) h tk (R : (Str → Option Value) → Led → Prop), Three n → X.length ≤ 60 →
      (∀ m' t', m' (Str.ofString "world") = some (.ref wd) → m' (Str.ofString "found") = some (.bytes (byteArr (X ++ be n 4)) t') → R m' news) →
      Fr h₀ env.locals h (kstB u [(Str.ofString "number", .int n v), (Str.ofString "world", .ref wd), (Str.ofString "found", .bytes (byteArr X) t)]) → News h₀ env.locals h ((I, it) :: news) →
      wpAny (model prog w) A (execs body env) (UnrPost h₀ env.locals { s with heap := h, toks := tk } I it R Q) E { s with heap := h, toks := tk }) :
    ∀ {vs : List Value} {ns : List Int} (X : List Int) (t : Tok) (m : Str → Option Value), IntsAre vs ns → (∀ n ∈ ns, Three n) → X.length + 4 * ns.length ≤ 60 → m (Str.ofString "world") = some (.ref wd) → m (Str.ofString "found") = some (.bytes (byteArr X) t) →
      (∀ h tk u t, Fr h₀ env.locals h (kstB u [(Str.ofString "world", .ref wd), (Str.ofString "found", .bytes (byteArr (X ++ (ns.map fun k => be k 4).flatten)) t)]) → News h₀ env.locals h news → Q .next { s with heap := h, toks := tk }) →
      ListRest prog w A E h₀ env (Str.ofString "number") body Q s I lp vs m news
  | _, _, X, t, m, .nil, _, _, e1, e2, done => by
    refine ListRest.zero fun h tk F N => done h tk m t ?_ N
    have e : kstB m [(Str.ofString "world", .ref wd), (Str.ofString "found", .bytes (byteArr (X ++ (([] : List Int).map fun k => be k 4).flatten)) t)] = m := by
      funext z
      refine kstB_eq (fun p hp => ?_) fun _ => rfl
      simp only [List.mem_cons, List.not_mem_nil, or_false, List.map_nil, List.flatten_nil, List.append_nil] at hp
      rcases hp with rfl | rfl
      · exact e1
      · exact e2
    rw [e]; exact F
  | _, _, X, t, m, .cons n v h, h3, hl, e1, e2, done => by
    rename_i vs ns
    refine ListRest.succ fun it h' tk' _ F N => ?_
    refine turn n X t v (fun y => if y = Str.ofString "number" then some (.int n v) else m y) it h' tk' _ (h3 n (List.mem_cons_self ..)) (Nat.le_trans (Nat.le_add_right _ _) hl) (fun m' t' e1' e2' => ⟨hlp, ?_⟩) ?_ N
    · refine oct_loop hI hlp turn (X ++ be n 4) t' m' h (fun k hk => h3 k (List.mem_cons_of_mem _ hk)) ?_ e1' e2' (fun h tk u t F N => done h tk u t ?_ N)
      · rw [List.length_append]
        exact Nat.le_trans (Nat.le_of_eq ((Nat.add_assoc X.length 4 (4 * ns.length)).trans (congrArg (X.length + ·) (Nat.add_comm 4 (4 * ns.length))))) hl
      · rw [List.append_assoc] at F
        simpa only [List.map_cons, List.flatten_cons] using F
    · have e : kstB (fun y => if y = Str.ofString "number" then some (.int n v) else m y) [(Str.ofString "number", .int n v), (Str.ofString "world", .ref wd), (Str.ofString "found", .bytes (byteArr X) t)] = fun y => if y = Str.ofString "number" then some (.int n v) else m y := by
        funext z
        refine kstB_eq (fun p hp => ?_) fun _ => rfl
        simp only [List.mem_cons, List.not_mem_nil, or_false] at hp
        rcases hp with rfl | rfl | rfl
        · rfl
        · exact e1
        · exact e2
      rw [e]; exact F
end

/-- the value of an expression that is a number, cut off -/
theorem cut_int {M : Model} {A : Around} {E : Value → Shared → Prop} {s : Shared} {x : Sem Value} {Q : Value → Shared → Prop} (n : Int) (seg : wpAny M A x (fun v s₂ => Stop (∃ t tk, v = .int n t ∧ s₂ = { s with toks := tk })) E s)
    (cont : ∀ t tk, Q (.int n t) { s with toks := tk }) : wpAny M A x Q E s :=
  wpAny_mono seg (fun v s₂ ⟨t, tk, e1, e2⟩ => by subst e1; subst e2; exact cont t tk) (fun _ _ e => e)

theorem law_octets {news : Led} (W : AW) (ok : W.Ok) (ht : ∀ n ∈ W.held, Three n) (wd : Addr) (oW : Obj) (kvsW : List (Str × Value)) (hd : (wd, oW) ∈ news) (hD : oW.IsDictOf (PySem.strKind (PySem.Challenge.rw_rh0202_01.row.prog) w) kvsW) (lo : (wd == sysModules) = false) (D : WDesc news kvsW W) :
    Gives w mean mg mb 20 163 news [.ref wd] (BytesRet W.octs') := by
  unfold Gives
  k_fill
  intro dp un gd env outer A₀ base h₀ L m s Q E B F X N T hf hke hdp hu hret
  refine wpAny_call ?_
  k_dflt (first | (refine' enterP ?k1 ?k2 ?k3 ?k4 ?k5 ?kA ?kF ?kK ?k6 ?k7 ?k8 ?k9 ?kB ?_ ?c2 ?c3 ?c4 ?c5; (case kA => exact rfl); (case kF => first | exact rfl | assumption); (case kK => first | exact rfl | assumption); (case k1 => k_asm); (case k2 => k_asm); (case k3 => k_asm); (case k4 => k_asm); (case k5 => k_asm); (case k6 => k_is); (case k7 => k_is); (case k8 => (first | exact room_at (by assumption) | ktr_room)); (case k9 => exact BindsTo.of_eq rfl); (case c5 => decide); (case kB => exact locs rfl); (case c2 => exact rfl); (case c3 => exact rfl); (case c4 => exact rfl); k_whole; intro g' L' h' FG' F' N' B' X' T' kG' l1; (try k_lt l1); (try dsimp only); (try k_lift B'); (try k_fold)) | (refine' enterC ?k1 ?k2 ?k3 ?k4 ?k5 ?kA ?kF ?kK ?k6 ?k7 ?k8 ?k9 ?kB ?kD ?_ ?c2 ?c3 ?c4; (case kA => exact rfl); (case kF => first | exact rfl | assumption); (case kK => first | exact rfl | assumption); (case k1 => k_asm); (case k2 => k_asm); (case k3 => k_asm); (case k4 => k_asm); (case k5 => k_asm); (case k6 => k_is); (case k7 => k_is); (case k8 => (first | exact room_at (by assumption) | ktr_room)); (case k9 => exact BindsTo.of_eq rfl); (case kB => exact rfl); (case kD => decide +kernel); (case c2 => exact rfl); (case c3 => exact rfl); (case c4 => exact rfl); k_whole; intro g' L' h' tk' cells' FG' F' N' Y' B' X' T' kG' l1; (try k_lt l1); k_cells Y'; (try simp only [List.cons_append, List.nil_append] at N'); (try dsimp only); (try k_lift B'); (try k_fold)))
  rename ∀ p ∈ news, p.1 < _ => hnl
  repeat (first | (k_unfold; (try dsimp only)) | walk1 | (dsimp only; walk1))
  refine Stop.go ?_
  rename News _ _ _ _ => Nb
  k_dflt (refine bytes_K (ns := [64, 1, 1, 0]) (by k_asm) (by k_asm) (News.isList Nb (by k_mem)) (.cons _ _ (.cons _ _ (.cons _ _ (.cons _ _ .nil)))) (by decide) (by rw [sizeLine_eq]; exact Nat.le_of_ble_eq_true rfl) rfl ?_)
  intro hx tx kx Fx Nx _
  repeat (first | (k_unfold; (try dsimp only)) | walk1 | (dsimp only; walk1))
  refine Stop.go ?_
  k_dflt (refine cut_if (s := s) (by k_asm) (OInv wd news (oct1 W)) ?seg ?cont)
  case seg =>
    refine wpAny_If ?_
    repeat (first | (k_unfold; (try dsimp only)) | walk1 | (dsimp only; walk1))
    refine Stop.go ?_
    obtain ⟨mv, hmv, hmc⟩ := D.med
    k_dflt (refine kda_item (knd := PySem.strKind _ _) (by k_asm) (by k_mem) hD (strKind_is _ _ _ _) hmv ?_)
    rcases hmc with ⟨hm1, rfl⟩ | ⟨mm, mt, hm1, rfl⟩
    · repeat (first | (k_unfold; (try dsimp only)) | walk1 | (dsimp only; walk1))
      rename News _ _ _ _ => Nq
      refine Stop.go ⟨rfl, _, _, rfl, OInv.intro (X := [64, 1, 1, 0]) (by assumption) Nq rfl rfl (by unfold oct1; rw [hm1]; rfl) (fun p hp => by repeat (first | exact hp | apply List.mem_cons_of_mem))⟩
    · repeat (first | (k_unfold; (try dsimp only)) | walk1 | (dsimp only; walk1))
      refine Stop.go ?_
      k_dflt (refine kda_item (knd := PySem.strKind _ _) (by k_asm) (by k_mem) hD (strKind_is _ _ _ _) hmv ?_)
      repeat (first | (k_unfold; (try dsimp only)) | walk1 | (dsimp only; walk1))
      refine Stop.go ?_
      rename News _ _ _ _ => Nb
      have hmb := ok.med mm hm1
      k_dflt (refine bytes_K (ns := [128, 4, 4, 0, 0, 0, mm]) (by k_asm) (by k_asm) (News.isList Nb (by k_mem)) (.cons _ _ (.cons _ _ (.cons _ _ (.cons _ _ (.cons _ _ (.cons _ _ (.cons _ _ .nil))))))) ?hb (by rw [sizeLine_eq]; exact Nat.le_of_ble_eq_true rfl) rfl ?_)
      case hb => exact ok_app (a := [128, 4, 4, 0, 0, 0]) (b := [mm]) (by decide) (ok_cons hmb (List.forall_mem_nil _))
      intro hx tx kx Fx Nx _
      repeat (first | (k_unfold; (try dsimp only)) | walk1 | (dsimp only; walk1))
      refine Stop.go ?_
      k_dflt (refine bytes_add (a := [64, 1, 1, 0]) (b := [128, 4, 4, 0, 0, 0, mm]) rfl (Nat.le_of_ble_eq_true rfl) ?_)
      intro t7 k7
      repeat (first | (k_unfold; (try dsimp only)) | walk1 | (dsimp only; walk1))
      rename News _ _ _ _ => Nq
      refine Stop.go ⟨rfl, _, _, rfl, OInv.intro (X := [64, 1, 1, 0] ++ [128, 4, 4, 0, 0, 0, mm]) (by assumption) Nq rfl rfl (by unfold oct1; rw [hm1]) (fun p hp => by repeat (first | exact hp | apply List.mem_cons_of_mem))⟩
  case cont =>
    intro h1 tk1 I1
    refine OInv.elim I1 fun u t1 Fa Na => ?_
    dsimp only
    repeat (first | (k_unfold; (try dsimp only)) | walk1 | (dsimp only; walk1))
    refine Stop.go ?_
    k_dflt (refine cut_if (s := s) (by k_asm) (OInv wd news (oct2 W)) ?seg ?cont)
    case seg =>
      refine wpAny_If ?_
      repeat (first | (k_unfold; (try dsimp only)) | walk1 | (dsimp only; walk1))
      refine Stop.go ?_
      cases hag : W.ag with
      | false =>
        k_dflt (refine kda_item (knd := PySem.strKind _ _) (by k_asm) (by k_mem) hD (strKind_is _ _ _ _) (by rw [D.ag, hag]) ?_)
        repeat (first | (k_unfold; (try dsimp only)) | walk1 | (dsimp only; walk1))
        rename News _ _ _ _ => Nq
        exact Stop.go ⟨rfl, _, _, rfl, OInv.intro (X := oct1 W) (by assumption) Nq rfl rfl (by unfold oct2; rw [hag]; simp) (fun p hp => by repeat (first | exact hp | apply List.mem_cons_of_mem))⟩
      | true =>
        k_dflt (refine kda_item (knd := PySem.strKind _ _) (by k_asm) (by k_mem) hD (strKind_is _ _ _ _) (by rw [D.ag, hag]) ?_)
        repeat (first | (k_unfold; (try dsimp only)) | walk1 | (dsimp only; walk1))
        refine Stop.go ?_
        k_dflt (refine cut_int (if W.agm = true then 224 else 192) ?seg2 ?cont2)
        case seg2 =>
          refine wpAny_IfExp ?_
          repeat (first | (k_unfold; (try dsimp only)) | walk1 | (dsimp only; walk1))
          refine Stop.go ?_
          k_dflt (refine kda_item (knd := PySem.strKind _ _) (by k_asm) (by k_mem) hD (strKind_is _ _ _ _) D.agm ?_)
          cases W.agm
          · repeat (first | (k_unfold; (try dsimp only)) | walk1 | (dsimp only; walk1))
            exact Stop.go ⟨_, _, rfl, rfl⟩
          · repeat (first | (k_unfold; (try dsimp only)) | walk1 | (dsimp only; walk1))
            exact Stop.go ⟨_, _, rfl, rfl⟩
        case cont2 =>
          intro tq tkq
          repeat (first | (k_unfold; (try dsimp only)) | walk1 | (dsimp only; walk1))
          refine Stop.go ?_
          rename News _ _ _ _ => Nb
          k_dflt (refine bytes_K (ns := [if W.agm = true then 224 else 192, 7, 6, 0, 7, 0, 0, 0, 9]) (by k_asm) (by k_asm) (News.isList Nb (by k_mem)) (.cons _ _ (.cons _ _ (.cons _ _ (.cons _ _ (.cons _ _ (.cons _ _ (.cons _ _ (.cons _ _ (.cons _ _ .nil))))))))) (by cases W.agm <;> decide) (by rw [sizeLine_eq]; exact Nat.le_of_ble_eq_true rfl) rfl ?_)
          intro hx tx kx Fx Nx _
          repeat (first | (k_unfold; (try dsimp only)) | walk1 | (dsimp only; walk1))
          refine Stop.go ?_
          k_dflt (refine bytes_add (a := oct1 W) (b := [if W.agm = true then 224 else 192, 7, 6, 0, 7, 0, 0, 0, 9]) rfl (app_len (oct1_len W) (Nat.le_of_ble_eq_true rfl)) ?_)
          intro t7 k7
          repeat (first | (k_unfold; (try dsimp only)) | walk1 | (dsimp only; walk1))
          rename News _ _ _ _ => Nq
          exact Stop.go ⟨rfl, _, _, rfl, OInv.intro (X := oct1 W ++ [if W.agm = true then 224 else 192, 7, 6, 0, 7, 0, 0, 0, 9]) (by assumption) Nq rfl rfl (by unfold oct2; rw [hag]; rfl) (fun p hp => by repeat (first | exact hp | apply List.mem_cons_of_mem))⟩
    case cont =>
      intro h2 tk2 I2
      refine OInv.elim I2 fun u t2 Fa Na => ?_
      dsimp only
      repeat (first | (k_unfold; (try dsimp only)) | walk1 | (dsimp only; walk1))
      refine Stop.go ?_
      obtain ⟨ha, hvs, hk, hva, hma, hia⟩ := D.held
      have hlenh := ok.len
      k_dflt (refine cut_if (s := s) (by k_asm) (OInv wd news (oct3 W)) ?seg ?cont)
      case seg =>
        refine wpAny_If ?_
        repeat (first | (k_unfold; (try dsimp only)) | walk1 | (dsimp only; walk1))
        refine Stop.go ?_
        k_dflt (refine kda_item (knd := PySem.strKind _ _) (by k_asm) (by k_mem) hD (strKind_is _ _ _ _) hva ?_)
        repeat (first | (k_unfold; (try dsimp only)) | walk1 | (dsimp only; walk1))
        refine Stop.go ?_
        rename News _ _ _ _ => Nb
        k_dflt (refine ke_ne_ints (News.isList Nb (by k_mem)) (News.isList Nb (List.mem_cons_self ..)) hia IntsAre.nil (units_ne hu (Nat.le_of_ble_eq_true rfl)) ?_)
        by_cases hhe : W.held = []
        · rw [decide_eq_true hhe]
          dsimp only [Bool.not_true]
          repeat (first | (k_unfold; (try dsimp only)) | walk1 | (dsimp only; walk1))
          rename News _ _ _ _ => Nq
          exact Stop.go ⟨rfl, _, _, rfl, OInv.intro (X := oct2 W) (by assumption) Nq rfl rfl (by unfold oct3; rw [hhe]; simp) (fun p hp => by repeat (first | exact hp | apply List.mem_cons_of_mem))⟩
        · rw [decide_eq_false hhe]
          dsimp only [Bool.not_false]
          repeat (first | (k_unfold; (try dsimp only)) | walk1 | (dsimp only; walk1))
          refine Stop.go ?_
          k_dflt (refine cut_int (if W.cm = true then 224 else 192) ?seg2 ?cont2)
          case seg2 =>
            refine wpAny_IfExp ?_
            repeat (first | (k_unfold; (try dsimp only)) | walk1 | (dsimp only; walk1))
            refine Stop.go ?_
            k_dflt (refine kda_item (knd := PySem.strKind _ _) (by k_asm) (by k_mem) hD (strKind_is _ _ _ _) D.cm ?_)
            cases W.cm
            · repeat (first | (k_unfold; (try dsimp only)) | walk1 | (dsimp only; walk1))
              exact Stop.go ⟨_, _, rfl, rfl⟩
            · repeat (first | (k_unfold; (try dsimp only)) | walk1 | (dsimp only; walk1))
              exact Stop.go ⟨_, _, rfl, rfl⟩
          intro tq tkq
          repeat (first | (k_unfold; (try dsimp only)) | walk1 | (dsimp only; walk1))
          refine Stop.go ?_
          k_dflt (refine kda_item (knd := PySem.strKind _ _) (by k_asm) (by k_mem) hD (strKind_is _ _ _ _) hva ?_)
          repeat (first | (k_unfold; (try dsimp only)) | walk1 | (dsimp only; walk1))
          refine Stop.go ?_
          rename News _ _ _ _ => Nb
          have hlenv := hia.length
          k_dflt (refine Calls.call_len_list (News.isList Nb (by k_mem)) (Int.lt_of_le_of_lt (Int.ofNat_le.mpr (Nat.le_trans (Nat.le_of_eq hlenv) hlenh)) (by decide)) ?_)
          simp only [List.size_toArray]
          repeat (first | (k_unfold; (try dsimp only)) | walk1 | (dsimp only; walk1))
          refine Stop.go ?_
          rename News _ _ _ _ => Nb
          k_dflt (refine bytes_K (ns := [if W.cm = true then 224 else 192, 8, 4 * (hvs.length : Int)]) (by k_asm) (by k_asm) (News.isList Nb (by k_mem)) (.cons _ _ (.cons _ _ (.cons _ _ .nil))) ?hb (by rw [sizeLine_eq]; exact Nat.le_of_ble_eq_true rfl) rfl ?_)
          case hb =>
            have hfl : 0 ≤ (if W.cm = true then (224 : Int) else 192) ∧ (if W.cm = true then (224 : Int) else 192) < 256 := by cases W.cm <;> decide
            exact ok_cons hfl (ok_cons (by decide) (ok_cons (len_octet (Nat.le_trans (Nat.le_of_eq hlenv) hlenh)) (List.forall_mem_nil _)))
          intro hx tx kx Fx Nx _
          repeat (first | (k_unfold; (try dsimp only)) | walk1 | (dsimp only; walk1))
          refine Stop.go ?_
          k_dflt (refine bytes_add (a := oct2 W) (b := [if W.cm = true then 224 else 192, 8, 4 * (hvs.length : Int)]) rfl (app_len (oct2_len W) (Nat.le_of_ble_eq_true rfl)) ?_)
          intro t7 k7
          repeat (first | (k_unfold; (try dsimp only)) | walk1 | (dsimp only; walk1))
          refine Stop.go ?_
          rename Fr _ _ _ _ => lF'
          with_unfolding_all refine' For_invVF lF' ?k1 ?k2 ?_
          case k1 => exact rfl
          case k2 => exact rfl
          k_whole
          repeat (first | (k_unfold; (try dsimp only)) | walk1 | (dsimp only; walk1))
          refine Stop.go ?_
          k_dflt (refine kda_item (knd := PySem.strKind _ _) (by k_asm) (by k_mem) hD (strKind_is _ _ _ _) hva ?_)
          repeat (first | (k_unfold; (try dsimp only)) | walk1 | (dsimp only; walk1))
          refine Stop.go ?_
          rename News _ _ _ _ => Nc
          k_dflt (refine iter_listUnr (news := news) rfl (by k_asm) (fun p hp => Nc p (by repeat (first | exact hp | apply List.mem_cons_of_mem))) hma rfl rfl (fun I hI => ?_))
          k_dflt (refine oct_loop hI hma ?turn (oct2 W ++ [if W.cm = true then 224 else 192, 8, 4 * (hvs.length : Int)]) t7 _ hia ht ?len rfl rfl ?done)
          case len => exact Nat.le_trans (Nat.add_le_add (app_len (k := 23) (oct2_len W) (Nat.le_of_ble_eq_true rfl)) (Nat.mul_le_mul_left 4 hlenh)) (by decide)
          case turn =>
            intro n X t v u it h8 tk8 R h3n hX hR F8 N8
            dsimp only [envOf] at F8 N8
            repeat (first | (k_unfold; (try dsimp only)) | walk1 | (dsimp only; walk1))
            refine Stop.go ?_
            rename News _ _ _ _ => Nb
            k_dflt (refine bytes_K (ns := [0, n.fdiv 65536, 0, n.fmod 65536]) (by k_asm) (by k_asm) (News.isList Nb (by k_mem)) (.cons _ _ (.cons _ _ (.cons _ _ (.cons _ _ .nil)))) (oct4 h3n).2 (by rw [sizeLine_eq]; exact Nat.le_of_ble_eq_true rfl) rfl ?_)
            intro hx tx kx Fx Nx _
            repeat (first | (k_unfold; (try dsimp only)) | walk1 | (dsimp only; walk1))
            refine Stop.go ?_
            k_dflt (refine bytes_add (a := X) (b := [0, n.fdiv 65536, 0, n.fmod 65536]) (c := X ++ be n 4) (by rw [(oct4 h3n).1]) (app_len hX (Nat.le_of_ble_eq_true rfl)) ?_)
            intro t7 k7
            repeat (first | (k_unfold; (try dsimp only)) | walk1 | (dsimp only; walk1))
            refine Stop.go ?_
            refine UnrEnd.intro (by assumption) (by assumption) news (fun p hp => ?_) (fun p hp => Nat.ne_of_lt (hI p hp)) (hR _ _ rfl rfl)
            rcases List.mem_cons.mp hp with rfl | hp
            · repeat (first | exact List.mem_cons_self .. | apply List.mem_cons_of_mem)
            · repeat (first | exact hp | apply List.mem_cons_of_mem)
          case done =>
            intro h9 tk9 u9 t9 F9 N9
            dsimp only [envOf] at F9 N9
            repeat (first | (k_unfold; (try dsimp only)) | walk1 | (dsimp only; walk1))
            rename News _ _ _ _ => Nq
            refine Stop.go ⟨rfl, _, _, rfl, OInv.intro (X := (oct2 W ++ [if W.cm = true then 224 else 192, 8, 4 * (hvs.length : Int)]) ++ (W.held.map fun k => be k 4).flatten) (by assumption) Nq rfl rfl ?_ (fun p hp => by repeat (first | exact hp | apply List.mem_cons_of_mem))⟩
            unfold oct3
            rw [if_neg (show ¬ (W.held.isEmpty = true) from by simpa using hhe), hlenv]
            simp only [List.append_assoc]
      case cont =>
        intro h2 tk2 I2
        refine OInv.elim I2 fun u t2 Fa Na => ?_
        dsimp only
        repeat (first | (k_unfold; (try dsimp only)) | walk1 | (dsimp only; walk1))
        refine give hret N (by assumption) (by assumption) (by assumption) (by assumption) (by assumption) [] (fun p hp => hp) (fun _ h => nomatch h) (.mk _ _ (oct_last ok))
end Mine
end

/-! part V -/
section
set_option maxRecDepth 100000
set_option maxHeartbeats 2000000
namespace Mine
open PySem PySem.W PyProof.Rows PySem.Spec PySem.Calls

theorem up_entry : entryFor PySem.table "dict.update.loop" = some Builtin.«dict.update.loop» := entryFor_of_tree (by kernel_rfl)
theorem up_plain : plainId "dict.update.loop" = true := by decide +kernel
theorem up_keys : typeLookup (.type "list") (Str.ofString "keys") = pure none := by rw [typeLookup_type, builtinLookup_eq_fast]; kernel_rfl

theorem miss_keys {prog : Program} {w : World} {A : Around} {E : Value → Shared → Prop} {s : Shared} {a : Addr} {o : Obj} {xs : Array Value} {k : Nat} {Q : Option Value → Shared → Prop}
    (hx : s.heap.get? a = some o) (hc : o.cls = .type "list") (hdat : o.data = .seq xs k) (hd : o.dict = none) (hA : A.handled = none)
    (h : ∀ h' tk, (∀ b ob, s.heap.get? b = some ob → h'.get? b = some ob) → Q none { s with heap := h', toks := tk }) :
    wpAny (model prog w) A (getAttr? (.ref a) (Str.ofString "keys")) Q E s := by
  obtain ⟨c, dct, dat, sl⟩ := o
  simp only at hc hdat hd
  subst hc hdat hd
  obtain ⟨hp, g, d, tk, os⟩ := s
  have hT : ∀ tk', (⟨hp, g, d, tk', os⟩ : Shared).TypeIs (.ref a) "list" := fun _ => ⟨_, hx, rfl⟩
  have f1 := sub_AttributeError
  have f3 := F.slot_list_getattribute.lookup
  have f4 := F.slot_list_getattribute.bind (.ref a)
  have f5 := am_list_getattr_none
  unfold getAttr? getAttrBy? getAttrBy
  repeat (any_goals (first | assumption | exact hT _ | ((with_reducible show wpAny _ _ (call (Value.builtin "list.__getattribute__") _ _) _ _ _); refine call_meets F.slot_list_getattribute (hT _) am_entry_list_getattribute (F.args_list_getattribute_2 _ _) (meets_getattribute_miss_list a xs k sl (Str.ofString "keys") _ up_keys (by decide +kernel)) ⟨hx, hA, fun h' tk' e hx' => ?_⟩) | wp_step))
  obtain ⟨t', u', he⟩ := hx'.there
  have hkk := hx'.keeps
  show wpAny _ _ (getattributeRaised _ _ _ _ _ _ _) _ _ _
  unfold getattributeRaised
  repeat (any_goals (first | assumption | wp_step))
  exact h _ _ hkk

section
variable {prog : Program} {w : World} {K : Type} [DecidableEq K] {knd : KeyKind prog w K} {A : Around} {E : Value → Shared → Prop} {s : Shared}

/-- a row of two, as a tuple of the heap -/
def PairRow (h : Heap) (knd : KeyKind prog w K) (v : Value) (kv : K × Value) : Prop := ∃ a o n key, v = .ref a ∧ h.get? a = some o ∧ o.cls = .type "tuple" ∧ o.data = .seq #[key, kv.2] n ∧ knd.is kv.1 key = true

theorem up_loop {I d l : Addr} {vs : List Value} {R : List (K × Value)} {hb : Heap} {St : Nat → Heap → Prop} {RR : Result → Shared → Prop} (hlen : vs.length = R.length)
    (hrow : ∀ (i : Nat) v kv, vs[i]? = some v → R[i]? = some kv → PairRow hb knd v kv) (W : Walks prog w A.in1 I [I, l] [I] vs.length (fun i v => vs[i]? = some v) St) (hdI : d ≠ I) (hdl : d ≠ l)
    (hI : hb.get? I = none) (hd : hb.get? d = none) (hsz : vs.length ≤ sizeLine) :
    ∀ (k i : Nat) (s : Shared), vs.length - i = k → i ≤ vs.length → St i s.heap → s.heap.DictOf knd d (merged [] (R.take i)) → (∀ b o, hb.get? b = some o → s.heap.get? b = some o) →
      (∀ h' tk, h'.DictOf knd d (merged [] R) → (∀ b o, hb.get? b = some o → h'.get? b = some o) → RR (.ok (.ret .none)) { s with heap := h', toks := tk }) →
      codeAny (model prog w) A (.builtin "dict.update.loop" ⟨[.ref d, .ref I, rawInt i, .none], []⟩) RR s := by
  intro k
  induction k with
  | zero =>
    intro i s hk hi hst hD hkeep hR
    have hin : i = vs.length := Nat.le_antisymm hi (Nat.le_of_sub_eq_zero hk)
    subst hin
    refine codeAny_builtin up_entry ?_
    rw [Around.under_plainId up_plain _]
    show wpAny _ A.in1 (pyNext (.ref I) >>= _) _ _ s
    refine wpAny_bind (W.done s _ _ hst fun h' tk hk' => ?_)
    refine wpAny_bind (wpAny_pure (wpAny_pure (hR h' tk ?_ ?_)))
    · rw [hlen, List.take_length] at hD
      obtain ⟨o, es, ep, ho, r⟩ := hD
      exact ⟨o, es, ep, hk' _ _ (by simp only [List.mem_singleton]; exact hdI) ho, r⟩
    · intro b o e
      exact hk' b o (fun hm => by rw [List.mem_singleton.mp hm, hI] at e; cases e) (hkeep b o e)
  | succ k ih =>
    intro i s hk hi hst hD hkeep hR
    have hlt : i < vs.length := Nat.sub_pos_iff_lt.mp (hk ▸ Nat.succ_pos k)
    refine codeAny_builtin up_entry ?_
    rw [Around.under_plainId up_plain _]
    show wpAny _ A.in1 (pyNext (.ref I) >>= _) _ _ s
    refine wpAny_bind (W.item i s _ _ hlt hst fun v h' tk hP hst' hk' => ?_)
    have hkeep' : ∀ b o, hb.get? b = some o → h'.get? b = some o := fun b o e => hk' b o (fun hm => by rw [List.mem_singleton.mp hm, hI] at e; cases e) (hkeep b o e)
    obtain ⟨kv, hkv⟩ : ∃ kv, R[i]? = some kv := ⟨_, List.getElem?_eq_getElem (Nat.lt_of_lt_of_le hlt (Nat.le_of_eq hlen))⟩
    obtain ⟨a, o, n, key, rfl, ho, hc, hdat, hkey⟩ := hrow i v kv hP hkv
    have ho' := hkeep' _ _ ho
    have hT : Shared.TypeIs { s with heap := h', toks := tk } (.ref a) "tuple" := ⟨_, ho', hc⟩
    show wpAny _ A.in1 (holding [Value.ref a] _ >>= _) _ _ _
    refine wpAny_bind (wpAny_holding ?_)
    refine wpAny_bind (wpAny_tryCatch ?_)
    unfold Builtin.Dict.pairItems
    refine wpAny_bind (wpAny_typeOf hT ?_)
    refine wpAny_bind (m := seqItems? _) (wpAny_seqItems ho' hdat (wpAny_pure ?_))
    show wpAny _ A.in1 (holding [key, kv.2] (dictSet d key kv.2)) _ _ _
    have hD' : h'.DictOf knd d (merged [] (R.take i)) := by
      obtain ⟨o, es, ep, ho, r⟩ := hD
      exact ⟨o, es, ep, hk' _ _ (by simp only [List.mem_singleton]; exact hdI) ho, r⟩
    have hml : (merged [] (R.take i)).length ≤ sizeLine := by
      have := merged_length_le [] (R.take i)
      rw [List.length_take, List.length_nil] at this
      exact Nat.le_trans this (Nat.le_trans (Nat.le_of_eq (Nat.zero_add _)) (Nat.le_trans (Nat.min_le_left ..) (Nat.le_trans hi hsz)))
    refine wpAny_holding (wpAny_dictSet_pairs (s := { s with heap := h', toks := tk }) hkey hD' (fun h2 hD2 hs2 => ?_) hml)
    refine wpAny_pure ⟨plainId_quiet up_plain _, ih (i + 1) _ (by rw [Nat.sub_add_eq, hk]; rfl) hlt (W.frame _ _ _ hst' fun b hb' o e => ?_) ?_ (fun b o e => ?_) ?_⟩
    · rw [hs2.2 b (fun h : b = d => ?_)]; exact e
      simp only [List.mem_cons, List.not_mem_nil, or_false] at hb'
      rcases hb' with rfl | rfl
      · exact hdI h.symm
      · exact hdl h.symm
    · rw [merged_take_succ _ _ _ _ hkv]; exact hD2
    · show h2.get? b = some o
      rw [hs2.2 b (fun h : b = d => by rw [h, hd] at e; cases e)]; exact hkeep' b o e
    · intro h3 tk3 hD3 hk3
      exact hR h3 tk3 hD3 hk3

theorem call_dict_pairs {l : Addr} {ol : Obj} {nl : Nat} {vs : List Value} {R : List (K × Value)} {Q : Value → Shared → Prop} (hh : A.handled = none) (hl : s.heap.get? l = some ol) (hc : ol.cls = .type "list") (hdat : ol.data = .seq vs.toArray nl) (hdn : ol.dict = none)
    (hlen : vs.length = R.length) (hrow : ∀ (i : Nat) v kv, vs[i]? = some v → R[i]? = some kv → PairRow s.heap knd v kv) (hsz : vs.length ≤ sizeLine)
    (h : ∀ h' tk, h'.DictOf knd s.heap.objs.size (merged [] R) → (∀ b o, s.heap.get? b = some o → h'.get? b = some o) → Q (.ref s.heap.objs.size) { s with heap := h', toks := tk }) :
    wpAny (model prog w) A (call (.type "dict") [.ref l]) Q E s := by
  refine callType_codes (Q₁ := fun obj s₁ => obj = .ref s.heap.objs.size ∧ s₁ = { s with heap := s.heap.push { cls := .type "dict", data := .dict #[] } }) F.kt_called_dict (F.kt_typeCall_dict_1 _) F.entry_dict_init (kt_code_dict_new _ ⟨rfl, rfl⟩) ?_
  rintro obj s₁ ⟨rfl, rfl⟩
  have hlt : l < s.heap.objs.size := Heap.lt_size hl
  have hnew : (s.heap.push { cls := .type "dict", data := .dict #[] }).DictOf knd s.heap.objs.size [] := Heap.DictOf.new s.heap
  have hl' : (s.heap.push { cls := .type "dict", data := .dict #[] }).get? l = some ol := Heap.get?_push_of_some _ hl
  have hT : Shared.TypeIs { s with heap := s.heap.push { cls := .type "dict", data := .dict #[] } } (.ref l) "list" := ⟨_, hl', hc⟩
  refine ⟨hnew.typeIs, F.args_dict_init_2 _ _, ?_⟩
  unfold Builtin.«dict.__init__»
  refine wpAny_bind ?_
  unfold Builtin.Dict.selfAndRest
  refine wpAny_bind (wpAny_notOrdered_dict hnew.typeIs ?_)
  show wpAny _ _ (pure (s.heap.objs.size, [Value.ref l])) _ _ _
  refine wpAny_pure ?_
  show wpAny _ _ (Builtin.Dict.updateFrom "dict.__init__" s.heap.objs.size (.ref l) [] .none) _ _ _
  unfold Builtin.Dict.updateFrom
  refine wpAny_bind (wpAny_typeOf hT ?_)
  rw [if_pos (by decide)]
  refine wpAny_bind (miss_keys hl' hc hdat hdn (by simp [hh]) fun h1 tk1 hk1 => ?_)
  have hl1 : h1.get? l = some ol := hk1 _ _ hl'
  have hnew1 : h1.DictOf knd s.heap.objs.size [] := by
    obtain ⟨o, es, ep, ho, r⟩ := hnew
    exact ⟨o, es, ep, hk1 _ _ ho, r⟩
  have hIl : h1.IsList l vs.toArray := ⟨_, hl1, hc, _, hdat⟩
  simp only [Option.isNone_none, if_true]
  refine wpAny_bind (wpAny_rule ?_)
  refine wpAny_bind (wpAny_pyIter_list hIl ?_)
  have hlt1 : l < h1.objs.size := Heap.lt_size hl1
  have hdlt : s.heap.objs.size < h1.objs.size := by obtain ⟨o, es, ep, ho, r⟩ := hnew1; exact Heap.lt_size ho
  have hA : A.in1.in1.handled = none := by simp [hh]
  have W := Walks.list (prog := prog) (w := w) (A := A.in1.in1) hA h1.objs.size l (Nat.ne_of_lt hlt1) vs.toArray
  rw [List.size_toArray] at W
  refine wpAny_pure ⟨plainId_quiet up_plain _, ?_⟩
  refine up_loop (A := A.in1) (knd := knd) (R := R) (l := l) (hb := s.heap) hlen hrow (St := fun i h => h.IsListIter h1.objs.size l i ∧ h.IsList l vs.toArray) ?W (Nat.ne_of_lt hdlt) (Nat.ne_of_gt hlt) (Heap.get?_none_of_le (Nat.le_of_lt hdlt)) (Heap.get?_none_of_le (Nat.le_refl _)) hsz vs.length 0 _ (Nat.sub_zero _) (Nat.zero_le _) ⟨⟨_, Heap.get?_push_size _ rfl, rfl, rfl⟩, hIl.push _⟩ ?d0 (fun b o e => Heap.get?_push_of_some _ (hk1 _ _ (Heap.get?_push_of_some _ e))) ?hR
  case W =>
    refine cast (congrArg (fun P => Walks prog w A.in1.in1 h1.objs.size [h1.objs.size, l] [h1.objs.size] vs.length P _) ?_) W
    funext i v; rw [List.getElem?_toArray]
  case d0 => exact hnew1.push _
  case hR =>
    intro h' tk hD hk
    exact ⟨rfl, h h' tk hD hk⟩
end
end Mine
end

/-! part T -/
section
set_option maxRecDepth 100000
set_option maxHeartbeats 2000000
namespace Mine
open PySem PySem.W PyProof.Rows PySem.Spec PySem.Calls

abbrev tup2 (k : Int) (t : Tok) : Obj := { cls := .type "tuple", data := .seq #[.int k t, .bool true] }

section
variable {prog : Program} {w : World} {A : Around} {E : Value → Shared → Prop} {s : Shared} {h₀ : Heap} {L : Addr} {m : Str → Option Value} {env : Env}

theorem off3_mem {I C D : Addr} {l : Led} (h : ∀ p ∈ l, p.1 ≠ I ∧ p.1 ≠ C ∧ p.1 ≠ D) : LCg.Off3 I C D l := LCg.Off3.of h
theorem off1_mem {D : Addr} : ∀ {l : Led}, LCg.Off1 D l → ∀ p ∈ l, p.1 ≠ D
  | [], _, _, h => nomatch h
  | _ :: _, x, p, h => by
    rcases List.mem_cons.mp h with rfl | h
    · exact x.1
    · exact off1_mem x.2 p h

/-- the rows that the comprehension has made so far -/
structure Made (tl : Led) (ys : List Value) (R : List (Int × Value)) (ns : List Int) : Prop where
  rows : PairsIn tl ys R
  keys : R.map (·.1) = ns
  vals : ∀ r ∈ R, r.2 = .bool true

def LpTurn (prog : Program) (w : World) (A : Around) (h₀ : Heap) (L : Addr) (m : Str → Option Value) (env : Env) (elt : Expr) (x : Str) (scope : Scope) (cl : List (Str × Addr)) : Prop :=
  ∀ k t I oI C oC D ys news₁ m₂ (s₃ : Shared) E' (R : Value → Shared → Prop), LCg.NsObj oC m₂ → m₂ x = some (.int k t) → Fr h₀ L s₃.heap m → News h₀ L s₃.heap ((I, oI) :: (C, oC) :: (D, LCg.lst ys) :: news₁) →
    (∀ T h tk t', Fr h₀ L h m → News h₀ L h ((T, tup2 k t') :: (I, oI) :: (C, oC) :: (D, LCg.lst ys) :: news₁) → (∀ p ∈ (I, oI) :: (C, oC) :: (D, LCg.lst ys) :: news₁, p.1 < T) → R (.ref T) { s₃ with heap := h, toks := tk }) →
    wpAny (model prog w) A (eval elt (compEnvC scope cl C env)) R E' s₃

theorem lp_rest {elt : Expr} {x : Str} {scope : Scope} {cl : List (Str × Addr)} {ax : Addr} {vs : List Value} {ns : List Int} {kx : Nat} {news : Led} {Q : Value → Shared → Prop} {s₂ : Shared} (hi : IntsAre vs ns) (hax : (ax, ({ cls := .type "list", data := .seq vs.toArray kx } : Obj)) ∈ news)
    (turn : LpTurn prog w A h₀ L m env elt x scope cl)
    (fin : ∀ D ys R tl h tk, Made tl ys R ns → Fr h₀ L h m → News h₀ L h ((D, LCg.lst ys) :: (tl ++ news)) → Q (.ref D) { s₂ with heap := h, toks := tk }) :
    ∀ (k i : Nat) (ys : List Value) (R : List (Int × Value)) (tl : Led), i + k = vs.length → Made tl ys R (ns.take i) →
      LCg.CompRest prog w A h₀ L m env elt x scope cl s₂ (LCg.SrcAt h₀ ax vs.toArray) (fun i v => vs.toArray[i]? = some v) (LCg.FinE h₀ L m s₂ Q) k i ys (tl ++ news) := by
  have hlen := hi.length
  intro k
  induction k with
  | zero =>
    intro i ys R tl hk hM
    refine LCg.CompRest.zero fun D h tk F N off => ?_
    have hin : i = ns.length := hk.trans hlen
    rw [hin, List.take_length] at hM
    exact fin D ys R tl h tk hM F N
  | succ k ih =>
    intro i ys R tl hk hM
    refine LCg.CompRest.succ fun v I oI C oC D m₂ h tk E' hP hC hm F N off hne => ?_
    have hil : i < ns.length := Nat.lt_of_lt_of_le (lt_of_shift hk) (Nat.le_of_eq hlen)
    obtain ⟨t, rfl⟩ : ∃ t, v = .int (ns.getD i 0) t := IntsAre.int_at hi i v (by rw [← List.getElem?_toArray]; exact hP)
    refine turn (ns.getD i 0) t I oI C oC D ys (tl ++ news) m₂ { s₂ with heap := h, toks := tk } E' _ hC hm F N fun T h' tk' t' F' N' lt => ?_
    have lt1 : ∀ p ∈ tl ++ news, p.1 < T := fun p hp => lt p (List.mem_cons_of_mem _ (List.mem_cons_of_mem _ (List.mem_cons_of_mem _ hp)))
    refine LCg.CompEnd.intro F' N' ((T, tup2 (ns.getD i 0) t') :: (tl ++ news)) (fun p hp => ?_) (off3_mem fun p hp => ?_) (.inr ⟨_, List.mem_cons_of_mem _ (List.mem_append_right _ hax), rfl, _, rfl⟩) (ih (i + 1) (ys ++ [.ref T]) (R ++ [(ns.getD i 0, .bool true)]) ((T, tup2 (ns.getD i 0) t') :: tl) (shift_add hk) ⟨?_, ?_, ?_⟩)
    · simp only [List.mem_cons] at hp ⊢
      rcases hp with h | h | h | h | h <;> simp [h]
    · rcases List.mem_cons.mp hp with rfl | hp
      · exact ⟨Nat.ne_of_gt (lt _ (List.mem_cons_self ..)), Nat.ne_of_gt (lt _ (List.mem_cons_of_mem _ (List.mem_cons_self ..))), Nat.ne_of_gt (lt _ (List.mem_cons_of_mem _ (List.mem_cons_of_mem _ (List.mem_cons_self ..))))⟩
      · exact LCg.Off3.mem off p hp
    · exact (hM.rows.mono fun p hp => List.mem_cons_of_mem _ hp).snoc (List.mem_cons_self ..) rfl rfl
    · rw [List.map_append, hM.keys, List.map_cons, List.map_nil, List.getD_eq_getElem?_getD, List.getElem?_eq_getElem hil, Option.getD_some, List.take_add_one, List.getElem?_eq_getElem hil]
      rfl
    · intro r hr
      rcases List.mem_append.mp hr with hr | hr
      · exact hM.vals r hr
      · rw [List.mem_singleton.mp hr]

inductive LpGo (prog : Program) (w : World) (A : Around) (h₀ : Heap) (L : Addr) (m : Str → Option Value) (env : Env) (elt : Expr) (x : Str) (scope : Scope) (cl : List (Str × Addr)) (Q : Value → Shared → Prop) (xv : Value) (s₁ : Shared) : Prop
  | mk (ax : Addr) (vs : List Value) (ns : List Int) (kx : Nat) (news : Led) : xv = .ref ax → A.handled = none → Fr h₀ L s₁.heap m → News h₀ L s₁.heap news → (ax, ({ cls := .type "list", data := .seq vs.toArray kx } : Obj)) ∈ news → IntsAre vs ns → vs.length ≤ sizeLine → LpTurn prog w A h₀ L m env elt x scope cl → (∀ D ys R tl h tk, Made tl ys R ns → Fr h₀ L h m → News h₀ L h ((D, LCg.lst ys) :: (tl ++ news)) → Q (.ref D) { s₁ with heap := h, toks := tk }) → LpGo prog w A h₀ L m env elt x scope cl Q xv s₁

theorem lc_pairs {elt iter : Expr} {x : Str} {px : Pos} {scope : Scope} {cl : List (Str × Addr)} {pos : Pos} {Q : Value → Shared → Prop} (F₀ : Fr h₀ L s.heap m)
    (hclos : closureFor scope env = pure cl) (hcell : ∀ y ∈ scope.names, y.2 ≠ .cell) (hkind : scope.kind = .function)
    (hnames : ∀ y ∈ scope.names, y.2 = .local → scope.names.lookup y.1 = some .local) (hx : scope.names.lookup x = some .local)
    (h : wpAny (model prog w) A (eval iter env) (LpGo prog w A h₀ L m env elt x scope cl Q) E s)
    (hs : ∀ x, foldedSetIterable iter env x = pure x := by intro _; rfl) :
    wpAny (model prog w) A (eval (.ListComp elt [⟨.Name x px, iter, [], 0⟩] scope pos) env) Q E s := by
  refine LCg.ListComp_U F₀ hclos hcell hkind hnames hx (wpAny_mono h (fun xv s₁ h₁ => ?_) fun _ _ e => e) hs
  obtain ⟨ax, vs, ns, kx, news, rfl, hh, F, N, hax, hi, hsz, turn, fin⟩ := h₁
  refine LCg.CompSrc.ledger hh F N hax (by rw [List.size_toArray]; exact hsz) fun g => ?_
  rw [List.size_toArray]
  exact lp_rest (s₂ := { s₁ with heap := g }) hi hax turn (fun D ys R tl h tk hM F N => fin D ys R tl h tk hM F N) vs.length 0 [] [] [] (Nat.zero_add _) ⟨.nil, rfl, fun _ h => nomatch h⟩

theorem dict_led {l : Addr} {vs : List Value} {k : Nat} {R : List (Int × Value)} {news : Led} {Q : Value → Shared → Prop} (hh : A.handled = none) (F : Fr h₀ L s.heap m) (N : News h₀ L s.heap news) (hl : (l, listOf vs.toArray k) ∈ news) (hR : PairsIn news vs R) (hsz : vs.length ≤ 100) (big : sysModules < h₀.objs.size)
    (h : ∀ d o h' tk, Fr h₀ L h' m → News h₀ L h' ((d, o) :: news) → (∀ p ∈ news, p.1 < d) → (d == sysModules) = false → o.IsDictOf (intKind prog w) (merged [] R) → Q (.ref d) { s with heap := h', toks := tk }) :
    wpAny (model prog w) A (call (.type "dict") [.ref l]) Q E s := by
  refine call_dict_pairs (knd := intKind prog w) (R := R) hh (N _ hl).1 rfl rfl rfl hR.length (fun i v kv hv hkv => ?_) (le_size hsz (by decide)) fun h' tk hD hk => ?_
  · have hi : i < vs.length := by
      cases e : decide (i < vs.length) with
      | true => exact of_decide_eq_true e
      | false => rw [List.getElem?_eq_none (Nat.le_of_not_lt (of_decide_eq_false e))] at hv; cases hv
    obtain ⟨a, o, c, t, y, n, e1, e2, e3, e4, e5⟩ := hR.at i hi
    rw [hkv] at e5
    cases e5
    rw [List.getD_eq_getElem?_getD, hv, Option.getD_some] at e1
    exact ⟨a, o, n, _, e1, (N _ e2).1, e3, e4, intKind_is _ _ _ _⟩
  · obtain ⟨o, ho, hD'⟩ := Heap.dictOf_iff.mp hD
    exact h _ o h' tk (F.keeps hk) (news_new F N hk (Heap.get?_none_of_le (Nat.le_refl _)) ho) (fun p hp => Heap.lt_size (N p hp).1) (F.notModules big) hD'

theorem ints_keys {vs : List Value} : ∀ {kvs : List (Int × Value)}, vs.length = kvs.length → (∀ (j : Nat) v, vs[j]? = some v → ∃ k x, kvs[j]? = some (k, x) ∧ (intKind prog w).is k v = true) → IntsAre vs (kvs.map (·.1)) := by
  induction vs with
  | nil =>
    intro kvs hl _
    cases kvs with
    | nil => exact .nil
    | cons _ _ => simp at hl
  | cons v vs ih =>
    intro kvs hl h
    obtain ⟨k, x, e, hk⟩ := h 0 v rfl
    cases kvs with
    | nil => simp at hl
    | cons p kvs =>
      have e : p = (k, x) := Option.some.inj e
      subst e
      obtain ⟨t, rfl⟩ := Value.isInt_shape hk
      exact .cons _ _ (ih (by simpa using hl) fun j v hj => by simpa using h (j + 1) v (by simpa using hj))

theorem sorted_led {d : Addr} {o : Obj} {kvs : List (Int × Value)} {news : Led} {Q : Value → Shared → Prop} (hh : A.handled = none) (F : Fr h₀ L s.heap m) (N : News h₀ L s.heap news) (hd : (d, o) ∈ news) (hD : o.IsDictOf (intKind prog w) kvs) (lo : (d == sysModules) = false) (hlen : kvs.length < 64)
    (h : ∀ D vs ns c h' tk, Fr h₀ L h' m → News h₀ L h' ((D, listOf (List.toArray vs) c) :: news) → (∀ q ∈ news, q.1 < D) → IntsAre vs ns → ns.Perm (kvs.map (·.1)) → ns.Pairwise (fun x y => x ≤ y) → Q (.ref D) { s with heap := h', toks := tk }) :
    wpAny (model prog w) A (call (.builtin "sorted") [.ref d]) Q E s := by
  obtain ⟨ep, hat⟩ := (kda_dict N hd hD).dictAt
  refine kdu_sorted (kdl_dict (knd := intKind prog w) (kvs := kvs) (ep := ep) lo) hh F N hat (le_size (Nat.le_of_lt hlen) (by decide)) fun B h' tk vs F' N' l1 hl hv => ?_
  refine ksk_lsort (s := { s with heap := h', toks := tk }) F' N' (fun o => .head fun p hp => Nat.ne_of_lt (l1 p hp)) (by simp) (ints_keys hl hv) (by rw [List.length_map]; exact hlen) fun vs' ns' c h2 F2 N2 hi _ hp ho _ => ?_
  exact h B vs' ns' c h2 tk F2 N2 l1 hi hp ho
end
end Mine
end

/-! part Ch -/
section
set_option maxRecDepth 100000
set_option maxHeartbeats 8000000
namespace Mine
open PySem PySem.W PyProof.Rows PySem.Spec PySem.Calls




variable {w : World} {mean : ExcName → Option Value} {mg mb : Str → Option Value}

structure Ok3 (W : AW) : Prop where
  med : ∀ m, W.med = some m → 0 ≤ m ∧ m < 256
  three : ∀ n ∈ W.held, Three n
  asc : W.held.Pairwise (· < ·)
  inv : W.cm = true → W.held ≠ []

/-- what one change says and does -/
inductive Step (led : Led) : Value → AW → AW → Prop
  | add {W : AW} {sa : Addr} {n : Int} {t0 t1 : Tok} {ks : List Int} : (sa, ({ cls := .type "tuple", data := .seq #[.str (Str.ofString "add") t0, .int n t1] } : Obj)) ∈ led → ks.Pairwise (· < ·) → (∀ x, x ∈ ks ↔ x ∈ W.held ++ [n]) → Step led (.ref sa) W { W with held := ks }
  | set {W : AW} {sa : Addr} {n : Int} {t0 t1 t2 : Tok} : (sa, ({ cls := .type "tuple", data := .seq #[.str (Str.ofString "set") t0, .str (Str.ofString "med") t1, .int n t2] } : Obj)) ∈ led → Step led (.ref sa) W { W with med := some n }
  | clear {W : AW} {sa : Addr} {t0 : Tok} : (sa, ({ cls := .type "tuple", data := .seq #[.str (Str.ofString "clear") t0] } : Obj)) ∈ led → Step led (.ref sa) W { W with held := [], cm := false }
  | drop {W : AW} {sa : Addr} {n : Int} {t0 t1 : Tok} : (sa, ({ cls := .type "tuple", data := .seq #[.str (Str.ofString "drop") t0, .int n t1] } : Obj)) ∈ led → Step led (.ref sa) W { W with held := W.held.filter (fun y => !decide (y = n)), cm := W.cm && !(W.held.filter (fun y => !decide (y = n))).isEmpty }


local macro_rules | `(tactic| walk_at "call ref") => `(tactic| refine Stop.of ?_)
local macro_rules | `(tactic| walk_at "compareOp NotEq ref ref") => `(tactic| refine Stop.of ?_)
local macro_rules | `(tactic| walk_at "call type:dict") => `(tactic| refine Stop.of ?_)
local macro_rules | `(tactic| walk_at "call builtin:sorted") => `(tactic| refine Stop.of ?_)
local macro_rules | `(tactic| walk_at "binaryOp Add ref ref") => `(tactic| refine Stop.of ?_)
local macro_rules | `(tactic| walk_at "eval ListComp") => `(tactic| refine Stop.of ?_)
local macro_rules | `(tactic| walk_at "LpGo") => `(tactic| refine Stop.of ?_)
local macro_rules | `(tactic| walk_at "LcGo") => `(tactic| refine Stop.of ?_)
local macro_rules | `(tactic| walk_at "setItem ref str") => `(tactic| refine Stop.of ?_)
local macro_rules | `(tactic| walk_at "subscriptTail") => `(tactic| refine Stop.of ?_)
local macro_rules | `(tactic| walk_at "storeName") => `(tactic| ((with_reducible show wpAny _ _ (storeName _ (Str.ofString "number") _) _ _ _); refine Stop.of ?_))

inductive ChRet (prog : Program) (w : World) (W : AW) (bx sl wd : Addr) (i : Nat) (news : Led) : Value → Led → Led → Prop
  | mk {sa : Addr} {tl : Led} {W' : AW} {oW' : Obj} {kvsW' : List (Str × Value)} {c' : Int} {tc' : Tok} {kb' : Nat} : 0 ≤ c' → oW'.IsDictOf (PySem.strKind prog w) kvsW' → kvsW'.length ≤ i → WDesc (tl ++ news) kvsW' W' → Ok3 W' → Step (tl ++ news) (.ref sa) W W' →
    ChRet prog w W bx sl wd i news (.ref sa) tl [(bx, listOf #[.ref sl, .int c' tc'] kb'), (wd, oW')]

theorem swap2 {h₀ h : Heap} {L : Addr} {a b : Addr × Obj} {l : Led} (N : News h₀ L h (a :: b :: l)) : News h₀ L h (b :: a :: l) := fun p hp => N p (by simp only [List.cons_append, List.nil_append, List.mem_cons] at hp ⊢; rcases hp with h | h | h <;> simp [h])

theorem Ok3.len {W : AW} (ok : Ok3 W) : W.held.length ≤ 3 := by
  have := nodup_le W.held [65537, 65538, 131075] (ok.asc.imp fun h => Int.ne_of_lt h) fun x hx => by
    rcases ok.three x hx with h | h | h <;> simp [h]
  simpa using this
theorem ints_app {a b : List Value} {xs ys : List Int} (h : IntsAre a xs) (k : IntsAre b ys) : IntsAre (a ++ b) (xs ++ ys) := by
  induction h with
  | nil => exact k
  | cons y t _ ih => exact .cons y t ih
section
variable {K : Type} [DecidableEq K]
theorem keys_stored (kvs : List (K × Value)) (k : K) (v : Value) (x : K) : x ∈ (stored kvs k v).map (·.1) ↔ x ∈ kvs.map (·.1) ∨ x = k := by
  unfold stored
  split
  · rename_i h
    obtain ⟨p, hp, e⟩ := List.any_eq_true.mp h
    have e : p.1 = k := of_decide_eq_true e
    have hm : (kvs.map fun kv => if kv.1 = k then (kv.1, v) else kv).map (·.1) = kvs.map (·.1) := by
      rw [List.map_map]
      refine List.map_congr_left fun kv _ => ?_
      show (if kv.1 = k then (kv.1, v) else kv).1 = kv.1
      split <;> rfl
    rw [hm]
    constructor
    · exact .inl
    · rintro (h | rfl)
      · exact h
      · exact List.mem_map.mpr ⟨p, hp, e⟩
  · simp [List.map_append]
theorem keys_merged : ∀ (more kvs : List (K × Value)) (x : K), x ∈ (merged kvs more).map (·.1) ↔ x ∈ kvs.map (·.1) ∨ x ∈ more.map (·.1)
  | [], kvs, x => by simp [merged]
  | kv :: more, kvs, x => by
    show x ∈ (merged (stored kvs kv.1 kv.2) more).map (·.1) ↔ _
    rw [keys_merged more, keys_stored, List.map_cons, List.mem_cons]
    constructor
    · rintro ((h | h) | h)
      · exact .inl h
      · exact .inr (.inl h)
      · exact .inr (.inr h)
    · rintro (h | h | h)
      · exact .inl (.inl h)
      · exact .inl (.inr h)
      · exact .inr h
end
theorem rise_of {ns l : List Int} (ho : ns.Pairwise (fun x y => x ≤ y)) (hp : ns.Perm l) (hn : l.Nodup) : ns.Pairwise (· < ·) := by
  have h2 : ns.Nodup := hp.nodup_iff.mpr hn
  exact (ho.and h2).imp fun {a b} ⟨x, y⟩ => Int.lt_iff_le_and_ne.mpr ⟨x, y⟩
theorem pick_add {h₀ h : Heap} {L : Addr} {d6 d5 d9 x3 x2 x1 b l c wd : Addr × Obj} {tl news : Led} (N : News h₀ L h (d6 :: d5 :: d9 :: (tl ++ x3 :: x2 :: x1 :: b :: l :: c :: wd :: news))) : News h₀ L h (d6 :: b :: c :: wd :: news) := fun p hp => N p (by
  simp only [List.mem_cons, List.mem_append] at hp ⊢; rcases hp with h | h | h | h | h <;> simp [h])
theorem WDesc.mono {news news' : Led} {kvs : List (Str × Value)} {W : AW} (D : WDesc news kvs W) (hs : ∀ p ∈ news, p ∈ news') : WDesc news' kvs W :=
  ⟨D.med, let ⟨a, vs, k, e, m, i⟩ := D.held; ⟨a, vs, k, e, hs _ m, i⟩, D.cm, D.ag, D.agm⟩
theorem WDesc.set_held {news : Led} {kvs kvs' : List (Str × Value)} {W : AW} {a : Addr} {vs : List Value} {k : Nat} {ns : List Int} (D : WDesc news kvs W) (h : ∀ x, valueAt kvs' x = if x = Str.ofString "held" then some (.ref a) else valueAt kvs x)
    (hm : (a, listOf vs.toArray k) ∈ news) (hi : IntsAre vs ns) : WDesc news kvs' { W with held := ns } := by
  refine ⟨?_, ⟨a, vs, k, by rw [h]; rfl, hm, hi⟩, ?_, ?_, ?_⟩
  · rw [h, if_neg (by decide)]; exact D.med
  · rw [h, if_neg (by decide)]; exact D.cm
  · rw [h, if_neg (by decide)]; exact D.ag
  · rw [h, if_neg (by decide)]; exact D.agm
theorem WDesc.set_med {news : Led} {kvs kvs' : List (Str × Value)} {W : AW} {n : Int} {t : Tok} (D : WDesc news kvs W) (h : ∀ x, valueAt kvs' x = if x = Str.ofString "med" then some (.int n t) else valueAt kvs x) : WDesc news kvs' { W with med := some n } := by
  refine ⟨⟨_, by rw [h]; rfl, .inr ⟨n, t, rfl, rfl⟩⟩, ?_, ?_, ?_, ?_⟩
  · obtain ⟨a, vs, k, e, m, i⟩ := D.held
    exact ⟨a, vs, k, by rw [h, if_neg (by decide)]; exact e, m, i⟩
  · rw [h, if_neg (by decide)]; exact D.cm
  · rw [h, if_neg (by decide)]; exact D.ag
  · rw [h, if_neg (by decide)]; exact D.agm
theorem WDesc.set_cm {news : Led} {kvs kvs' : List (Str × Value)} {W : AW} {b : Bool} (D : WDesc news kvs W) (h : ∀ x, valueAt kvs' x = if x = Str.ofString "is_marked" then some (.bool b) else valueAt kvs x) : WDesc news kvs' { W with cm := b } := by
  refine ⟨?_, ?_, by rw [h]; rfl, ?_, ?_⟩
  · rw [h, if_neg (by decide)]; exact D.med
  · obtain ⟨a, vs, k, e, m, i⟩ := D.held
    exact ⟨a, vs, k, by rw [h, if_neg (by decide)]; exact e, m, i⟩
  · rw [h, if_neg (by decide)]; exact D.ag
  · rw [h, if_neg (by decide)]; exact D.agm
theorem Ok3.add {W : AW} (ok : Ok3 W) {n : Int} (hn : Three n) {ks : List Int} (hs : ks.Pairwise (· < ·)) (hm : ∀ x, x ∈ ks ↔ x ∈ W.held ++ [n]) : Ok3 { W with held := ks } := by
  refine ⟨ok.med, fun x hx => ?_, hs, fun _ e => ?_⟩
  · rcases List.mem_append.mp ((hm x).mp hx) with h | h
    · exact ok.three x h
    · rw [List.mem_singleton.mp h]; exact hn
  · have : n ∈ ks := (hm n).mpr (List.mem_append_right _ (List.mem_singleton.mpr rfl))
    have e : ks = [] := e
    rw [e] at this; cases this
theorem pick9 {h₀ h : Heap} {L : Addr} {d b l c wd : Addr × Obj} {news : Led} (N : News h₀ L h (d :: b :: l :: c :: wd :: news)) : News h₀ L h (b :: c :: wd :: news) := fun p hp => N p (by
  simp only [List.mem_cons] at hp ⊢; rcases hp with h | h | h | h <;> simp [h])
theorem Ok3.set {W : AW} (ok : Ok3 W) (n : Int) : Ok3 { W with med := some (n.fmod 7) } := by
  refine ⟨fun m hm => ?_, ok.three, ok.asc, ok.inv⟩
  have e : n.fmod 7 = m := Option.some.inj hm
  subst e
  exact ⟨Int.fmod_nonneg_of_pos _ (by decide), Int.lt_trans (Int.fmod_lt_of_pos _ (by decide)) (by decide)⟩
theorem give2 {Q : Value → Shared → Prop} {Ret : Value → Led → Led → Prop} {s : Shared} {h₀ g : Heap} {L L' : Addr} {m m' : Str → Option Value} {b₀ w₀ t x b c w : Addr × Obj} {news : Led} {r : Value} {h' : Heap} {tk : Nat}
    (hret : ∀ r tl pre' h' tk', (∀ a o, a ∉ [b₀, w₀].map (·.1) → s.heap.get? a = some o → h'.get? a = some o) → Fr h₀ L h' m → News h₀ L h' (tl ++ (pre' ++ news)) → (∀ p ∈ tl, ∀ q ∈ pre' ++ news, q.1 ≠ p.1) → Ret r tl pre' → Q r { s with heap := h', toks := tk' })
    (N : News h₀ L s.heap (b₀ :: w₀ :: news)) (kG : GSub s.heap g ((b₀ :: w₀ :: news).map (·.1))) (F' : Fr g L' h' m') (N' : News g L' h' (t :: x :: b :: c :: w :: news)) (kF : Fr h₀ L h' m) (kN : News h₀ L h' (t :: x :: b :: c :: w :: news))
    (lt1 : ∀ q ∈ b :: w :: news, q.1 < t.1) (lt2 : ∀ q ∈ b :: w :: news, q.1 ≠ x.1) (hr : Ret r [t, x] [b, w]) : Q r { s with heap := h', toks := tk } := by
  refine giveM (pre := [b₀, w₀]) hret N kG F' N' kF kN [t, x] [b, w] (fun p hp => ?_) (fun p hp q hq => ?_) hr
  · simp only [List.cons_append, List.nil_append, List.mem_cons] at hp ⊢
    rcases hp with h | h | h | h | h <;> simp [h]
  · simp only [List.mem_cons, List.not_mem_nil, or_false] at hp
    rcases hp with rfl | rfl
    · exact Nat.ne_of_lt (lt1 q hq)
    · exact lt2 q hq
theorem give1 {Q : Value → Shared → Prop} {Ret : Value → Led → Led → Prop} {s : Shared} {h₀ g : Heap} {L L' : Addr} {m m' : Str → Option Value} {b₀ w₀ t b c w : Addr × Obj} {news : Led} {r : Value} {h' : Heap} {tk : Nat}
    (hret : ∀ r tl pre' h' tk', (∀ a o, a ∉ [b₀, w₀].map (·.1) → s.heap.get? a = some o → h'.get? a = some o) → Fr h₀ L h' m → News h₀ L h' (tl ++ (pre' ++ news)) → (∀ p ∈ tl, ∀ q ∈ pre' ++ news, q.1 ≠ p.1) → Ret r tl pre' → Q r { s with heap := h', toks := tk' })
    (N : News h₀ L s.heap (b₀ :: w₀ :: news)) (kG : GSub s.heap g ((b₀ :: w₀ :: news).map (·.1))) (F' : Fr g L' h' m') (N' : News g L' h' (t :: b :: c :: w :: news)) (kF : Fr h₀ L h' m) (kN : News h₀ L h' (t :: b :: c :: w :: news))
    (lt1 : ∀ q ∈ b :: w :: news, q.1 < t.1) (hr : Ret r [t] [b, w]) : Q r { s with heap := h', toks := tk } := by
  refine giveM (pre := [b₀, w₀]) hret N kG F' N' kF kN [t] [b, w] (fun p hp => ?_) (fun p hp q hq => ?_) hr
  · simp only [List.cons_append, List.nil_append, List.mem_cons] at hp ⊢
    rcases hp with h | h | h | h <;> simp [h]
  · rw [List.mem_singleton.mp hp]
    exact Nat.ne_of_lt (lt1 q hq)
theorem lt_three {d : Addr} {b w : Addr × Obj} {news : Led} (h1 : @LT.lt Nat _ b.1 d) (h2 : @LT.lt Nat _ w.1 d) (h3 : AllLt d news) : ∀ q ∈ b :: w :: news, q.1 < d := fun q hq => by
  rcases List.mem_cons.mp hq with rfl | hq
  · exact h1
  rcases List.mem_cons.mp hq with rfl | hq
  · exact h2
  · exact kst_ltOf h3 q hq
theorem pickc {h₀ h : Heap} {L : Addr} {x d b l c wd : Addr × Obj} {news : Led} (N : News h₀ L h (x :: d :: b :: l :: c :: wd :: news)) : News h₀ L h (x :: b :: c :: wd :: news) := fun p hp => N p (by
  simp only [List.mem_cons] at hp ⊢; rcases hp with h | h | h | h | h <;> simp [h])
theorem pickd {h₀ h : Heap} {L : Addr} {y x b c wd : Addr × Obj} {news : Led} (N : News h₀ L h (y :: x :: b :: c :: wd :: news)) : News h₀ L h (x :: b :: c :: wd :: news) := fun p hp => N p (List.mem_cons_of_mem _ hp)
theorem Ok3.clear {W : AW} (ok : Ok3 W) : Ok3 { W with held := [], cm := false } := ⟨ok.med, (fun _ h => nomatch h), .nil, fun h => by cases h⟩
theorem Ok3.drop {W : AW} (ok : Ok3 W) (n : Int) : Ok3 { W with held := W.held.filter (fun y => !decide (y = n)), cm := W.cm && !(W.held.filter (fun y => !decide (y = n))).isEmpty } := by
  refine ⟨ok.med, fun x hx => ok.three x (List.mem_filter.mp hx).1, ok.asc.filter _, fun h e => ?_⟩
  have e : W.held.filter (fun y => !decide (y = n)) = [] := e
  have h : (W.cm && !(W.held.filter (fun y => !decide (y = n))).isEmpty) = true := h
  rw [e] at h
  simp at h
theorem dec_empty (l : List Int) : decide (l = []) = l.isEmpty := by cases l <;> rfl
theorem three_at {k : Int} (h0 : 0 ≤ k) (h1 : k < 3) : Three (([65537, 65538, 131075] : List Int).getD k.toNat 0) := by
  exact (show ∀ j < 3, (([65537, 65538, 131075] : List Int).getD j 0 = 65537 ∨ ([65537, 65538, 131075] : List Int).getD j 0 = 65538 ∨ ([65537, 65538, 131075] : List Int).getD j 0 = 131075) by decide) k.toNat ((Int.toNat_lt h0).mpr h1)
theorem law_change {news : Led} (W : AW) (ok : Ok3 W) (bx sl wd : Addr) (c : Int) (tc : Tok) (kb ks : Nat) (svs : List Value) (sns : List Int) (hc : 0 ≤ c) (hsl : (sl, listOf svs.toArray ks) ∈ news) (hi : IntsAre svs sns) (hns : sns.length ≤ 63)
    (oW : Obj) (kvsW : List (Str × Value)) (hD : oW.IsDictOf (PySem.strKind (PySem.Challenge.rw_rh0202_01.row.prog) w) kvsW) (lo : (wd == sysModules) = false) (D : WDesc news kvsW W) (i : Nat) (hlk : kvsW.length ≤ i) (hi2 : i ≤ 100) (hne : wd ≠ bx) (hb : ∀ p ∈ news, p.1 ≠ bx) (hw : ∀ p ∈ news, p.1 ≠ wd) :
    GivesM w mean mg mb 20 168 [(bx, listOf #[.ref sl, .int c tc] kb), (wd, oW)] news [.ref bx, .ref wd] (ChRet PySem.Challenge.rw_rh0202_01.row.prog w W bx sl wd (i + 2) news) := by
  unfold GivesM
  k_fill
  intro dp un gd env outer A₀ base h₀ L m s Q E B F X N T hf hke hdp hu hret
  simp only [List.cons_append, List.nil_append] at N
  refine wpAny_call ?_
  k_dflt (first | (refine' enterP ?k1 ?k2 ?k3 ?k4 ?k5 ?kA ?kF ?kK ?k6 ?k7 ?k8 ?k9 ?kB ?_ ?c2 ?c3 ?c4 ?c5; (case kA => exact rfl); (case kF => first | exact rfl | assumption); (case kK => first | exact rfl | assumption); (case k1 => k_asm); (case k2 => k_asm); (case k3 => k_asm); (case k4 => k_asm); (case k5 => k_asm); (case k6 => k_is); (case k7 => k_is); (case k8 => (first | exact room_at (by assumption) | ktr_room)); (case k9 => exact BindsTo.of_eq rfl); (case c5 => decide); (case kB => exact locs rfl); (case c2 => exact rfl); (case c3 => exact rfl); (case c4 => exact rfl); k_whole; intro g' L' h' FG' F' N' B' X' T' kG' l1; (try k_lt l1); (try dsimp only); (try k_lift B'); (try k_fold)) | (refine' enterC ?k1 ?k2 ?k3 ?k4 ?k5 ?kA ?kF ?kK ?k6 ?k7 ?k8 ?k9 ?kB ?kD ?_ ?c2 ?c3 ?c4; (case kA => exact rfl); (case kF => first | exact rfl | assumption); (case kK => first | exact rfl | assumption); (case k1 => k_asm); (case k2 => k_asm); (case k3 => k_asm); (case k4 => k_asm); (case k5 => k_asm); (case k6 => k_is); (case k7 => k_is); (case k8 => (first | exact room_at (by assumption) | ktr_room)); (case k9 => exact BindsTo.of_eq rfl); (case kB => exact rfl); (case kD => decide +kernel); (case c2 => exact rfl); (case c3 => exact rfl); (case c4 => exact rfl); k_whole; intro g' L' h' tk' cells' FG' F' N' Y' B' X' T' kG' l1; (try k_lt l1); k_cells Y'; (try simp only [List.cons_append, List.nil_append] at N'); (try dsimp only); (try k_lift B'); (try k_fold)))
  k_dflt (refine hide (by passes_own) fun Q' E' hQ hpo => ?_)
  repeat (first | (k_unfold; (try dsimp only)) | walk1 | (dsimp only; walk1))
  refine Stop.go ?_
  rename _ ∧ _ ∧ AllLt _ _ => hlt0
  rename News _ _ _ _ => Nx
  k_dflt (refine use_draw bx sl c 4 tc _ kb ks svs sns hc (by decide) (List.mem_cons_of_mem _ (List.mem_cons_of_mem _ hsl)) hi hns (fun p hp => ?off) (by k_asm) (by k_asm) (by k_asm) (swap2 Nx) (by k_asm) rfl rfl (room_in hdp (Nat.le_of_ble_eq_true rfl)) (units_in hu (Nat.le_of_ble_eq_true rfl)) ?_)
  case off => rcases List.mem_cons.mp hp with rfl | hp
              · exact Nat.ne_of_gt (Nat.lt_succ_of_lt hlt0.1)
              rcases List.mem_cons.mp hp with rfl | hp
              · exact hne
              · exact hb p hp
  intro k1 t1 tc1 kb1 h1 tk1 F1 N1 hk1 hk4
  dsimp only
  repeat (first | (k_unfold; (try dsimp only)) | walk1 | (dsimp only; walk1))
  refine Stop.go ?_
  rename _ ∧ _ ∧ _ ∧ AllLt _ _ => hlt1
  rename News _ _ _ _ => Nx
  k_dflt (refine use_draw bx sl (c + 1) 3 tc1 _ kb1 ks svs sns (up1 hc) (by decide) (List.mem_cons_of_mem _ (List.mem_cons_of_mem _ (List.mem_cons_of_mem _ hsl))) hi hns (fun p hp => ?off) (by k_asm) (by k_asm) (by k_asm) (swap2 Nx) (by k_asm) rfl rfl (room_in hdp (Nat.le_of_ble_eq_true rfl)) (units_in hu (Nat.le_of_ble_eq_true rfl)) ?_)
  case off => rcases List.mem_cons.mp hp with rfl | hp
              · exact Nat.ne_of_gt hlt1.1
              rcases List.mem_cons.mp hp with rfl | hp
              · exact Nat.ne_of_gt (Nat.lt_succ_of_lt hlt0.1)
              rcases List.mem_cons.mp hp with rfl | hp
              · exact hne
              · exact hb p hp
  intro k2 t2 tc2 kb2 h2 tk2 F2 N2 hk20 hk3
  dsimp only
  repeat (first | (k_unfold; (try dsimp only)) | walk1 | (dsimp only; walk1))
  refine Stop.go ?_
  rename News _ _ _ _ => Nx
  k_dflt (refine ksa_sub (ns := [65537, 65538, 131075]) Nx (by k_mem) (.cons _ _ (.cons _ _ (.cons _ _ .nil))) hk20 hk3 (Int.lt_trans hk3 (by decide)) ?_)
  intro tn
  have hn := three_at hk20 hk3
  generalize ([65537, 65538, 131075] : List Int).getD k2.toNat 0 = n at hn ⊢
  repeat (first | (k_unfold; (try dsimp only)) | walk1 | (dsimp only; walk1))
  refine Stop.go ?_
  rename _ ∧ _ ∧ _ ∧ AllLt _ _ => hltx
  rename News _ _ _ _ => Nx
  k_dflt (refine' storeX_C ?F Nx ?c ?U ?d ?_ ?a ?b; (case a => rfl); (case b => rfl); (case F => k_asm); (case c => rfl); (case d => k_asm))
  case U => refine .tail (by first | exact pick1 (by assumption) | exact pick2 (by assumption) | exact pick3 (by assumption) | exact pick4 (by assumption) | exact pick5 (by assumption) | exact pick6 (by assumption) | exact pick7 (by assumption) | exact pick8 (by assumption) | k_ne) (.tail (by first | exact pick1 (by assumption) | exact pick2 (by assumption) | exact pick3 (by assumption) | exact pick4 (by assumption) | exact pick5 (by assumption) | exact pick6 (by assumption) | exact pick7 (by assumption) | exact pick8 (by assumption) | k_ne) (.tail (by first | exact pick1 (by assumption) | exact pick2 (by assumption) | exact pick3 (by assumption) | exact pick4 (by assumption) | exact pick5 (by assumption) | exact pick6 (by assumption) | exact pick7 (by assumption) | exact pick8 (by assumption) | k_ne) (.head fun p hp => ?_)))
            rcases List.mem_cons.mp hp with rfl | hp
            · exact Nat.ne_of_lt (Nat.lt_succ_of_lt hlt0.2.1)
            · exact Nat.ne_of_lt (Nat.lt_succ_of_lt (kst_ltOf hlt0.2.2 p hp))
  intro h9 o9 F9 N9 d9
  obtain ⟨ha, hvs, hkh, hva, hma, hia⟩ := D.held
  have hlen3 : hvs.length ≤ 3 := by rw [hia.length]; exact ok.len
  have hlim := modules_low (Top.nolimit ‹Top _ _ _ _ _ _›)
  repeat (first | (k_unfold; (try dsimp only)) | walk1 | (dsimp only; walk1))
  · refine Stop.go ?_
    k_dflt (refine lc_pairs (by k_asm) (by with_unfolding_all rfl) (by decide) (by rfl) (by decide) (by rfl) ?_ (by intro _; rfl))
    repeat (first | (k_unfold; (try dsimp only)) | walk1 | (dsimp only; walk1))
    refine Stop.go ?_
    k_dflt (refine kda_item (knd := PySem.strKind _ _) (by k_asm) (by k_mem) hD (strKind_is _ _ _ _) hva ?_)
    repeat (first | (k_unfold; (try dsimp only)) | walk1 | (dsimp only; walk1))
    refine Stop.go ?_
    rename News _ _ _ _ => Nw
    k_dflt (refine kmk_add_lit (by k_asm) (by k_asm) (News.isList Nw (by k_mem)) (News.isList Nw (by k_mem)) rfl ?_ (le_size (Nat.add_le_add_right hlen3 1) (by decide)))
    intro l3 h3 F3 N3 lt3
    have lt3' := lt3
    repeat (first | (k_unfold; (try dsimp only)) | walk1 | (dsimp only; walk1))
    refine Stop.go ?_
    refine ⟨l3, _, W.held ++ [n], _, _, rfl, rfl, by k_asm, by k_asm, List.mem_cons_self .., ?hi, ?hz, ?turn, ?fin⟩
    case hi => exact ints_app hia (.cons _ _ .nil)
    case hz => exact le_size (Nat.le_trans (Nat.le_of_eq (List.length_append ..)) (Nat.add_le_add_right hlen3 1)) (by decide)
    case turn =>
      intro k t I oI C oC D ys news₁ m₂ s₃ E' R hC hm F4 N4 hR
      refine wpAny_mono (Q := fun (y : Value) s₄ => Stop (R y s₄)) ?_ (fun _ _ h => h) (fun _ _ e => e)
      repeat (first | (k_unfold; (try dsimp only)) | walk1 | (dsimp only; walk1))
      rename _ ∧ _ ∧ _ ∧ AllLt _ _ => l9
      refine Stop.go (hR _ _ _ _ (by assumption) (by assumption) (fun p hp => ?_))
      rcases List.mem_cons.mp hp with rfl | hp
      · exact l9.1
      rcases List.mem_cons.mp hp with rfl | hp
      · exact l9.2.1
      rcases List.mem_cons.mp hp with rfl | hp
      · exact l9.2.2.1
      · exact kst_ltOf l9.2.2.2 p hp
    case fin =>
      intro D9 ys R tl h4 tk4 hM F4 N4
      dsimp only
      repeat (first | (k_unfold; (try dsimp only)) | walk1 | (dsimp only; walk1))
      refine Stop.go ?_
      have hR4 : R.length ≤ 4 := by
        have := congrArg List.length hM.keys
        rw [List.length_map, List.length_append, List.length_singleton] at this
        exact Nat.le_trans (Nat.le_of_eq this) (Nat.add_le_add_right ok.len 1)
      k_dflt (refine dict_led rfl (by k_asm) N4 (List.mem_cons_self ..) (hM.rows.mono fun p hp => List.mem_cons_of_mem _ (List.mem_append_left _ hp)) (Nat.le_trans (Nat.le_of_eq hM.rows.length) (Nat.le_trans hR4 (by decide))) hlim ?_)
      intro d5 o5 h5 tk5 F5 N5 lt5 lo5 hD5
      have lt5' := lt5
      dsimp only
      repeat (first | (k_unfold; (try dsimp only)) | walk1 | (dsimp only; walk1))
      refine Stop.go ?_
      have hml := merged_length_le [] R
      rw [List.length_nil] at hml
      k_dflt (refine sorted_led rfl (by k_asm) N5 (List.mem_cons_self ..) hD5 lo5 (Nat.lt_of_le_of_lt hml (Nat.lt_of_le_of_lt (Nat.le_of_eq (Nat.zero_add _)) (Nat.lt_of_le_of_lt hR4 (by decide)))) ?_)
      intro D6 vs6 ns6 c6 h6 tk6 F6 N6 lt6 hi6 hp6 ho6
      dsimp only
      repeat (first | (k_unfold; (try dsimp only)) | walk1 | (dsimp only; walk1))
      refine Stop.go ?_
      have N7 := pick_add N6
      k_dflt (refine kda_set (knd := PySem.strKind _ _) (by k_asm) N7 (.tail (Nat.ne_of_gt (lt6 (wd, oW) (by k_mem))) (.tail hne.symm (.tail (Nat.ne_of_gt (Nat.lt_succ_of_lt hlt0.2.1)) (.head hw)))) hD (strKind_is _ _ _ _) (le_size (Nat.le_trans hlk hi2) (by decide)) ?_)
      intro hz oz Fz Nz hdz
      repeat (first | (k_unfold; (try dsimp only)) | walk1 | (dsimp only; walk1))
      refine hQ _ _ ?_
      repeat (first | (k_unfold; (try dsimp only)) | walk1 | (dsimp only; walk1))
      rename _ ∧ _ ∧ _ ∧ _ ∧ AllLt _ _ => l9
      have hks := rise_of ho6 hp6 (dict_nd hD5)
      have hmem : ∀ x, x ∈ ns6 ↔ x ∈ W.held ++ [n] := fun x => by rw [hp6.mem_iff, keys_merged, hM.keys]; simp
      exact give2 hret N (by assumption) (by assumption) (by assumption) (by assumption) (by assumption) (lt_three l9.2.1 l9.2.2.2.1 l9.2.2.2.2) (fun q hq => by
          rcases List.mem_cons.mp hq with rfl | hq
          · exact Nat.ne_of_lt (lt6 (bx, _) (by k_mem))
          rcases List.mem_cons.mp hq with rfl | hq
          · exact Nat.ne_of_lt (lt6 (wd, oW) (by k_mem))
          · exact Nat.ne_of_lt (lt6 q (by k_mem)))
        ⟨up2 hc, hdz, Nat.le_trans (stored_length_le ..) (Nat.le_succ_of_le (Nat.succ_le_succ hlk)), (D.mono fun p hp => List.mem_append_right _ hp).set_held (fun k => valueAt_stored ..) (List.mem_append_left _ (List.mem_cons_of_mem _ (List.mem_cons_self ..))) hi6, ok.add hn hks hmem, .add (List.mem_append_left _ (List.mem_cons_self ..)) hks hmem⟩
  · repeat (first | (k_unfold; (try dsimp only)) | walk1 | (dsimp only; walk1))
    refine Stop.go ?_
    have N7 := pick9 N9
    k_dflt (refine kda_set (knd := PySem.strKind _ _) (by k_asm) N7 (.tail hne.symm (.tail (Nat.ne_of_gt (Nat.lt_succ_of_lt hlt0.2.1)) (.head hw))) hD (strKind_is _ _ _ _) (le_size (Nat.le_trans hlk hi2) (by decide)) ?_)
    intro hz oz Fz Nz hdz
    repeat (first | (k_unfold; (try dsimp only)) | walk1 | (dsimp only; walk1))
    refine hQ _ _ ?_
    repeat (first | (k_unfold; (try dsimp only)) | walk1 | (dsimp only; walk1))
    rename _ ∧ _ ∧ _ ∧ AllLt _ _ => l9
    exact give1 hret N (by assumption) (by assumption) (by assumption) (by assumption) (by assumption) (lt_three l9.1 l9.2.2.1 l9.2.2.2)
        ⟨up2 hc, hdz, Nat.le_trans (stored_length_le ..) (Nat.le_succ_of_le (Nat.succ_le_succ hlk)), (D.mono fun p hp => List.mem_append_right _ hp).set_med (fun k => valueAt_stored ..), ok.set n, .set (List.mem_append_left _ (List.mem_cons_self ..))⟩
  · repeat (first | (k_unfold; (try dsimp only)) | walk1 | (dsimp only; walk1))
    · refine Stop.go ?_
      rename News _ _ _ _ => Nx
      have N7 := pickc Nx
      rename _ ∧ _ ∧ _ ∧ _ ∧ _ ∧ AllLt _ _ => lt7
      k_dflt (refine kda_set (knd := PySem.strKind _ _) (by k_asm) N7 (.tail (Nat.ne_of_gt lt7.2.2.2.2.1) (.tail hne.symm (.tail (Nat.ne_of_gt (Nat.lt_succ_of_lt hlt0.2.1)) (.head hw)))) hD (strKind_is _ _ _ _) (le_size (Nat.le_trans hlk hi2) (by decide)) ?_)
      intro hz oz Fz Nz hdz
      repeat (first | (k_unfold; (try dsimp only)) | walk1 | (dsimp only; walk1))
      refine Stop.go ?_
      cases hcm : W.cm
      · k_dflt (refine kda_item (knd := PySem.strKind _ _) (by k_asm) (by k_mem) hdz (strKind_is _ _ _ _) (by rw [valueAt_stored, if_neg (by decide), D.cm, hcm]) ?_)
        repeat (first | (k_unfold; (try dsimp only)) | walk1 | (dsimp only; walk1))
        refine Stop.go ?_
        rename News _ _ _ _ => N8
        k_dflt (refine kda_set (knd := PySem.strKind _ _) (by k_asm) N8 (.tail (Nat.ne_of_gt lt7.2.2.2.2.1) (.tail hne.symm (.tail (Nat.ne_of_gt (Nat.lt_succ_of_lt hlt0.2.1)) (.head hw)))) hdz (strKind_is _ _ _ _) (le_size (Nat.le_trans (Nat.le_trans (stored_length_le ..) (Nat.succ_le_succ hlk)) (Nat.succ_le_succ hi2)) (by decide)) ?_)
        intro hy oy Fy Ny hdy
        repeat (first | (k_unfold; (try dsimp only)) | walk1 | (dsimp only; walk1))
        rotate_left
        · exact absurd (by assumption : k1 = 2) (by assumption : k1 ≠ 2)
        refine hQ _ _ ?_
        repeat (first | (k_unfold; (try dsimp only)) | walk1 | (dsimp only; walk1))
        rename _ ∧ _ ∧ _ ∧ _ ∧ AllLt _ _ => l9
        exact give2 hret N (by assumption) (by assumption) (by assumption) (by assumption) (by assumption) (lt_three l9.2.1 l9.2.2.2.1 l9.2.2.2.2) (fun q hq => Nat.ne_of_lt (lt_three lt7.2.1 lt7.2.2.2.2.1 lt7.2.2.2.2.2 q hq))
          ⟨up2 hc, hdy, Nat.le_trans (stored_length_le ..) (Nat.succ_le_succ (Nat.le_trans (stored_length_le ..) (Nat.succ_le_succ hlk))), ((D.mono fun p hp => List.mem_append_right _ hp).set_held (vs := []) (ns := []) (fun k => valueAt_stored ..) (List.mem_append_left _ (List.mem_cons_of_mem _ (List.mem_cons_self ..))) .nil).set_cm (fun k => valueAt_stored ..), ok.clear, .clear (List.mem_append_left _ (List.mem_cons_self ..))⟩
      · k_dflt (refine kda_item (knd := PySem.strKind _ _) (by k_asm) (by k_mem) hdz (strKind_is _ _ _ _) (by rw [valueAt_stored, if_neg (by decide), D.cm, hcm]) ?_)
        repeat (first | (k_unfold; (try dsimp only)) | walk1 | (dsimp only; walk1))
        refine Stop.go ?_
        k_dflt (refine kda_item (knd := PySem.strKind _ _) (by k_asm) (by k_mem) hdz (strKind_is _ _ _ _) (by rw [valueAt_stored, if_pos rfl]) ?_)
        repeat (first | (k_unfold; (try dsimp only)) | walk1 | (dsimp only; walk1))
        refine Stop.go ?_
        k_dflt (refine ne_dataH (by ke_read) (by ke_read) (by ke_shaped) (by ke_shaped) (units_ne hu (Nat.le_of_ble_eq_true rfl)) ?_)
        ke_norm
        repeat (first | (k_unfold; (try dsimp only)) | walk1 | (dsimp only; walk1))
        refine Stop.go ?_
        rename News _ _ _ _ => Nx
        have N8 := pickd Nx
        k_dflt (refine kda_set (knd := PySem.strKind _ _) (by k_asm) N8 (.tail (Nat.ne_of_gt lt7.2.2.2.2.1) (.tail hne.symm (.tail (Nat.ne_of_gt (Nat.lt_succ_of_lt hlt0.2.1)) (.head hw)))) hdz (strKind_is _ _ _ _) (le_size (Nat.le_trans (Nat.le_trans (stored_length_le ..) (Nat.succ_le_succ hlk)) (Nat.succ_le_succ hi2)) (by decide)) ?_)
        intro hy oy Fy Ny hdy
        repeat (first | (k_unfold; (try dsimp only)) | walk1 | (dsimp only; walk1))
        rotate_left
        · exact absurd (by assumption : k1 = 2) (by assumption : k1 ≠ 2)
        refine hQ _ _ ?_
        repeat (first | (k_unfold; (try dsimp only)) | walk1 | (dsimp only; walk1))
        rename _ ∧ _ ∧ _ ∧ _ ∧ AllLt _ _ => l9
        exact give2 hret N (by assumption) (by assumption) (by assumption) (by assumption) (by assumption) (lt_three l9.2.1 l9.2.2.2.1 l9.2.2.2.2) (fun q hq => Nat.ne_of_lt (lt_three lt7.2.1 lt7.2.2.2.2.1 lt7.2.2.2.2.2 q hq))
          ⟨up2 hc, hdy, Nat.le_trans (stored_length_le ..) (Nat.succ_le_succ (Nat.le_trans (stored_length_le ..) (Nat.succ_le_succ hlk))), ((D.mono fun p hp => List.mem_append_right _ hp).set_held (vs := []) (ns := []) (fun k => valueAt_stored ..) (List.mem_append_left _ (List.mem_cons_of_mem _ (List.mem_cons_self ..))) .nil).set_cm (fun k => valueAt_stored ..), ok.clear, .clear (List.mem_append_left _ (List.mem_cons_self ..))⟩
    · repeat (first | (k_unfold; (try dsimp only)) | walk1 | (dsimp only; walk1))
      refine Stop.go ?_
      k_dflt (refine lc_quiet (by k_asm) (pn n) (fun v y => y = v) rfl (by with_unfolding_all rfl) (by decide) (by rfl) (by decide) (by rfl) ?_ (by intro _; rfl))
      repeat (first | (k_unfold; (try dsimp only)) | walk1 | (dsimp only; walk1))
      refine Stop.go ?_
      k_dflt (refine kda_item (knd := PySem.strKind _ _) (by k_asm) (by k_mem) hD (strKind_is _ _ _ _) hva ?_)
      repeat (first | (k_unfold; (try dsimp only)) | walk1 | (dsimp only; walk1))
      refine Stop.go ?_
      rename News _ _ _ _ => Np
      refine ⟨_, _, _, Src.list (News.isList Np (by k_mem)), le_size hlen3 (by decide), by k_asm, by k_asm, ?ht, ?he, ?hq⟩
      case ht =>
        intro C oC i v m₂ s₃ E' hv hC hm up F3 N3
        obtain ⟨k, t', rfl, hk⟩ := IntsAre.at hia i v (by simpa using hv)
        refine wpAny_tests_one (wpAny_mono (Q := fun ok s₄ => Stop (ok = pn n (.int k t') ∧ Keeps s₃ s₄)) ?_ (fun _ _ h => h) (fun _ _ e => e))
        repeat (first | (k_unfold; (try dsimp only)) | walk1 | (dsimp only; walk1))
        refine Stop.go ⟨?_, keeps_toks⟩
        show (!(k == n)) = !decide (k = n)
        by_cases hkn : k = n <;> simp [hkn]
      case he =>
        intro C oC i v m₂ s₃ E' hv _ hC hm up F3 N3
        obtain ⟨k, t', rfl, hk⟩ := IntsAre.at hia i v (by simpa using hv)
        refine wpAny_mono (Q := fun (y : Value) s₄ => Stop (y = Value.int k t' ∧ Keeps s₃ s₄)) ?_ (fun _ _ h => h) (fun _ _ e => e)
        repeat (first | (k_unfold; (try dsimp only)) | walk1 | (dsimp only; walk1))
        exact Stop.go ⟨rfl, keeps_self⟩
      case hq =>
        intro D6 k6 ys6 us6 h6b tk6b hlen6 hus6 hP6 up6 F6b N6b ne6
        have e6 : us6 = hvs := same_list hlen6 hus6
        subst e6
        have e7 := paired_eq hP6
        subst e7
        have hif := ints_filter n hia
        repeat (first | (k_unfold; (try dsimp only)) | walk1 | (dsimp only; walk1))
        refine Stop.go ?_
        have N7 := pickc N6b
        have nw := ne6 (wd, oW) (by k_mem)
        have nb := ne6 (bx, _) (List.mem_cons_of_mem _ (List.mem_cons_self ..))
        k_dflt (refine kda_set (knd := PySem.strKind _ _) (by k_asm) N7 (.tail (Ne.symm nw) (.tail hne.symm (.tail (Nat.ne_of_gt (Nat.lt_succ_of_lt hlt0.2.1)) (.head hw)))) hD (strKind_is _ _ _ _) (le_size (Nat.le_trans hlk hi2) (by decide)) ?_)
        intro hz oz Fz Nz hdz
        repeat (first | (k_unfold; (try dsimp only)) | walk1 | (dsimp only; walk1))
        refine Stop.go ?_
        cases hcm : W.cm
        · k_dflt (refine kda_item (knd := PySem.strKind _ _) (by k_asm) (by k_mem) hdz (strKind_is _ _ _ _) (by rw [valueAt_stored, if_neg (by decide), D.cm, hcm]) ?_)
          repeat (first | (k_unfold; (try dsimp only)) | walk1 | (dsimp only; walk1))
          refine Stop.go ?_
          rename News _ _ _ _ => N8
          k_dflt (refine kda_set (knd := PySem.strKind _ _) (by k_asm) N8 (.tail (Ne.symm nw) (.tail hne.symm (.tail (Nat.ne_of_gt (Nat.lt_succ_of_lt hlt0.2.1)) (.head hw)))) hdz (strKind_is _ _ _ _) (le_size (Nat.le_trans (Nat.le_trans (stored_length_le ..) (Nat.succ_le_succ hlk)) (Nat.succ_le_succ hi2)) (by decide)) ?_)
          intro hy oy Fy Ny hdy
          repeat (first | (k_unfold; (try dsimp only)) | walk1 | (dsimp only; walk1))
          · exact absurd (by assumption : k1 = 2) (by assumption : k1 ≠ 2)
          repeat (first | (k_unfold; (try dsimp only)) | walk1 | (dsimp only; walk1))
          refine hQ _ _ ?_
          repeat (first | (k_unfold; (try dsimp only)) | walk1 | (dsimp only; walk1))
          rename _ ∧ _ ∧ _ ∧ _ ∧ AllLt _ _ => l9
          exact give2 hret N (by assumption) (by assumption) (by assumption) (by assumption) (by assumption) (lt_three l9.2.1 l9.2.2.2.1 l9.2.2.2.2) (fun q hq => by
            rcases List.mem_cons.mp hq with rfl | hq
            · exact nb
            rcases List.mem_cons.mp hq with rfl | hq
            · exact nw
            · exact ne6 q (by k_mem))
            ⟨up2 hc, hdy, Nat.le_trans (stored_length_le ..) (Nat.succ_le_succ (Nat.le_trans (stored_length_le ..) (Nat.succ_le_succ hlk))), ((D.mono fun p hp => List.mem_append_right _ hp).set_held (fun k => valueAt_stored ..) (List.mem_append_left _ (List.mem_cons_of_mem _ (List.mem_cons_self ..))) hif).set_cm (fun k => by rw [valueAt_stored, hcm]; simp only [Bool.true_and, Bool.false_and, dec_empty]), ok.drop n, .drop (List.mem_append_left _ (List.mem_cons_self ..))⟩
        · k_dflt (refine kda_item (knd := PySem.strKind _ _) (by k_asm) (by k_mem) hdz (strKind_is _ _ _ _) (by rw [valueAt_stored, if_neg (by decide), D.cm, hcm]) ?_)
          repeat (first | (k_unfold; (try dsimp only)) | walk1 | (dsimp only; walk1))
          refine Stop.go ?_
          k_dflt (refine kda_item (knd := PySem.strKind _ _) (by k_asm) (by k_mem) hdz (strKind_is _ _ _ _) (by rw [valueAt_stored, if_pos rfl]) ?_)
          repeat (first | (k_unfold; (try dsimp only)) | walk1 | (dsimp only; walk1))
          refine Stop.go ?_
          rename News _ _ _ _ => Nb
          k_dflt (refine ke_ne_ints (News.isList Nb (by k_mem)) (News.isList Nb (List.mem_cons_self ..)) hif IntsAre.nil (units_ne hu (Nat.le_of_ble_eq_true rfl)) ?_)
          repeat (first | (k_unfold; (try dsimp only)) | walk1 | (dsimp only; walk1))
          refine Stop.go ?_
          rename News _ _ _ _ => Nx
          have N8 := pickd Nx
          k_dflt (refine kda_set (knd := PySem.strKind _ _) (by k_asm) N8 (.tail (Ne.symm nw) (.tail hne.symm (.tail (Nat.ne_of_gt (Nat.lt_succ_of_lt hlt0.2.1)) (.head hw)))) hdz (strKind_is _ _ _ _) (le_size (Nat.le_trans (Nat.le_trans (stored_length_le ..) (Nat.succ_le_succ hlk)) (Nat.succ_le_succ hi2)) (by decide)) ?_)
          intro hy oy Fy Ny hdy
          repeat (first | (k_unfold; (try dsimp only)) | walk1 | (dsimp only; walk1))
          · exact absurd (by assumption : k1 = 2) (by assumption : k1 ≠ 2)
          repeat (first | (k_unfold; (try dsimp only)) | walk1 | (dsimp only; walk1))
          refine hQ _ _ ?_
          repeat (first | (k_unfold; (try dsimp only)) | walk1 | (dsimp only; walk1))
          rename _ ∧ _ ∧ _ ∧ _ ∧ AllLt _ _ => l9
          exact give2 hret N (by assumption) (by assumption) (by assumption) (by assumption) (by assumption) (lt_three l9.2.1 l9.2.2.2.1 l9.2.2.2.2) (fun q hq => by
            rcases List.mem_cons.mp hq with rfl | hq
            · exact nb
            rcases List.mem_cons.mp hq with rfl | hq
            · exact nw
            · exact ne6 q (by k_mem))
            ⟨up2 hc, hdy, Nat.le_trans (stored_length_le ..) (Nat.succ_le_succ (Nat.le_trans (stored_length_le ..) (Nat.succ_le_succ hlk))), ((D.mono fun p hp => List.mem_append_right _ hp).set_held (fun k => valueAt_stored ..) (List.mem_append_left _ (List.mem_cons_of_mem _ (List.mem_cons_self ..))) hif).set_cm (fun k => by rw [valueAt_stored, hcm]; simp only [Bool.true_and, Bool.false_and, dec_empty]), ok.drop n, .drop (List.mem_append_left _ (List.mem_cons_self ..))⟩
/-- _law_change, put to use -/
theorem use_change {news : Led} (W : AW) (ok : Ok3 W) (bx sl wd : Addr) (c : Int) (tc : Tok) (kb ks : Nat) (svs : List Value) (sns : List Int) (hc : 0 ≤ c) (hsl : (sl, listOf svs.toArray ks) ∈ news) (hi : IntsAre svs sns) (hns : sns.length ≤ 63)
    (oW : Obj) (kvsW : List (Str × Value)) (hD : oW.IsDictOf (PySem.strKind (PySem.Challenge.rw_rh0202_01.row.prog) w) kvsW) (lo : (wd == sysModules) = false) (D : WDesc news kvsW W) (i : Nat) (hlk : kvsW.length ≤ i) (hi2 : i ≤ 100) (hne : wd ≠ bx) (hb : ∀ p ∈ news, p.1 ≠ bx) (hw : ∀ p ∈ news, p.1 ≠ wd)
    {dp un : Nat} {gd : Option (List Code)} {env : Env} {outer : List Env} {A₀ : Around} {base h₀ : Heap} {L : Addr} {m : Str → Option Value} {s : Shared} {Q E : Value → Shared → Prop}
    (B : Below A₀ base outer h₀) (F : Fr h₀ L s.heap m) (X : (Mine.hd.heap_39 w.params).In h₀) (N : News h₀ L s.heap ([(bx, listOf #[.ref sl, .int c tc] kb), (wd, oW)] ++ news)) (T : Top Mine.hd.view_39 (looseW Mine.hd.view_39 [Str.ofString "FIELDS", Str.ofString "KNOWN_ATTRS"]) mean mg mb h₀)
    (hf : env.frame = some L) (hk : env.scope.kind = .function) (hd : dp + 20 < recursionLimit) (hu : un + 8 * 20 < cLine)
    (ret : ∀ sa W' oW' kvsW' c' tc' kb' tl h' tk', Fr h₀ L h' m → News h₀ L h' (tl ++ ([(bx, listOf #[.ref sl, .int c' tc'] kb'), (wd, oW')] ++ news)) → (∀ p ∈ tl, ∀ q ∈ [(bx, listOf #[.ref sl, .int c' tc'] kb'), (wd, oW')] ++ news, q.1 ≠ p.1) → 0 ≤ c' →
      oW'.IsDictOf (PySem.strKind PySem.Challenge.rw_rh0202_01.row.prog w) kvsW' → kvsW'.length ≤ i + 2 → WDesc (tl ++ news) kvsW' W' → Ok3 W' → Step (tl ++ news) (.ref sa) W W' → Q (.ref sa) { s with heap := h', toks := tk' }) :
    wpAny (model PySem.Challenge.rw_rh0202_01.row.prog w) { handled := none, depth := dp, frames := some (env :: outer), guards := gd, units := un } (call (.ref 168) [.ref bx, .ref wd]) Q E s :=
  useM (law_change W ok bx sl wd c tc kb ks svs sns hc hsl hi hns oW kvsW hD lo D i hlk hi2 hne hb hw) B F X N T hf hk hd hu fun r tl pre' h' tk' _ F N ne e => by
    cases e with
    | mk h1 h2 h3 h4 h5 h6 => exact ret _ _ _ _ _ _ _ _ h' tk' F N ne h1 h2 h3 h4 h5 h6
end Mine
end

/-! part E -/
section
set_option maxRecDepth 100000
set_option maxHeartbeats 2000000
namespace Mine
open PySem PySem.W PyProof.Rows PySem.Spec PySem.Calls

def VD.data : VD → PyData
  | .num n => .int n
  | .nums l => .tuple (l.map PyData.int)
  | .txts l => .tuple (l.map PyData.str)
theorem readsAll_strs {h : Heap} : ∀ {vs : List Value} {ns : List Str}, StrsAre vs ns → ReadsAll h vs (ns.map PyData.str) []
  | _, _, .nil => .nil
  | _, _, .cons k t r => by
    have := ReadsAll.cons (Reads.str (h := h) k t) (readsAll_strs (h := h) r)
    simpa using this
theorem hold_reads {h₀ h : Heap} {L : Addr} {news : Led} {d : VD} {v : Value} (N : News h₀ L h news) (H : d.Holds news v) : Reads h v d.data [] := by
  cases d with
  | num n => obtain ⟨t, rfl⟩ := H; exact Reads.int n t
  | nums l => obtain ⟨a, vs, rfl, hm, hi⟩ := H; exact Reads.tuple (N _ hm).1 rfl rfl (by simpa using readsAll_of_ints hi)
  | txts l => obtain ⟨a, vs, rfl, hm, hi⟩ := H; exact Reads.tuple (N _ hm).1 rfl rfl (by simpa using readsAll_strs hi)
theorem shaped_tup (l : List Int) : SeqAt.shaped (.tuple (l.map PyData.int)) = true := by
  have h1 := PySem.W.depthAll_ints l
  have h2 : PyData.depth (.tuple (l.map PyData.int)) ≤ 64 := by simp only [PyData.depth]; omega
  show (PyData.canLay0 (.tuple (l.map PyData.int)) && decide (PyData.depth (.tuple (l.map PyData.int)) ≤ 64)) = true
  rw [Bool.and_eq_true]
  exact ⟨by simp only [PyData.canLay0]; exact canLayAll0_ints l, decide_eq_true h2⟩
theorem look_shaped {W : AW} {x : Str} {d : VD} (h : W.look x = some d) : SeqAt.shaped d.data = true := by
  rcases look_cases h with ⟨_, rfl⟩ | ⟨_, m, _, rfl⟩ | ⟨_, _, rfl⟩ | ⟨_, _, rfl⟩ | ⟨_, _, rfl⟩
  · rfl
  · rfl
  · exact shaped_tup _
  · exact shaped_tup _
  · show SeqAt.shaped (.tuple (W.marks.map PyData.str)) = true
    unfold AW.marks
    split <;> split <;> decide +kernel
theorem Desc.len_eq {news news' : Led} {ka kb : List (Str × Value)} {W : AW} (D : Desc news ka W) (D' : Desc news' kb W) : ka.length ≤ kb.length := by
  have := nodup_le (ka.map (·.1)) (kb.map (·.1)) D.nd fun k hk => by
    obtain ⟨v, hv⟩ := mem_of_valueAt hk
    have h1 := D.at_ k
    rw [hv] at h1
    cases hl : W.look k with
    | none => rw [hl] at h1; cases h1
    | some d =>
      have h2 := D'.at_ k
      rw [hl] at h2
      obtain ⟨y, hy, _⟩ := h2
      exact mem_of_some hy
  simpa using this
section
variable {prog : Program} {w : World} {A : Around} {E : Value → Shared → Prop} {s : Shared} {h₀ : Heap} {L : Addr} {m : Str → Option Value}
theorem hits_of {news : Led} {ka kb : List (Str × Value)} {W : AW} (N : News h₀ L s.heap news) (D : Desc news ka W) (D' : Desc news kb W) (hu : A.in1.units + 64 < cLine) :
    ∀ (l : List (Str × Value)), (∀ (i : Nat) k v, l[i]? = some (k, v) → valueAt ka k = some v) → KeqHits A.in1 s kb l true
  | [], _ => .nil
  | (k, v) :: l, h => by
    have hv := h 0 k v rfl
    have h1 := D.at_ k
    rw [hv] at h1
    cases hl : W.look k with
    | none => rw [hl] at h1; cases h1
    | some d =>
      have h2 := D'.at_ k
      rw [hl] at h1 h2
      obtain ⟨v', e, hd⟩ := h1
      cases e
      obtain ⟨y, hy, hd'⟩ := h2
      have x := keq_at (A := A) (hold_reads N hd) (hold_reads N hd') (look_shaped hl) (look_shaped hl) hu
      rw [SeqAt.eqv_refl _ (SeqAt.canLay_of_shaped (look_shaped hl))] at x
      exact KeqHits.hit (e := true) (b := true) hy x (hits_of N D D' hu l fun i k v hi => h (i + 1) k v (by simpa using hi))

/-- two dicts of one description are not unequal -/
theorem ne_desc {news : Led} {W : AW} {a b : Addr} {oa ob : Obj} {ka kb : List (Str × Value)} {Q : Value → Shared → Prop} (N : News h₀ L s.heap news) (pa : (a, oa) ∈ news) (pb : (b, ob) ∈ news) (da : oa.IsDictOf (PySem.strKind prog w) ka) (db : ob.IsDictOf (PySem.strKind prog w) kb)
    (la : (a == sysModules) = false) (lb : (b == sysModules) = false) (D : Desc news ka W) (D' : Desc news kb W) (hu : A.in1.units + 64 < cLine) (hu' : A.units < cLine) (h : Q (.bool false) s) : wpAny (model prog w) A (compareOp .NotEq (.ref a) (.ref b)) Q E s :=
  kne_pairs N pa pb da db la lb (Nat.le_antisymm (D.len_eq D') (D'.len_eq D)) hu' (hits_of N D D' hu ka fun _ _ _ hi => valueAt_of_get D.nd hi) h

/-- a copy of a dict of the ledger -/
theorem copy_led {K : Type} [DecidableEq K] {knd : KeyKind prog w K} {news : Led} {d : Addr} {o : Obj} {kvs : List (K × Value)} {Q : Value → Shared → Prop} (F : Fr h₀ L s.heap m) (N : News h₀ L s.heap news) (hd : (d, o) ∈ news) (hD : o.IsDictOf knd kvs) (lo : (d == sysModules) = false) (hl : kvs.length ≤ sizeLine) (big : sysModules < h₀.objs.size)
    (h : ∀ d' o' h', Fr h₀ L h' m → News h₀ L h' ((d', o') :: news) → (∀ p ∈ news, p.1 < d') → (d' == sysModules) = false → o'.IsDictOf knd kvs → Q (.ref d') { s with heap := h' }) :
    wpAny (model prog w) A (call (.type "dict") [.ref d]) Q E s := by
  refine kt_call_dict lo (kda_dict N hd hD) hl fun h' hm hs => ?_
  obtain ⟨o', ho', hD'⟩ := Heap.dictOf_iff.mp hm
  have hk : ∀ b o, s.heap.get? b = some o → h'.get? b = some o := fun b o e => (hs.2 b (Nat.ne_of_lt (Heap.lt_size e))).trans (Heap.get?_push_of_some _ e)
  exact h _ o' h' (F.keeps hk) (news_new F N hk (Heap.get?_none_of_le (Nat.le_refl _)) ho') (fun p hp => Heap.lt_size (N p hp).1) (F.notModules big) hD'
end
variable {w : World} {mean : ExcName → Option Value} {mg mb : Str → Option Value}

theorem Ok3.ok {W : AW} (ok : Ok3 W) : W.Ok := ⟨ok.med, fun k hk => by rcases ok.three k hk with rfl | rfl | rfl <;> decide, ok.len⟩

theorem changed_step {news led : Led} {r : Value} {W W' : AW} (st : Step led r W W') (hs : ∀ p ∈ led, p ∈ news) (ok : Ok3 W) (d : Addr) (oD : Obj) (kvs : List (Str × Value)) (hd : (d, oD) ∈ news) (hD : oD.IsDictOf (PySem.strKind (PySem.Challenge.rw_rh0202_01.row.prog) w) kvs) (lo : (d == sysModules) = false) (D : Desc news kvs W) (fd : Addr) :
    Gives w mean mg mb 24 44 news [r, .ref d, .ref fd] (NewDict PySem.Challenge.rw_rh0202_01.row.prog w news W') := by
  cases st with
  | @add W sa n t0 t1 ks hm hk he =>
    have := changed_add (w := w) (mean := mean) (mg := mg) (mb := mb) W ok.ok d oD kvs hd hD lo D sa fd n t0 t1 0 (hs _ hm) ks hk he ok.inv
    have hne : ks.isEmpty = false := by
      have hx : n ∈ ks := (he n).mpr (List.mem_append_right _ (List.mem_singleton.mpr rfl))
      cases ks with
      | nil => cases hx
      | cons _ _ => rfl
    rw [hne, Bool.not_false, Bool.and_true] at this
    exact this
  | @set W sa n t0 t1 t2 hm => exact changed_set W ok.ok d oD kvs hd hD lo D sa fd n t0 t1 t2 (hs _ hm) ok.inv
  | @clear W sa t0 hm =>
    have := changed_clear (w := w) (mean := mean) (mg := mg) (mb := mb) W ok.ok d oD kvs hd hD lo D sa fd 0 t0 0 0 (hs _ hm) ok.inv
    rw [List.isEmpty_nil, Bool.not_true, Bool.and_false] at this
    exact this
  | @drop W sa n t0 t1 hm => exact changed_drop W ok.ok d oD kvs hd hD lo D sa fd n t0 t1 0 (hs _ hm) _ (ok.asc.filter _) (fun _ => Iff.rfl) ok.inv
end Mine
end

/-! part Y -/
section
set_option maxRecDepth 100000
set_option maxHeartbeats 2000000
namespace Mine
open PySem PySem.W PyProof.Rows PySem.Spec PySem.Calls

theorem VD.Holds.only {news news' : Led} {d : VD} {v : Value} (h : d.Holds news v) (hs : ∀ p ∈ news, p.2.cls = .type "tuple" → p ∈ news') : d.Holds news' v := by
  cases d with
  | num n => exact h
  | nums l => obtain ⟨a, vs, e, m, i⟩ := h; exact ⟨a, vs, e, hs _ m rfl, i⟩
  | txts l => obtain ⟨a, vs, e, m, i⟩ := h; exact ⟨a, vs, e, hs _ m rfl, i⟩
theorem Desc.only {news news' : Led} {kvs : List (Str × Value)} {W : AW} (h : Desc news kvs W) (hs : ∀ p ∈ news, p.2.cls = .type "tuple" → p ∈ news') : Desc news' kvs W := by
  refine ⟨h.nd, fun k => ?_⟩
  have := h.at_ k
  cases hl : W.look k with
  | none => rw [hl] at this; exact this
  | some d => rw [hl] at this; obtain ⟨v, e, hd⟩ := this; exact ⟨v, e, hd.only hs⟩
theorem WDesc.only {news news' : Led} {kvs : List (Str × Value)} {W : AW} (D : WDesc news kvs W) (hs : ∀ p ∈ news, p.2.cls = .type "list" → p ∈ news') : WDesc news' kvs W :=
  ⟨D.med, let ⟨a, vs, k, e, m, i⟩ := D.held; ⟨a, vs, k, e, hs _ m rfl, i⟩, D.cm, D.ag, D.agm⟩
theorem not_tuple {prog : Program} {w : World} {K : Type} [DecidableEq K] {knd : KeyKind prog w K} {o : Obj} {kvs : List (K × Value)} (h : o.IsDictOf knd kvs) : o.cls ≠ .type "tuple" := by
  obtain ⟨_, _, hc, _⟩ := h
  rw [hc.1]; decide

/-- between the turns of law -/
inductive TInv (prog : Program) (w : World) (bx wd sl I : Addr) (svs : List Value) (ksl : Nat) (i : Nat) (m : Str → Option Value) : Led → Prop
  | mk (W : AW) (oW : Obj) (kvsW : List (Str × Value)) (c : Int) (tc : Tok) (kb : Nat) (da : Addr) (oA : Obj) (kvsA : List (Str × Value)) (tl : Led) : m (Str.ofString "box") = some (.ref bx) → m (Str.ofString "world") = some (.ref wd) → m (Str.ofString "attrs") = some (.ref da) → 0 ≤ c →
    oW.IsDictOf (PySem.strKind prog w) kvsW → kvsW.length ≤ 5 + 2 * i → WDesc tl kvsW W → Ok3 W → (sl, listOf (List.toArray svs) ksl) ∈ tl → (da, oA) ∈ tl → oA.IsDictOf (PySem.strKind prog w) kvsA → (da == sysModules) = false → Desc tl kvsA W →
    (∀ p ∈ tl, p.1 ≠ bx ∧ p.1 ≠ wd ∧ p.1 ≠ I) → bx ≠ I → wd ≠ I → TInv prog w bx wd sl I svs ksl i m ((bx, listOf #[.ref sl, .int c tc] kb) :: (wd, oW) :: tl)

section
variable {prog : Program} {w : World} {A : Around} {E : Value → Shared → Prop} {Q : Flow → Shared → Prop} {s : Shared} {env : Env} {h₀ : Heap} {body : List Stmt}
theorem turns_rest {I bx wd sl : Addr} {svs : List Value} {ksl : Nat}
    (turn : ∀ i u da t (it : Obj) h tk W oW kvsW c tc kb oA kvsA tl (R : (Str → Option Value) → Led → Prop), i < 4 → it.cls = .type "range_iterator" → (∀ m' news', TInv prog w bx wd sl I svs ksl (i + 1) m' news' → R m' news') →
      Fr h₀ env.locals h (kstB u [(Str.ofString "turn", .int (0 + (i : Int)) t), (Str.ofString "box", .ref bx), (Str.ofString "world", .ref wd), (Str.ofString "attrs", .ref da)]) → News h₀ env.locals h ((I, it) :: (bx, listOf #[.ref sl, .int c tc] kb) :: (wd, oW) :: tl) → 0 ≤ c →
      oW.IsDictOf (PySem.strKind prog w) kvsW → kvsW.length ≤ 5 + 2 * i → WDesc tl kvsW W → Ok3 W → (sl, listOf (List.toArray svs) ksl) ∈ tl → (da, oA) ∈ tl → oA.IsDictOf (PySem.strKind prog w) kvsA → (da == sysModules) = false → Desc tl kvsA W →
      (∀ p ∈ tl, p.1 ≠ bx ∧ p.1 ≠ wd ∧ p.1 ≠ I) → bx ≠ I → wd ≠ I →
      wpAny (model prog w) A (execs body env) (UnrPost h₀ env.locals { s with heap := h, toks := tk } I it R Q) E { s with heap := h, toks := tk })
    (done : ∀ u h tk news, Fr h₀ env.locals h (kstB u []) → News h₀ env.locals h news → Q .next { s with heap := h, toks := tk }) :
    ∀ (k i : Nat) (m : Str → Option Value) (news : Led), i + k = 4 → TInv prog w bx wd sl I svs ksl i m news → RangeRest prog w A E h₀ env (Str.ofString "turn") body Q s I 0 4 k i m news := by
  intro k
  induction k with
  | zero =>
    intro i m news hk hT
    refine RangeRest.zero fun h tk F N => done m h tk news ?_ N
    exact F
  | succ k ih =>
    rintro i m news hk ⟨W, oW, kvsW, c, tc, kb, da, oA, kvsA, tl, e1, e2, e3, hc, hdW, hlen, hWD, hok, hsl, hda, hdA, loA, hDA, hoff, nb, nw⟩
    refine RangeRest.succ fun t h tk F N => ?_
    refine turn i (fun y => if y = Str.ofString "turn" then some (.int (0 + (i : Int)) t) else m y) da t _ h tk W oW kvsW c tc kb oA kvsA tl _ (lt_of_shift hk) rfl (fun m' news' hT => ih (i + 1) m' news' (shift_add hk) hT) ?_ N hc hdW hlen hWD hok hsl hda hdA loA hDA hoff nb nw
    have e : kstB (fun y => if y = Str.ofString "turn" then some (.int (0 + (i : Int)) t) else m y) [(Str.ofString "turn", .int (0 + (i : Int)) t), (Str.ofString "box", .ref bx), (Str.ofString "world", .ref wd), (Str.ofString "attrs", .ref da)] = fun y => if y = Str.ofString "turn" then some (.int (0 + (i : Int)) t) else m y := by
      funext z
      refine kstB_eq (fun p hp => ?_) fun _ => rfl
      simp only [List.mem_cons, List.not_mem_nil, or_false] at hp
      rcases hp with rfl | rfl | rfl | rfl
      · rfl
      · exact e1
      · exact e2
      · exact e3
    rw [e]; exact F
end
variable {h₀ h : Heap} {L : Addr}
/-- the ledger as _law_change wants it -/
theorem for_change {d i b w : Addr × Obj} {tl : Led} (N : News h₀ L h (d :: i :: b :: w :: tl)) : News h₀ L h ([b, w] ++ (d :: i :: tl)) := fun p hp => N p (by
  simp only [List.cons_append, List.nil_append, List.mem_cons] at hp ⊢; rcases hp with h | h | h | h | h <;> simp [h])
/-- the ledger behind _law_change -/
theorem from_change {i b w d : Addr × Obj} {tl tl1 : Led} (N : News h₀ L h (tl1 ++ ([b, w] ++ (d :: i :: tl)))) : News h₀ L h (i :: b :: w :: (tl1 ++ d :: tl)) := fun p hp => N p (by
  simp only [List.cons_append, List.nil_append, List.mem_cons, List.mem_append] at hp ⊢; rcases hp with h | h | h | h | h | h <;> simp [h])
/-- the ledger behind changed_route -/
theorem from_route {f i b w : Addr × Obj} {tl tl2 : Led} (N : News h₀ L h (tl2 ++ (f :: i :: b :: w :: tl))) : News h₀ L h (i :: b :: w :: (tl2 ++ tl)) := fun p hp => N p (by
  simp only [List.mem_cons, List.mem_append] at hp ⊢; rcases hp with h | h | h | h | h <;> simp [h])

/-- all that holds behind changed_route, over a ledger without inner parts -/
theorem pack_turn {P : Prop} {prog : Program} {w : World} {bx wd sl I db da dd : Addr} {it oW oA oB od o0 : Obj} {fd : Addr} {c : Int} {tc : Tok} {kb ksl : Nat} {svs : List Value} {tl tl1 tl2 : Led} {W W' : AW} {kvsW kvsA kvsD : List (Str × Value)}
    (hit : it.cls = .type "range_iterator") (N : News h₀ L h (tl2 ++ ((fd, o0) :: (I, it) :: (bx, listOf #[.ref sl, .int c tc] kb) :: (wd, oW) :: (tl1 ++ (db, oB) :: tl))))
    (h0 : o0.IsDictOf (PySem.strKind prog w) []) (hdW : oW.IsDictOf (PySem.strKind prog w) kvsW) (hWD : WDesc (tl1 ++ ((db, oB) :: (I, it) :: tl)) kvsW W') (hsl : (sl, listOf (List.toArray svs) ksl) ∈ tl) (hda : (da, oA) ∈ tl) (hDA : Desc tl kvsA W) (hdd : (dd, od) ∈ tl2)
    (hDD : Desc (tl2 ++ ((fd, o0) :: (I, it) :: (bx, listOf #[.ref sl, .int c tc] kb) :: (wd, oW) :: (tl1 ++ (db, oB) :: tl))) kvsD W')
    (lt2 : ∀ p ∈ tl2, ∀ q ∈ (fd, o0) :: (I, it) :: (bx, listOf #[.ref sl, .int c tc] kb) :: (wd, oW) :: (tl1 ++ (db, oB) :: tl), q.1 < p.1) (ne1 : ∀ p ∈ tl1, p.1 ≠ bx ∧ p.1 ≠ wd ∧ p.1 ≠ I) (ltB : bx < db ∧ wd < db ∧ I < db) (hoff : ∀ p ∈ tl, p.1 ≠ bx ∧ p.1 ≠ wd ∧ p.1 ≠ I)
    (k : ∀ T2, News h₀ L h ((I, it) :: (bx, listOf #[.ref sl, .int c tc] kb) :: (wd, oW) :: T2) → WDesc T2 kvsW W' → (sl, listOf (List.toArray svs) ksl) ∈ T2 → (da, oA) ∈ T2 → Desc T2 kvsA W → (dd, od) ∈ T2 → Desc T2 kvsD W' → (db, oB) ∈ T2 → (∀ p ∈ T2, p.1 ≠ bx ∧ p.1 ≠ wd ∧ p.1 ≠ I) → P) : P := by
  have up : ∀ p ∈ tl, p ∈ tl2 ++ (tl1 ++ (db, oB) :: tl) := fun p hp => List.mem_append_right _ (List.mem_append_right _ (List.mem_cons_of_mem _ hp))
  refine k (tl2 ++ (tl1 ++ (db, oB) :: tl)) (from_route N) (hWD.only fun p hp hc => ?_) (up _ hsl) (up _ hda) (hDA.mono up) (List.mem_append_left _ hdd) (hDD.only fun p hp hc => ?_) (List.mem_append_right _ (List.mem_append_right _ (List.mem_cons_self ..))) (fun p hp => ?_)
  · simp only [List.mem_cons, List.mem_append] at hp ⊢
    rcases hp with h | h | rfl | h
    · exact .inr (.inl h)
    · exact .inr (.inr (.inl h))
    · exact absurd (hit.symm.trans hc) (by decide)
    · exact .inr (.inr (.inr h))
  · rcases List.mem_append.mp hp with h | h
    · exact List.mem_append_left _ h
    rcases List.mem_cons.mp h with rfl | h
    · exact absurd hc (not_tuple h0)
    rcases List.mem_cons.mp h with rfl | h
    · exact absurd (hit.symm.trans hc) (by decide)
    rcases List.mem_cons.mp h with rfl | h
    · exact absurd hc (by show Value.type "list" ≠ _; decide)
    rcases List.mem_cons.mp h with rfl | h
    · exact absurd hc (not_tuple hdW)
    · exact List.mem_append_right _ h
  · rcases List.mem_append.mp hp with hp | hp
    · exact ⟨Nat.ne_of_gt (lt2 p hp (bx, _) (List.mem_cons_of_mem _ (List.mem_cons_of_mem _ (List.mem_cons_self ..)))), Nat.ne_of_gt (lt2 p hp (wd, oW) (List.mem_cons_of_mem _ (List.mem_cons_of_mem _ (List.mem_cons_of_mem _ (List.mem_cons_self ..))))), Nat.ne_of_gt (lt2 p hp (I, it) (List.mem_cons_of_mem _ (List.mem_cons_self ..)))⟩
    rcases List.mem_append.mp hp with hp | hp
    · exact ne1 p hp
    rcases List.mem_cons.mp hp with rfl | hp
    · exact ⟨Nat.ne_of_gt ltB.1, Nat.ne_of_gt ltB.2.1, Nat.ne_of_gt ltB.2.2⟩
    · exact hoff p hp
theorem post_ok (ns : List Int) : PySem.Challenge.rw_rh0202_01.row.claim.post [ofPy (PyData.list (List.map PyData.int ns))] (WData.bool true) [ofPy (PyData.list (List.map PyData.int ns))] = true := by
  wrow_post
theorem no_raise (ns : List Int) (x : ExcName) : PySem.Challenge.rw_rh0202_01.row.claim.raises [ofPy (PyData.list (List.map PyData.int ns))] x = false := rfl
end Mine
end

/-! the law -/
set_option maxRecDepth 100000
set_option maxHeartbeats 8000000
open PySem PySem.W PyProof.Rows PySem.Spec PySem.Calls
open Mine





local macro_rules | `(tactic| walk_at "no such node") => `(tactic| fail)
local macro_rules | `(tactic| walk_at "call ref") => `(tactic| refine Stop.of ?_)
local macro_rules | `(tactic| walk_at "call type:list") => `(tactic| refine Stop.of ?_)
local macro_rules | `(tactic| walk_at "subscriptTail") => `(tactic| refine Stop.of ?_)
local macro_rules | `(tactic| walk_at "compareOp NotEq ref ref") => `(tactic| refine Stop.of ?_)
local macro_rules | `(tactic| walk_at "call type:dict") => `(tactic| refine Stop.of ?_)
local macro_rules | `(tactic| walk_at "exec For Name Call cons nil") => `(tactic| refine Stop.of ?_)
local macro_rules | `(tactic| walk_at "pyIter ref") => `(tactic| refine Stop.of ?_)
local macro_rules | `(tactic| walk_at "UnrEnd") => `(tactic| refine Stop.of ?_)
local macro_rules | `(tactic| walk_at "compareOp NotEq bytes bytes") => `(tactic| refine Stop.of ?_)
local macro_rules | `(tactic| walk_at "eval BoolOp") => `(tactic| refine Stop.of ?_)
local macro_rules | `(tactic| walk_at "setItem ref str") => `(tactic| refine Stop.of ?_)

namespace Mine
def HeldOk (ns : List Int) : Prop := (∀ n ∈ ns, Three n) ∧ ns.Pairwise (· < ·)
theorem list_sub {prog : Program} {w : World} {A : Around} {E : Value → Shared → Prop} {s : Shared} {value slice : PySem.Expr} {l : Addr} {items : Array Value} {k : Int} {u : Tok} {x : Value} {Q : Value → Shared → Prop} (hl : s.heap.IsList l items) (h0 : 0 ≤ k) (hfit : k < 2 ^ 63) (hx : items[k.toNat]? = some x) (h : Q x s)
    (hs : subscripted slice false (.ref l) (.int k u) = operate [.ref l, .int k u] (getItem (.ref l) (.int k u)) := by with_unfolding_all rfl) :
    wpAny (model prog w) A (subscriptTail value slice (.ref l) (.int k u)) Q E s :=
  tail_any hl.typeIs slot_list_getitem.lookup (wpAny_getItem_list hl h0 hfit hx h) hs
theorem off7 {a1 a2 a3 a4 a5 a6 a7 : Addr × Obj} {b : Addr} (h1 : a1.1 ≠ b) (h2 : a2.1 ≠ b) (h3 : a3.1 ≠ b) (h4 : a4.1 ≠ b) (h5 : a5.1 ≠ b) (h6 : a6.1 ≠ b) (h7 : a7.1 ≠ b) : ∀ p ∈ [a1, a2, a3, a4, a5, a6, a7], p.1 ≠ b := by
  simp only [List.forall_mem_cons, List.not_mem_nil, false_implies, implies_true, and_true]
  exact ⟨h1, h2, h3, h4, h5, h6, h7⟩
theorem pull5 {h₀ h : Heap} {L : Addr} {a1 a2 a3 a4 a5 b : Addr × Obj} {l : Led} (N : News h₀ L h (a1 :: a2 :: a3 :: a4 :: a5 :: b :: l)) : News h₀ L h (b :: a1 :: a2 :: a3 :: a4 :: a5 :: l) := fun p hp => N p (by
  simp only [List.cons_append, List.nil_append, List.mem_cons] at hp ⊢; rcases hp with h | h | h | h | h | h | h <;> simp [h])
theorem four {k : Int} (h0 : 0 ≤ k) (h4 : k < 4) : k = 0 ∨ k = 1 ∨ k = 2 ∨ k = 3 := by
  obtain ⟨n, rfl⟩ := Int.eq_ofNat_of_zero_le h0
  exact (by decide : ∀ n < 4, ((n : Nat) : Int) = 0 ∨ ((n : Nat) : Int) = 1 ∨ ((n : Nat) : Int) = 2 ∨ ((n : Nat) : Int) = 3) n (Int.ofNat_lt.mp h4)
theorem held_at {h₀ h : Heap} {L : Addr} {b : Addr × Obj} {a1 a2 a3 a4 : Addr} {t1 t2 t3 t4 t5 : Tok} {news : Led} {k : Int} (_N : News h₀ L h (b :: news)) (h0 : 0 ≤ k) (h4 : k < 4) (m1 : (a1, listOf #[] 0) ∈ news) (m2 : (a2, listOf #[.int 65537 t1] 0) ∈ news) (m3 : (a3, listOf #[.int 65537 t2, .int 65538 t3] 0) ∈ news) (m4 : (a4, listOf #[.int 65538 t4, .int 131075 t5] 0) ∈ news)
    {P : Prop} (k9 : ∀ a vs ns, (#[Value.ref a1, .ref a2, .ref a3, .ref a4] : Array Value)[k.toNat]? = some (.ref a) → (a, listOf (List.toArray vs) 0) ∈ news → IntsAre vs ns → HeldOk ns → P) : P := by
  rcases four h0 h4 with rfl | rfl | rfl | rfl
  · exact k9 a1 [] [] rfl m1 .nil ⟨(fun _ h => nomatch h), .nil⟩
  · exact k9 a2 [_] [65537] rfl m2 (.cons _ _ .nil) ⟨(fun n h => by rw [List.mem_singleton.mp h]; exact .inl rfl), by decide⟩
  · exact k9 a3 [_, _] [65537, 65538] rfl m3 (.cons _ _ (.cons _ _ .nil)) ⟨(fun n h => by simp only [List.mem_cons, List.not_mem_nil, or_false] at h; rcases h with rfl | rfl; exact .inl rfl; exact .inr (.inl rfl)), by decide⟩
  · exact k9 a4 [_, _] [65538, 131075] rfl m4 (.cons _ _ (.cons _ _ .nil)) ⟨(fun n h => by simp only [List.mem_cons, List.not_mem_nil, or_false] at h; rcases h with rfl | rfl; exact .inr (.inl rfl); exact .inr (.inr rfl)), by decide⟩
theorem pack {P : Prop} {h₀ h : Heap} {L : Addr} {b x y : Addr × Obj} {news : Led} (N : News h₀ L h (b :: news)) (hm : x ∈ news) (hs : y ∈ news) (off : ∀ p ∈ news, p.1 ≠ b.1) (k : ∀ rest, News h₀ L h (b :: rest) → x ∈ rest → y ∈ rest → (∀ p ∈ rest, p.1 ≠ b.1) → P) : P := k news N hm hs off
/-- what stands behind the value of a test with a draw -/
inductive DrawsEnd (h₀ : Heap) (L : Addr) (m : Str → Option Value) (bx sl : Addr) (d : Addr × Obj) (rest : Led) (P : Bool → Prop) (s : Shared) : Value → Shared → Prop
  | mk (h : Heap) (tk : Nat) (b : Bool) (c : Int) (tc : Tok) (kb : Nat) : Fr h₀ L h m → News h₀ L h (d :: (bx, listOf #[.ref sl, .int c tc] kb) :: rest) → 0 ≤ c → P b → DrawsEnd h₀ L m bx sl d rest P s (.bool b) { s with heap := h, toks := tk }
theorem cut_draws {M : Model} {A : Around} {E : Value → Shared → Prop} {s : Shared} {h₀ : Heap} {L bx sl : Addr} {m : Str → Option Value} {x : Sem Value} {Q : Value → Shared → Prop} {d b : Addr × Obj} {rest : Led} (_F : Fr h₀ L s.heap m) (_N : News h₀ L s.heap (d :: b :: rest)) (P : Bool → Prop)
    (seg : wpAny M A x (fun v s₂ => Stop (DrawsEnd h₀ L m bx sl d rest P s v s₂)) E s)
    (cont : ∀ b h tk c tc kb, Fr h₀ L h m → News h₀ L h (d :: (bx, listOf #[.ref sl, .int c tc] kb) :: rest) → 0 ≤ c → P b → Q (.bool b) { s with heap := h, toks := tk }) : wpAny M A x Q E s :=
  wpAny_mono seg (fun v s₂ e => by
    have e : DrawsEnd h₀ L m bx sl d rest P s v s₂ := e
    cases e with
    | mk h tk b c tc kb F N hc hp => exact cont b h tk c tc kb F N hc hp) (fun _ _ e => e)
theorem swap1 {h₀ h : Heap} {L : Addr} {a b : Addr × Obj} {l : Led} (N : News h₀ L h (a :: b :: l)) : News h₀ L h (b :: a :: l) := fun p hp => N p (by simp only [List.mem_cons] at hp ⊢; rcases hp with h | h | h <;> simp [h])
theorem swap_in {a d b : Addr × Obj} {rest : Led} : ∀ p ∈ d :: b :: rest, p ∈ a :: b :: d :: rest := fun p hp => by simp only [List.mem_cons] at hp ⊢; rcases hp with h | h | h <;> simp [h]
theorem swap_in0 {d b : Addr × Obj} {rest : Led} : ∀ p ∈ d :: b :: rest, p ∈ b :: d :: rest := fun p hp => by simp only [List.mem_cons] at hp ⊢; rcases hp with h | h | h <;> simp [h]
theorem of_ne_dec {l : List Int} (h : (!decide (l = [])) = true) : l ≠ [] := by simpa using h
theorem world_desc {news : Led} {ha : Addr} {hvs : List Value} {kh : Nat} {ns : List Int} {t1 t2 t3 : Tok} {b g gm : Bool} (hm : (ha, listOf hvs.toArray kh) ∈ news) (hi : IntsAre hvs ns) :
    WDesc news (stored (stored (strPairs [(.str (Str.ofString "held") t1, .ref ha), (.str (Str.ofString "med") t2, .none), (.str (Str.ofString "is_marked") t3, .bool b)]) (Str.ofString "has_maker") (.bool g)) (Str.ofString "is_maker_marked") (.bool gm)) ⟨none, g, gm, ns, b⟩ := by
  refine ⟨⟨.none, ?_, .inl ⟨rfl, rfl⟩⟩, ⟨ha, hvs, kh, ?_, hm, hi⟩, ?_, ?_, ?_⟩
  · rw [valueAt_stored, if_neg (by decide), valueAt_stored, if_neg (by decide)]; rfl
  · rw [valueAt_stored, if_neg (by decide), valueAt_stored, if_neg (by decide)]; rfl
  · rw [valueAt_stored, if_neg (by decide), valueAt_stored, if_neg (by decide)]; rfl
  · rw [valueAt_stored, if_neg (by decide), valueAt_stored, if_pos rfl]
  · rw [valueAt_stored, if_pos rfl]
theorem to_turns {h₀ h : Heap} {L : Addr} {b w : Addr × Obj} {tl rest : Led} (N : News h₀ L h (tl ++ b :: w :: rest)) : News h₀ L h (b :: w :: (tl ++ rest)) := fun p hp => N p (by
  simp only [List.mem_cons, List.mem_append] at hp ⊢; rcases hp with h | h | h | h <;> simp [h])
theorem tuples_of {b w : Addr × Obj} {tl rest : Led} (hb : b.2.cls ≠ .type "tuple") (hw : w.2.cls ≠ .type "tuple") : ∀ p ∈ tl ++ b :: w :: rest, p.2.cls = .type "tuple" → p ∈ tl ++ rest := fun p hp hc => by
  simp only [List.mem_cons, List.mem_append] at hp ⊢
  rcases hp with h | rfl | rfl | h
  · exact .inl h
  · exact absurd hc hb
  · exact absurd hc hw
  · exact .inr h
theorem list_cls {its : Array Value} {k : Nat} : (listOf its k).cls ≠ .type "tuple" := by show Value.type "list" ≠ _; decide
end Mine

theorem PySem.Challenge.cw_rh0202_01_holds : PySem.Challenge.rw_rh0202_01.Holds :=
  Mine.hd (by
  k_go0
  refine hide (by passes_own) fun Q' E' hQ hpo => ?_
  rename IntsAre _ _ => hI00
  rename ¬ (_ : Int) < _ => h63
  repeat (first | (k_unfold; (try dsimp only)) | walk1 | (dsimp only; walk1))
  refine Stop.go ?_
  rename IntsAre _ _ => hI0
  rename News _ _ _ _ => Nx
  k_dflt (refine kup_listOf (by k_asm) Nx (List.mem_cons_self ..) rfl ?_ ?hz)
  case hz => exact le_size (Nat.le_trans (Nat.le_of_eq hI0.length) (List.length_take_le 16 _)) (by decide)
  intro sl csl h1 F1 N1 lt1
  repeat (first | (k_unfold; (try dsimp only)) | walk1 | (dsimp only; walk1))
  refine Stop.go ?_
  rename_i bx b3 b4 tk0 a1 b5 b6 a2 b7 b8 a3 b9 b10 a4 b11 b12 ao hA FA NA lA
  k_dflt (refine use_draw bx sl 0 4 _ _ _ csl _ _ (Int.le_refl 0) (by decide) (List.mem_cons_of_mem _ (List.mem_cons_of_mem _ (List.mem_cons_of_mem _ (List.mem_cons_of_mem _ (List.mem_cons_of_mem _ (List.mem_cons_self ..)))))) hI0 (Nat.le_trans (List.length_take_le 16 _) (by decide)) ?off (by k_asm) (by k_asm) (by k_asm) (pull5 NA) (by k_asm) rfl rfl (by decide) (by decide) ?_)
  case off => exact Mine.off7 (by first | exact Mine.pick1 (by assumption) | exact Mine.pick2 (by assumption) | exact Mine.pick3 (by assumption) | exact Mine.pick4 (by assumption) | exact Mine.pick5 (by assumption) | exact Mine.pick6 (by assumption) | exact Mine.pick7 (by assumption) | exact Mine.pick8 (by assumption) | exact Nat.ne_of_gt (by omega)) (by first | exact Mine.pick1 (by assumption) | exact Mine.pick2 (by assumption) | exact Mine.pick3 (by assumption) | exact Mine.pick4 (by assumption) | exact Mine.pick5 (by assumption) | exact Mine.pick6 (by assumption) | exact Mine.pick7 (by assumption) | exact Mine.pick8 (by assumption) | exact Nat.ne_of_gt (by omega)) (by first | exact Mine.pick1 (by assumption) | exact Mine.pick2 (by assumption) | exact Mine.pick3 (by assumption) | exact Mine.pick4 (by assumption) | exact Mine.pick5 (by assumption) | exact Mine.pick6 (by assumption) | exact Mine.pick7 (by assumption) | exact Mine.pick8 (by assumption) | exact Nat.ne_of_gt (by omega)) (by first | exact Mine.pick1 (by assumption) | exact Mine.pick2 (by assumption) | exact Mine.pick3 (by assumption) | exact Mine.pick4 (by assumption) | exact Mine.pick5 (by assumption) | exact Mine.pick6 (by assumption) | exact Mine.pick7 (by assumption) | exact Mine.pick8 (by assumption) | exact Nat.ne_of_gt (by omega)) (by first | exact Mine.pick1 (by assumption) | exact Mine.pick2 (by assumption) | exact Mine.pick3 (by assumption) | exact Mine.pick4 (by assumption) | exact Mine.pick5 (by assumption) | exact Mine.pick6 (by assumption) | exact Mine.pick7 (by assumption) | exact Mine.pick8 (by assumption) | exact Nat.ne_of_gt (by omega)) (Nat.ne_of_lt (by first | exact Mine.gt1 (by assumption) | exact Mine.gt2 (by assumption) | exact Mine.gt3 (by assumption) | exact Mine.gt4 (by assumption) | exact Mine.gt5 (by assumption) | exact Mine.gt6 (by assumption) | exact Mine.gt7 (by assumption) | exact Mine.gt8 (by assumption) | exact And.right (by assumption) | omega)) (Nat.ne_of_lt (by first | exact Mine.gt1 (by assumption) | exact Mine.gt2 (by assumption) | exact Mine.gt3 (by assumption) | exact Mine.gt4 (by assumption) | exact Mine.gt5 (by assumption) | exact Mine.gt6 (by assumption) | exact Mine.gt7 (by assumption) | exact Mine.gt8 (by assumption) | exact And.right (by assumption) | omega))
  intro k1 t1 tc1 kb1 h1 tk1 F1 N1 hk1 hk4
  dsimp only
  repeat (first | (k_unfold; (try dsimp only)) | walk1 | (dsimp only; walk1))
  refine Stop.go ?_
  rename News _ _ _ _ => Nb
  refine held_at Nb hk1 hk4 (a1 := a1) (a2 := a2) (a3 := a3) (a4 := a4) (by k_mem) (by k_mem) (by k_mem) (by k_mem) fun ha hvs hns hx hm hi hg => ?_
  k_dflt (refine list_sub (News.isList Nb (by k_mem)) hk1 (Int.lt_trans hk4 (by decide)) hx ?_)
  refine pack (y := (sl, _)) Nb hm (by k_mem) (Mine.off7 (by first | exact Mine.pick1 (by assumption) | exact Mine.pick2 (by assumption) | exact Mine.pick3 (by assumption) | exact Mine.pick4 (by assumption) | exact Mine.pick5 (by assumption) | exact Mine.pick6 (by assumption) | exact Mine.pick7 (by assumption) | exact Mine.pick8 (by assumption) | exact Nat.ne_of_gt (by omega)) (by first | exact Mine.pick1 (by assumption) | exact Mine.pick2 (by assumption) | exact Mine.pick3 (by assumption) | exact Mine.pick4 (by assumption) | exact Mine.pick5 (by assumption) | exact Mine.pick6 (by assumption) | exact Mine.pick7 (by assumption) | exact Mine.pick8 (by assumption) | exact Nat.ne_of_gt (by omega)) (by first | exact Mine.pick1 (by assumption) | exact Mine.pick2 (by assumption) | exact Mine.pick3 (by assumption) | exact Mine.pick4 (by assumption) | exact Mine.pick5 (by assumption) | exact Mine.pick6 (by assumption) | exact Mine.pick7 (by assumption) | exact Mine.pick8 (by assumption) | exact Nat.ne_of_gt (by omega)) (by first | exact Mine.pick1 (by assumption) | exact Mine.pick2 (by assumption) | exact Mine.pick3 (by assumption) | exact Mine.pick4 (by assumption) | exact Mine.pick5 (by assumption) | exact Mine.pick6 (by assumption) | exact Mine.pick7 (by assumption) | exact Mine.pick8 (by assumption) | exact Nat.ne_of_gt (by omega)) (by first | exact Mine.pick1 (by assumption) | exact Mine.pick2 (by assumption) | exact Mine.pick3 (by assumption) | exact Mine.pick4 (by assumption) | exact Mine.pick5 (by assumption) | exact Mine.pick6 (by assumption) | exact Mine.pick7 (by assumption) | exact Mine.pick8 (by assumption) | exact Nat.ne_of_gt (by omega)) (Nat.ne_of_lt (by first | exact Mine.gt1 (by assumption) | exact Mine.gt2 (by assumption) | exact Mine.gt3 (by assumption) | exact Mine.gt4 (by assumption) | exact Mine.gt5 (by assumption) | exact Mine.gt6 (by assumption) | exact Mine.gt7 (by assumption) | exact Mine.gt8 (by assumption) | exact And.right (by assumption) | omega)) (Nat.ne_of_lt (by first | exact Mine.gt1 (by assumption) | exact Mine.gt2 (by assumption) | exact Mine.gt3 (by assumption) | exact Mine.gt4 (by assumption) | exact Mine.gt5 (by assumption) | exact Mine.gt6 (by assumption) | exact Mine.gt7 (by assumption) | exact Mine.gt8 (by assumption) | exact And.right (by assumption) | omega))) fun rest N2 hm hsl hoff => ?_
  clear Nb NA lA hx
  repeat (first | (k_unfold; (try dsimp only)) | walk1 | (dsimp only; walk1))
  refine Stop.go ?_
  rename News _ _ _ _ => Nx
  rename _ ∧ AllLt _ _ => ltx
  k_dflt (refine cut_draws (bx := bx) (sl := sl) (by k_asm) Nx (fun b => b = true → hns ≠ []) ?seg ?cont)
  case seg =>
    refine BoolOp_and ?_
    repeat (first | (k_unfold; (try dsimp only)) | walk1 | (dsimp only; walk1))
    refine Stop.go ?_
    k_dflt (refine use_draw bx sl _ 2 _ _ _ csl _ _ (by decide) (by decide) (List.mem_cons_of_mem _ hsl) hI0 (Nat.le_trans (List.length_take_le 16 _) (by decide)) (fun p hp => ?off) (by k_asm) (by k_asm) (by k_asm) (swap1 Nx) (by k_asm) rfl rfl (by decide) (by decide) ?_)
    case off =>
      rcases List.mem_cons.mp hp with rfl | hp
      · exact Nat.ne_of_gt ltx.1
      · exact hoff p hp
    intro k2 t2 tc2 kb2 h1 tk1 F1 N1 hk20 hk22
    dsimp only
    repeat (first | (k_unfold; (try dsimp only)) | walk1 | (dsimp only; walk1))
    · refine Stop.go ?_
      refine BoolOp_one ?_
      repeat (first | (k_unfold; (try dsimp only)) | walk1 | (dsimp only; walk1))
      refine Stop.go ?_
      rename News _ _ _ _ => Nb
      k_dflt (refine ke_ne_ints (News.isList Nb (by k_mem)) (News.isList Nb (List.mem_cons_self ..)) hi IntsAre.nil (by ktr_units) ?_)
      repeat (first | (k_unfold; (try dsimp only)) | walk1 | (dsimp only; walk1))
      rename News _ _ _ _ => Nq
      refine Stop.go (.mk _ _ _ _ _ _ (by k_asm) (fun p hp => Nq p (swap_in p hp)) (by decide) (fun h => of_ne_dec h))
    · rename News _ _ _ _ => Nq
      exact Stop.go (.mk _ _ _ _ _ _ (by k_asm) (fun p hp => Nq p (swap_in0 p hp)) (by decide) (fun h => absurd (by simpa using h) (by assumption : k2 ≠ 1)))
  case cont =>
    intro b h2 tk2 c2 tc2 kb2 F2 N2 hc2 hb2
    dsimp only
    repeat (first | (k_unfold; (try dsimp only)) | walk1 | (dsimp only; walk1))
    refine Stop.go ?_
    rename_i z1 z2 wd z3 z4 low z5 z6 oW hdW z7 FW NW
    k_dflt (refine use_draw bx sl c2 2 _ _ _ csl _ _ hc2 (by decide) (List.mem_cons_of_mem _ hsl) hI0 (Nat.le_trans (List.length_take_le 16 _) (by decide)) (fun p hp => ?off) (by k_asm) (by k_asm) (by k_asm) (swap1 NW) (by k_asm) rfl rfl (by decide) (by decide) ?_)
    case off =>
      rcases List.mem_cons.mp hp with rfl | hp
      · exact Nat.ne_of_gt ltx.1
      · exact hoff p hp
    intro k3 t3 tc3 kb3 h3 tk3 F3 N3 hk30 hk32
    dsimp only
    repeat (first | (k_unfold; (try dsimp only)) | walk1 | (dsimp only; walk1))
    refine Stop.go ?_
    rename News _ _ _ _ => Nx
    k_dflt (refine use_draw bx sl _ 2 _ _ _ csl _ _ (by exact up1 hc2) (by decide) (List.mem_cons_of_mem _ hsl) hI0 (Nat.le_trans (List.length_take_le 16 _) (by decide)) (fun p hp => ?off) (by k_asm) (by k_asm) (by k_asm) Nx (by k_asm) rfl rfl (by decide) (by decide) ?_)
    case off =>
      rcases List.mem_cons.mp hp with rfl | hp
      · exact Nat.ne_of_gt ltx.1
      · exact hoff p hp
    intro k4 t4 tc4 kb4 h4 tk4 F4 N4 hk40 hk42
    dsimp only
    repeat (first | (k_unfold; (try dsimp only)) | walk1 | (dsimp only; walk1))
    refine Stop.go ?_
    rename News _ _ _ _ => Nx
    have N5 : News _ _ _ _ := fun p hp => Nx p (List.mem_cons_of_mem _ hp)
    k_dflt (refine kda_set (knd := PySem.strKind _ _) (by k_asm) N5 (.tail (Nat.ne_of_lt ltx.1) (.head fun p hp => Nat.ne_of_lt (kst_ltOf ltx.2 p hp))) hdW (strKind_is _ _ _ _) (by rw [sizeLine_eq]; exact Nat.le_of_ble_eq_true rfl) ?_)
    intro hz oz Fz Nz hdz
    repeat (first | (k_unfold; (try dsimp only)) | walk1 | (dsimp only; walk1))
    refine Stop.go ?_
    rename News _ _ _ _ => N6
    k_dflt (refine kda_set (knd := PySem.strKind _ _) (by k_asm) N6 (.tail (Nat.ne_of_lt ltx.1) (.head fun p hp => Nat.ne_of_lt (kst_ltOf ltx.2 p hp))) hdz (strKind_is _ _ _ _) (Nat.le_trans (stored_length_le ..) (by rw [sizeLine_eq]; exact Nat.le_of_ble_eq_true rfl)) ?_)
    intro hy oy Fy Ny hdy
    have hWD := world_desc (b := b) (g := k3 == 0) (gm := k4 == 1) (t1 := z2) (t2 := z2 + 1) (t3 := z2 + 1 + 1) hm hi
    have hok : Ok3 ⟨none, k3 == 0, k4 == 1, hns, b⟩ := ⟨(fun _ h => by cases h), hg.1, hg.2, hb2⟩
    repeat (first | (k_unfold; (try dsimp only)) | walk1 | (dsimp only; walk1))
    refine Stop.go ?_
    rename News _ _ _ _ => N7
    k_dflt (refine use_new (law_attrs _ hok.ok wd oy _ (List.mem_cons_of_mem _ (List.mem_cons_self ..)) hdy low (hWD.mono fun p hp => List.mem_cons_of_mem _ (List.mem_cons_of_mem _ hp))) (by k_asm) (by k_asm) (by k_asm) N7 (by k_asm) rfl rfl (by decide) (by decide) ?_)
    intro da oA kvsA tl5 h5 tk5 F5 N5 lt5 hda hdA loA hDA
    dsimp only
    repeat (first | (k_unfold; (try dsimp only)) | walk1 | (dsimp only; walk1))
    refine Stop.go ?_
    rename News _ _ _ _ => N8
    rename Fr _ _ _ _ => lF'
    with_unfolding_all refine' For_invVF lF' ?k1 ?k2 ?_
    case k1 => exact rfl
    case k2 => exact rfl
    k_whole
    repeat (first | (k_unfold; (try dsimp only)) | walk1 | (dsimp only; walk1))
    refine Stop.go ?_
    rename News _ _ _ _ => N9
    have N10 := to_turns N9
    k_dflt (refine iter_rangeUnr (a₀ := 0) (b₀ := 4) (n := 4) rfl (by assumption) (by decide) (by decide) (by k_asm) N10 (fun I hI => turns_rest ?turn ?done 4 0 _ _ rfl ⟨_, oy, _, _, _, _, da, oA, kvsA, _, rfl, rfl, rfl, up2 hc2, hdy, Nat.le_trans (stored_length_le ..) (Nat.succ_le_succ (stored_length_le ..)), hWD.mono fun p hp => List.mem_append_right _ hp, hok, List.mem_append_right _ hsl, List.mem_append_left _ hda, hdA, loA, hDA.only (tuples_of list_cls (not_tuple hdy)), ?off, ?nb, ?nw⟩))
    case nb => exact Nat.ne_of_lt (hI (bx, _) (List.mem_cons_self ..))
    case nw => exact Nat.ne_of_lt (hI (wd, oy) (List.mem_cons_of_mem _ (List.mem_cons_self ..)))
    case off =>
      intro p hp
      refine ⟨?_, ?_, Nat.ne_of_lt (hI p (List.mem_cons_of_mem _ (List.mem_cons_of_mem _ hp)))⟩
      · rcases List.mem_append.mp hp with hp | hp
        · exact Nat.ne_of_gt (lt5 p hp (bx, _) (List.mem_cons_self ..))
        · exact hoff p hp
      · rcases List.mem_append.mp hp with hp | hp
        · exact Nat.ne_of_gt (lt5 p hp (wd, oy) (List.mem_cons_of_mem _ (List.mem_cons_self ..)))
        · exact Nat.ne_of_lt (kst_ltOf ltx.2 p hp)
    case done =>
      intro u h9 tk9 news9 F9 N9
      dsimp only [envOf] at F9 N9
      repeat (first | (k_unfold; (try dsimp only)) | walk1 | (dsimp only; walk1))
      dsimp only
      exact hQ _ _ (goodW_bool (by assumption) (by assumption) (no_raise _) (post_ok _))
    case turn =>
      intro i u da t it h tk W oW' kvsW c tc kb oA kvsA tl R hi4 hit hR F10 N11 hc hdW' hlen hWD hok hsl hda hdA loA hDA hoff9 nb nw
      dsimp only [envOf] at F10 N11
      clear N10 N9
      have hlim := modules_low (Top.nolimit ‹Top _ _ _ _ _ _›)
      repeat (first | (k_unfold; (try dsimp only)) | walk1 | (dsimp only; walk1))
      refine Stop.go ?_
      rename News _ _ _ _ => Nx
      k_dflt (refine copy_led (knd := PySem.strKind _ _) (by k_asm) Nx (by k_mem) hdA loA (le_size hDA.len (by decide)) hlim ?_)
      intro db oB h2 F2 N2 ltB loB hdB
      dsimp only
      repeat (first | (k_unfold; (try dsimp only)) | walk1 | (dsimp only; walk1))
      refine Stop.go ?_
      rename News _ _ _ _ => Nx
      have nwb : wd ≠ bx := Nat.ne_of_gt ltx.1
      k_dflt (refine use_change W hok bx sl wd c tc kb csl _ _ hc (List.mem_cons_of_mem _ (List.mem_cons_of_mem _ hsl)) hI0 (Nat.le_trans (List.length_take_le 16 _) (by decide)) oW' kvsW hdW' low (hWD.mono fun p hp => List.mem_cons_of_mem _ (List.mem_cons_of_mem _ hp)) (5 + 2 * i) hlen (Nat.le_trans (Nat.add_le_add_left (Nat.mul_le_mul_left 2 (Nat.le_of_lt hi4)) 5) (by decide)) nwb ?hb ?hw (by k_asm) (by k_asm) (by k_asm) (for_change Nx) (by k_asm) rfl rfl (by decide) (by decide) ?_)
      case hb =>
        intro p hp
        rcases List.mem_cons.mp hp with rfl | hp
        · exact Nat.ne_of_gt (ltB (bx, _) (List.mem_cons_of_mem _ (List.mem_cons_self ..)))
        rcases List.mem_cons.mp hp with rfl | hp
        · exact nb.symm
        · exact (hoff9 p hp).1
      case hw =>
        intro p hp
        rcases List.mem_cons.mp hp with rfl | hp
        · exact Nat.ne_of_gt (ltB (wd, _) (List.mem_cons_of_mem _ (List.mem_cons_of_mem _ (List.mem_cons_self ..))))
        rcases List.mem_cons.mp hp with rfl | hp
        · exact nw.symm
        · exact (hoff9 p hp).2.1
      intro sa W' oW2 kvsW2 c2' tc2' kb2' tl1 h3 tk3 F3 N3 ne1 hc2' hdW2 hlen2 hWD2 hok2 hst
      have N4 := from_change N3
      clear N3
      dsimp only
      repeat (first | (k_unfold; (try dsimp only)) | walk1 | (dsimp only; walk1))
      refine Stop.go ?_
      rename News _ _ _ _ => Nx
      k_dflt (refine use_new (changed_step hst (fun p hp => ?hs) hok da oA kvsA (List.mem_cons_of_mem _ (List.mem_cons_of_mem _ (List.mem_cons_of_mem _ (List.mem_cons_of_mem _ (List.mem_append_right _ (List.mem_cons_of_mem _ hda)))))) hdA loA (hDA.mono fun p hp => List.mem_cons_of_mem _ (List.mem_cons_of_mem _ (List.mem_cons_of_mem _ (List.mem_cons_of_mem _ (List.mem_append_right _ (List.mem_cons_of_mem _ hp)))))) _) (by k_asm) (by k_asm) (by k_asm) Nx (by k_asm) rfl rfl (by decide) (by decide) ?_)
      case hs =>
        simp only [List.mem_cons, List.mem_append] at hp ⊢
        rcases hp with h | h | h | h <;> simp [h]
      intro dd od kvsD tl2 h4 tk4 F4 N5 lt2 hdd hdD loD hDD
      refine pack_turn hit N5 (by assumption) hdW2 hWD2 hsl hda hDA hdd hDD lt2 (fun p hp => ⟨(ne1 p hp (bx, _) (List.mem_cons_self ..)).symm, (ne1 p hp (wd, oW2) (List.mem_cons_of_mem _ (List.mem_cons_self ..))).symm, (ne1 p hp (I, it) (List.mem_cons_of_mem _ (List.mem_cons_of_mem _ (List.mem_cons_of_mem _ (List.mem_cons_self ..))))).symm⟩) ⟨ltB (bx, _) (List.mem_cons_of_mem _ (List.mem_cons_self ..)), ltB (wd, _) (List.mem_cons_of_mem _ (List.mem_cons_of_mem _ (List.mem_cons_self ..))), ltB (I, it) (List.mem_cons_self ..)⟩ hoff9 fun T2 N7 hWD3 hsl3 hda3 hDA3 hdd3 hDD3 hdb3 hoff3 => ?_
      clear N5 Nx
      dsimp only
      repeat (first | (k_unfold; (try dsimp only)) | walk1 | (dsimp only; walk1))
      refine Stop.go ?_
      rename News _ _ _ _ => Nx
      have inT : ∀ p ∈ T2, p ∈ (I, it) :: (bx, PySem.W.listOf #[.ref sl, .int c2' tc2'] kb2') :: (wd, oW2) :: T2 := fun p hp => List.mem_cons_of_mem _ (List.mem_cons_of_mem _ (List.mem_cons_of_mem _ hp))
      have inW : (wd, oW2) ∈ (I, it) :: (bx, PySem.W.listOf #[.ref sl, .int c2' tc2'] kb2') :: (wd, oW2) :: T2 := List.mem_cons_of_mem _ (List.mem_cons_of_mem _ (List.mem_cons_self ..))
      k_dflt (refine use_new (law_attrs W' hok2.ok wd oW2 kvsW2 inW hdW2 low (hWD3.mono inT)) (by k_asm) (by k_asm) (by k_asm) Nx (by k_asm) rfl rfl (by decide) (by decide) ?_)
      intro d3 o3 kvs3 tl3 h5 tk5 F5 N8 lt3 hd3 hdD3 lo3 hD3
      dsimp only
      repeat (first | (k_unfold; (try dsimp only)) | walk1 | (dsimp only; walk1))
      refine Stop.go ?_
      rename News _ _ _ _ => Nx
      k_dflt (refine ne_desc Nx (List.mem_append_right _ (inT _ hdd3)) (List.mem_append_left _ hd3) hdD hdD3 loD lo3 (hDD3.mono fun p hp => List.mem_append_right _ (inT p hp)) hD3 (by ktr_units) (by ktr_units) ?_)
      repeat (first | (k_unfold; (try dsimp only)) | walk1 | (dsimp only; walk1))
      refine Stop.go ?_
      dsimp only
      rename News _ _ _ _ => Nx
      k_dflt (refine ne_desc Nx (List.mem_append_right _ (inT _ hda3)) (List.mem_append_right _ (inT _ hdb3)) hdA hdB loA loB (hDA3.mono fun p hp => List.mem_append_right _ (inT p hp)) (hDA3.mono fun p hp => List.mem_append_right _ (inT p hp)) (by ktr_units) (by ktr_units) ?_)
      repeat (first | (k_unfold; (try dsimp only)) | walk1 | (dsimp only; walk1))
      refine Stop.go ?_
      rename News _ _ _ _ => Nx
      k_dflt (refine use_bytes (put_attrs W' hok2.ok dd od kvsD (List.mem_append_right _ (inT _ hdd3)) hdD loD (hDD3.mono fun p hp => List.mem_append_right _ (inT p hp))) (by k_asm) (by k_asm) (by k_asm) Nx (by k_asm) rfl rfl (by decide) (by decide) ?_)
      intro t6 h6 tk6 up6 F6 N6
      dsimp only
      repeat (first | (k_unfold; (try dsimp only)) | walk1 | (dsimp only; walk1))
      refine Stop.go ?_
      rename News _ _ _ _ => Nx
      k_dflt (refine use_bytes (law_octets W' hok2.ok hok2.three wd oW2 kvsW2 (List.mem_append_right _ inW) hdW2 low (hWD3.mono fun p hp => List.mem_append_right _ (inT p hp))) (by k_asm) (by k_asm) (by k_asm) Nx (by k_asm) rfl rfl (by decide) (by decide) ?_)
      intro t7 h7 tk7 up7 F7 N7'
      dsimp only
      repeat (first | (k_unfold; (try dsimp only)) | walk1 | (dsimp only; walk1))
      refine Stop.go ?_
      k_dflt (refine ne_bytes ?_)
      rw [octs_eq, bne_self_eq_false]
      repeat (first | (k_unfold; (try dsimp only)) | walk1 | (dsimp only; walk1))
      refine Stop.go ?_
      refine UnrEnd.intro (by assumption) (by assumption) ((bx, PySem.W.listOf #[.ref sl, .int c2' tc2'] kb2') :: (wd, oW2) :: T2) (fun p hp => List.mem_append_right _ hp) (fun p hp => ?_) (hR _ _ ⟨W', oW2, kvsW2, c2', tc2', kb2', dd, od, kvsD, T2, rfl, rfl, rfl, hc2', hdW2, hlen2, hWD3, hok2, hsl3, hdd3, hdD, loD, hDD3, hoff3, nb, nw⟩)
      rcases List.mem_cons.mp hp with rfl | hp
      · exact nb
      rcases List.mem_cons.mp hp with rfl | hp
      · exact nw
      · exact (hoff3 p hp).2.2)
end
