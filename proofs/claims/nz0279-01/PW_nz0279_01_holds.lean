import PyProof.Rows.All
import Wide.All
import OpenK.AllK
import Wide.FinOn
import Lean
import PySem.Challenge.RW_nz0279_01
open PySem PySem.W PyProof.Rows PySem.Spec PySem.Calls
set_option Elab.async false
set_option maxRecDepth 100000
set_option maxHeartbeats 8000000
set_option compiler.extract_closed false
namespace Mine
section -- Head
open_top hd for PySem.Challenge.rw_nz0279_01
end
section -- Base
abbrev ar (dp un : Nat) (gd : Option (List Code)) (fr : Option (List Env)) : Around := { handled := none, depth := dp, frames := fr, guards := gd, units := un }

/-- what a call of mine leaves behind: a value, new objects; all that stood stands -/
def MEnd (g : Heap) (s : Shared) (Post : Value → List (Addr × Obj) → Prop) (v : Value) (s' : Shared) : Prop :=
  ∃ own h' tk', s' = { s with heap := h', toks := tk' } ∧ Post v own ∧ (∀ b o, g.get? b = some o → h'.get? b = some o) ∧ (∀ p ∈ own, h'.get? p.1 = some p.2 ∧ g.get? p.1 = none)

theorem MEnd.intro {g : Heap} {s : Shared} {Post : Value → List (Addr × Obj) → Prop} {v : Value} {L' : Addr} {h' : Heap} {m' : Str → Option Value} {tk' : Nat} {news' : List (Addr × Obj)}
    (F : Fr g L' h' m') (N : News g L' h' news') (own : List (Addr × Obj)) (sub : ∀ p ∈ own, p ∈ news') (hp : Post v own) : MEnd g s Post v { s with heap := h', toks := tk' } :=
  ⟨own, h', tk', rfl, hp, F.keep, fun p hm => ⟨(N p (sub p hm)).1, (N p (sub p hm)).2.2⟩⟩
theorem MEnd.val {g : Heap} {s : Shared} {P : Value → Prop} {v : Value} {L' : Addr} {h' : Heap} {m' : Str → Option Value} {tk' : Nat}
    (F : Fr g L' h' m') (hp : P v) : MEnd g s (fun v own => own = [] ∧ P v) v { s with heap := h', toks := tk' } :=
  ⟨[], h', tk', rfl, ⟨rfl, hp⟩, F.keep, fun _ hm => nomatch hm⟩

def Claim (lv : Nat) (f : Addr) (vs : List Value) (Pre : World → Heap → Prop) (Post : World → Value → List (Addr × Obj) → Prop) : Prop :=
  ∀ (w : World) (p : Program) (loose : List Str) (mean : ExcName → Option Value) (mg mb : Str → Option Value) (dp un : Nat) (gd : Option (List Code)) (fr : Option (List Env)) (s : Shared) (Q E : Value → Shared → Prop),
    (hd.heap_39 w.params).In s.heap → Top p loose mean mg mb s.heap → dp + 10 * lv < recursionLimit → un + 100 * lv < cLine → Pre w s.heap →
    (∀ v s', MEnd s.heap s (Post w) v s' → Q v s') →
      wpAny (model PySem.Challenge.rw_nz0279_01.row.prog w) (ar dp un gd fr) (call (.ref f) vs) Q E s

section
variable {w : World} {dp un : Nat} {gd : Option (List Code)} {fr : Option (List Env)} {s : Shared} {Q E : Value → Shared → Prop} {K : Frag} {p : Program} {loose : List Str} {mean : ExcName → Option Value} {mg mb : Str → Option Value}
  {name qual : Str} {params : Arguments} {body : List Stmt} {scope : Scope} {dV kV doc pm cdv ct oc : Value} {an od : Option Addr} {osl : Array (Option Value)} {f : Addr} {vs : List Value} {binds : List (Str × Value)} {prog : Program} {Post : Value → List (Addr × Obj) → Prop}

theorem enter (X : K.In s.heap) (T : Top p loose mean mg mb s.heap)
    (ho : K.lookup f = some ⟨oc, od, .func (fnOf name qual params body scope dV kV doc pm an cdv ct), osl⟩) (hcd : codeIn K cdv qual = true) (hroom : dp < recursionLimit)
    (hbind : BindsTo s (fnOf name qual params body scope dV kV doc pm an cdv ct) ⟨vs, []⟩ binds) (hloc : ∀ y ∈ binds, scope.names.lookup y.1 = some .local)
    (hq : ∀ v s', MEnd s.heap s Post v s' → Q v s')
    (h : ∀ (g : Heap) L' h₁, g = s.heap → Fr g L' h₁ (fun y => binds.reverse.lookup y) → News g L' h₁ [] → K.In g → Top p loose mean mg mb g →
      wpAny (model prog w) ((ar dp un gd fr).deeper (envOf qual scope L' f cdv)) (execs body (envOf qual scope L' f cdv))
        (fun fl s' => MEnd g s Post (match fl with | .ret v => v | _ => .none) s')
        (fun e s' => wpAny (model prog w) ((ar dp un gd fr).deeper (envOf qual scope L' f cdv)) (leaving (envOf qual scope L' f cdv) e) (fun _ s'' => E e s'') (fun e' s'' => E e' s'') s')
        { s with heap := h₁, toks := s.toks + binds.length })
    (hco : scope.isCoroutine = false) (hgen : scope.isGenerator = false) (hk : scope.kind = .function)
    (hcell : ∀ x ∈ scope.names, x.2 ≠ .cell) : wpAny (model prog w) (ar dp un gd fr) (call (.ref f) vs) Q E s := by
  refine wpAny_call ?_
  refine codeAny_call_def (fd := fnOf name qual params body scope dV kV doc pm an cdv ct) (body := body) (binds := binds) hroom (X _ _ ho) rfl T.nolimit (codeRec_of X hcd) rfl hbind hcell hloc (fun h₁ hns hk₁ => ?_) hco hgen hk
  exact wpAny_mono (h _ s.heap.objs.size h₁ rfl ⟨hns, hk₁, Nat.le_refl _⟩ News.nil X T) (fun fl s' hl => hq _ _ hl) fun _ _ y => y

theorem enterC (X : K.In s.heap) (T : Top p loose mean mg mb s.heap)
    (ho : K.lookup f = some ⟨oc, od, .func (fnOf name qual params body scope dV kV doc pm an cdv ct), osl⟩) (hcd : codeIn K cdv qual = true) (hroom : dp < recursionLimit)
    (hbind : BindsTo s (fnOf name qual params body scope dV kV doc pm an cdv ct) ⟨vs, []⟩ binds) (hkind : (binds.all fun y => scope.names.lookup y.1 == some .local || scope.names.lookup y.1 == some .cell) = true)
    (hnd : ((cellsFrom 0 scope.names []).map (·.1)).Nodup)
    (hq : ∀ v s', MEnd s.heap s Post v s' → Q v s')
    (h : ∀ (g : Heap) L' h₁ tk cells, g = s.heap → Fr g L' h₁ (bindL (envOfC qual scope L' f cdv).kindOf binds fun _ => none) → News g L' h₁ cells →
      CellsAre (bindC (envOfC qual scope L' f cdv).kindOf binds fun _ => none) (cellsFrom (L' + 1) scope.names []) cells → K.In g → Top p loose mean mg mb g →
      wpAny (model prog w) ((ar dp un gd fr).deeper (envOfC qual scope L' f cdv)) (execs body (envOfC qual scope L' f cdv))
        (fun fl s' => MEnd g s Post (match fl with | .ret v => v | _ => .none) s')
        (fun e s' => wpAny (model prog w) ((ar dp un gd fr).deeper (envOfC qual scope L' f cdv)) (leaving (envOfC qual scope L' f cdv) e) (fun _ s'' => E e s'') (fun e' s'' => E e' s'') s')
        { s with heap := h₁, toks := tk })
    (hco : scope.isCoroutine = false) (hgen : scope.isGenerator = false) (hk : scope.kind = .function) : wpAny (model prog w) (ar dp un gd fr) (call (.ref f) vs) Q E s := by
  refine wpAny_call ?_
  refine codeAny_call_function hroom (X _ _ ho) rfl hco hgen rfl (codeRec_of X hcd) (hbind _ _ _ _ ?_)
  refine wpAny_newFunctionEnv_cells hk (kindsX hkind _) fun env' he s' x => ?_
  subst he
  refine ⟨T.nolimit.keeps x.toInCall.keep, codeAny_func ?_⟩
  obtain ⟨h₁, tk, rfl, _⟩ := x.done
  obtain ⟨cells, NC, Y⟩ := Cl.news (h₀ := s.heap) (Nat.le_refl _) fun n c hm => ⟨x.cell n c (lookup_of_mem_nodup (cellsFrom_names scope.names 0 (s.heap.objs.size + 1) [] [] rfl ▸ hnd) hm), x.above n c hm⟩
  exact wpAny_mono (h _ s.heap.objs.size h₁ tk cells rfl ⟨x.toInCall.ns, x.toInCall.keep, Nat.le_refl _⟩ NC Y X T) (fun fl s' hl => hq _ _ hl) fun _ _ y => y
end

theorem use {f : Addr} {vs : List Value} {Pre : World → Heap → Prop} {Post : World → Value → List (Addr × Obj) → Prop}
    {w : World} {p : Program} {loose : List Str} {mean : ExcName → Option Value} {mg mb : Str → Option Value} {dp un : Nat} {gd : Option (List Code)} {fr : Option (List Env)} {h₀ : Heap} {L : Addr} {m : Str → Option Value} {news : List (Addr × Obj)} {s : Shared} {Q E : Value → Shared → Prop}
    (F : Fr h₀ L s.heap m) (X : (hd.heap_39 w.params).In h₀) (N : News h₀ L s.heap news) (T : Top p loose mean mg mb h₀)
    {lv : Nat} (C : Claim lv f vs Pre Post) (hd : dp + 10 * lv < recursionLimit) (hu : un + 100 * lv < cLine) (hp : Pre w s.heap)
    (ret : ∀ (v : Value) (own : List (Addr × Obj)) (h' : Heap) (tk' : Nat), Post w v own → Fr h₀ L h' m → News h₀ L h' (own ++ news) → (∀ p ∈ own, ∀ q ∈ news, p.1 ≠ q.1) → Q v { s with heap := h', toks := tk' }) :
      wpAny (model PySem.Challenge.rw_nz0279_01.row.prog w) (ar dp un gd fr) (call (.ref f) vs) Q E s := by
  refine C _ _ _ _ _ _ _ _ _ _ _ _ _ (X.keeps F.keep) (T.keeps F.keep) hd hu hp ?_
  rintro v s' ⟨own, h', tk', rfl, hpost, hk, ho⟩
  have hLs : ∃ o, s.heap.get? L = some o := let ⟨o, _, _, e, _⟩ := F.ns; ⟨o, e⟩
  refine ret v own h' tk' hpost (F.keeps hk) (fun q hq => ?_) (fun q hq r hr e => ?_)
  · rcases List.mem_append.mp hq with hq | hq
    · refine ⟨(ho q hq).1, fun e => ?_, ?_⟩
      · obtain ⟨o, e'⟩ := hLs
        rw [← e, (ho q hq).2] at e'; cases e'
      · cases e : h₀.get? q.1 with
        | none => rfl
        | some o => have := F.keep _ _ e; rw [(ho q hq).2] at this; cases this
    · exact ⟨hk _ _ (N q hq).1, (N q hq).2⟩
  · have := (N r hr).1
    rw [← e, (ho q hq).2] at this; cases this

def NoPre (_ : World) (_ : Heap) : Prop := True
def Gives (P : Value → Prop) (_ : World) (v : Value) (own : List (Addr × Obj)) : Prop := own = [] ∧ P v
def IsB (ks : List Int) (v : Value) : Prop := ∃ b t, v = .bytes b t ∧ KBw.bInts b = ks
def IsS (x : Str) (v : Value) : Prop := ∃ t, v = .str x t
def IsI (x : Int) (v : Value) : Prop := ∃ t, v = .int x t
def IsBo (x : Bool) (v : Value) : Prop := v = .bool x

def AllNe (d : Nat) : List (Addr × Obj) → Prop
  | [] => True
  | p :: r => @Ne Nat d p.1 ∧ AllNe d r
theorem allNe_of {d : Addr} : ∀ {l : List (Addr × Obj)}, (∀ p ∈ l, d ≠ p.1) → AllNe d l
  | [], _ => trivial
  | p :: _, h => ⟨h p (.head _), allNe_of fun q hq => h q (.tail _ hq)⟩
end
section -- Comps
section
variable {prog : Program} {w : World} {A : Around} {E : Value → Shared → Prop} {s : Shared} {h₀ : Heap} {L : Addr} {m : Str → Option Value} {env : Env}

def SrcM (prog : Program) (w : World) (A : Around) (h₀ : Heap) (L : Addr) (m : Str → Option Value) (env : Env) (elt : Expr) (x : Str) (scope : Scope) (cl : List (Str × Addr)) (Fin : Shared → List Value → List (Addr × Obj) → Prop) (xv : Value) (s₁ : Shared) : Prop :=
  ∃ (news : List (Addr × Obj)) (n : Nat) (P : Nat → Value → Prop) (S : List (Addr × Obj) → Prop) (oI : Obj) (fp : List Addr) (St : Nat → Heap → Prop),
    A.handled = none ∧ Fr h₀ L s₁.heap m ∧ News h₀ L s₁.heap news ∧ n ≤ sizeLine ∧ S news ∧
    (∀ (Q : Value → Shared → Prop) (E : Value → Shared → Prop), Q (.ref s₁.heap.objs.size) { s₁ with heap := s₁.heap.push oI } → wpAny (model prog w) A (pyIter xv) Q E s₁) ∧
    Walks prog w A s₁.heap.objs.size fp [s₁.heap.objs.size] n P St ∧ (∀ i h, St i h → ∃ o, h.get? s₁.heap.objs.size = some o) ∧
    (∀ i h h' o nw, St i h → h.get? s₁.heap.objs.size = some o → h'.get? s₁.heap.objs.size = some o → (∀ b o, h₀.get? b = some o → h'.get? b = some o) → News h₀ L h' nw → S nw → St i h') ∧
    St 0 (s₁.heap.push oI) ∧ (∀ b ∈ fp, b < s₁.heap.objs.size + 1) ∧
    ∀ s₂ : Shared, (∃ h, s₂ = { s₁ with heap := h }) → LCg.CompRest prog w A h₀ L m env elt x scope cl s₂ S P (Fin s₂) n 0 [] news

theorem SrcM.range {elt : Expr} {x : Str} {scope : Scope} {cl : List (Str × Addr)} {Fin : Shared → List Value → List (Addr × Obj) → Prop} {r : Addr} {a b c : Int} {t u v : Tok} {n : Nat} {news : List (Addr × Obj)} {s₁ : Shared}
    (hh : A.handled = none) (F : Fr h₀ L s₁.heap m) (N : News h₀ L s₁.heap news) (hr : IsRange s₁.heap r a b c t u v) (hsm : Builtin.Range.small a b c = true) (hn : Builtin.Range.rangeSize a b c = ((n : Nat) : Int)) (hsz : n ≤ sizeLine)
    (h : ∀ g, LCg.CompRest prog w A h₀ L m env elt x scope cl { s₁ with heap := g } (fun _ => True) (fun i v => ∃ t, v = .int (a + (i : Int) * c) t) (Fin { s₁ with heap := g }) n 0 [] news) :
    SrcM prog w A h₀ L m env elt x scope cl Fin (.ref r) s₁ := by
  refine ⟨news, n, _, fun _ => True, _, _, _, hh, F, N, hsz, trivial, fun Q E hQ => wpAny_pyIter_range hr hsm hQ, Walks.range hh s₁.heap.objs.size a c n, fun i h st => ⟨_, st⟩, ?_, ?_, ?_, fun _ ⟨g, e⟩ => e ▸ h g⟩
  · intro i h h' o nw st e e' _ _ _
    have st' : h.get? s₁.heap.objs.size = some _ := st
    show h'.get? s₁.heap.objs.size = some _
    rw [e', ← e]; exact st'
  · show IsRangeIter _ _ _ _ _
    rw [hn]
    have := Heap.get?_push_size (h := s₁.heap) (o := { cls := .type "range_iterator", data := .fields #[rawInt a, rawInt ((n : Nat) : Int), rawInt c] }) rfl
    simpa [IsRangeIter] using this
  · intro b hb
    rw [List.mem_singleton.mp hb]; exact Nat.lt_succ_self _

def TupIn (ax : Addr) (its : Array Value) (news : List (Addr × Obj)) : Prop := ∃ k, (ax, ({ cls := .type "tuple", data := .seq its k } : Obj)) ∈ news
theorem SrcM.tuple {elt : Expr} {x : Str} {scope : Scope} {cl : List (Str × Addr)} {Fin : Shared → List Value → List (Addr × Obj) → Prop} {ax : Addr} {its : Array Value} {k : Nat} {news : List (Addr × Obj)} {s₁ : Shared}
    (hh : A.handled = none) (F : Fr h₀ L s₁.heap m) (N : News h₀ L s₁.heap news) (hm : (ax, ({ cls := .type "tuple", data := .seq its k } : Obj)) ∈ news) (hsz : its.size ≤ sizeLine)
    (h : ∀ g, LCg.CompRest prog w A h₀ L m env elt x scope cl { s₁ with heap := g } (TupIn ax its) (fun i v => its[i]? = some v) (Fin { s₁ with heap := g }) its.size 0 [] news) :
    SrcM prog w A h₀ L m env elt x scope cl Fin (.ref ax) s₁ := by
  have ht : s₁.heap.IsTuple ax its := ⟨_, (N _ hm).1, rfl, _, rfl⟩
  have hlt : ax < s₁.heap.objs.size := Heap.lt_size (N _ hm).1
  refine ⟨news, its.size, _, TupIn ax its, _, _, _, hh, F, N, hsz, ⟨k, hm⟩, fun Q E hQ => wpAny_pyIter_tuple ht hQ, Walks.tuple hh s₁.heap.objs.size ax (Nat.ne_of_lt hlt) its, ?_, ?_, ?_, ?_, fun _ ⟨g, e⟩ => e ▸ h g⟩
  · intro i h st
    obtain ⟨o, e, _⟩ := st.1
    exact ⟨o, e⟩
  · intro i h h' o nw st e e' _ N' hS
    obtain ⟨k', hm'⟩ := hS
    refine ⟨?_, ⟨_, (N' _ hm').1, rfl, _, rfl⟩⟩
    obtain ⟨o', q, r⟩ := st.1
    rw [e] at q; cases q
    exact ⟨o, e', r⟩
  · exact ⟨⟨_, Heap.get?_push_size _ rfl, rfl, rfl⟩, ht.push _⟩
  · intro b hb
    rcases List.mem_cons.mp hb with rfl | hb
    · exact Nat.lt_succ_self _
    · rw [List.mem_singleton.mp hb]; exact Nat.lt_succ_of_lt hlt

theorem ListComp_M {elt iter : Expr} {x : Str} {px : Pos} {scope : Scope} {cl : List (Str × Addr)} {pos : Pos} {Q : Value → Shared → Prop} (F₀ : Fr h₀ L s.heap m)
    (hclos : closureFor scope env = pure cl) (hcell : ∀ y ∈ scope.names, y.2 ≠ .cell) (hkind : scope.kind = .function)
    (hnames : ∀ y ∈ scope.names, y.2 = .local → scope.names.lookup y.1 = some .local) (hx : scope.names.lookup x = some .local)
    (h : wpAny (model prog w) A (eval iter env) (SrcM prog w A h₀ L m env elt x scope cl (fun s₂ => LCg.FinE h₀ L m s₂ Q)) E s)
    (hs : ∀ x, foldedSetIterable iter env x = pure x := by intro _; rfl) :
    wpAny (model prog w) A (eval (.ListComp elt [⟨.Name x px, iter, [], 0⟩] scope pos) env) Q E s := by
  rw [eval_ListComp]
  refine wpAny_comprehension_free (use := none) rfl hs hclos hkind hnames (wpAny_mono h (fun xv s₁ h₁ => ?_) fun _ _ e => e)
  obtain ⟨news, n, P, S, oI, fp, St, hh, F, N, hsz, hS, hit, W, hIo, hSt, st0, hfp, R⟩ := h₁
  refine hit _ _ ?_
  have up : ∀ b o, s₁.heap.get? b = some o → (s₁.heap.push oI).get? b = some o := fun b o e => Heap.get?_push_of_some _ e
  refine LCg.block_U W hsz hIo hSt hcell hkind hx st0 (fun b hb => ?_)
    (F.keeps up) (N.grown up) (Nat.ne_of_lt F.ns.lt) (next_is_new F) (fun p hp => Nat.ne_of_lt (Heap.lt_size (N p hp).1)) hS (R _ ⟨_, rfl⟩) ?_
  · show b < (s₁.heap.push _).objs.size
    rw [Heap.size_push]; exact hfp b hb
  · intro D C h tk m' ys news' F' N' o1 hn hC₀ hD₀ hCL hDL hCD offC fin
    refine ⟨m', hn, fun h'' hs'' => fin D h'' tk (F'.change hs'' hCL hC₀) (fun p hp => ?_) o1⟩
    refine ⟨hs''.extBut _ _ ?_ (N' p hp).1, (N' p hp).2⟩
    rcases List.mem_cons.mp hp with rfl | hp
    · exact Ne.symm hCD
    · exact offC p hp

theorem Assign_ListComp_M {elt iter : Expr} {x y : Str} {px py : Pos} {scope : Scope} {cl : List (Str × Addr)} {pos spos : Pos} {Q : Flow → Shared → Prop} (F₀ : Fr h₀ L s.heap m) (hLe : env.locals = L)
    (hsw : swapsWith (.ListComp elt [⟨.Name x px, iter, [], 0⟩] scope pos) (some (.Name y py)) spos.line env = pure true)
    (hclos : closureFor scope env = pure cl) (hcell : ∀ z ∈ scope.names, z.2 ≠ .cell) (hkind : scope.kind = .function)
    (hnames : ∀ z ∈ scope.names, z.2 = .local → scope.names.lookup z.1 = some .local) (hx : scope.names.lookup x = some .local)
    (hy : env.kindOf y = some .local) (hp : (env.scope.kind == .class || (env.scope.kind == .module && env.locals != env.globals)) = false)
    (h : wpAny (model prog w) A (eval iter env) (SrcM prog w A h₀ L m env elt x scope cl (fun s₂ => LCg.FinA h₀ L m s₂ y Q)) E s)
    (hs : ∀ x, foldedSetIterable iter env x = pure x := by intro _; rfl) :
    wpAny (model prog w) A (exec (.Assign [.Name y py] (.ListComp elt [⟨.Name x px, iter, [], 0⟩] scope pos) spos) env) Q E s := by
  subst hLe
  rw [exec_Assign_Name_used _ _ _ _ hsw]
  refine wpAny_bind (wpAny_standAt (wpAny_bind ?_))
  show wpAny _ A (do let _ ← comprehension (.ListComp elt [⟨.Name x px, iter, [], 0⟩] scope pos) scope env _ (newList []) false (eval iter env) (some (assign (.Name y py) env))) _ _ s
  refine wpAny_bind (wpAny_mono (wpAny_comprehension_free (use := some (assign (.Name y py) env)) (Q := fun _ s' => Q .next s') rfl hs hclos hkind hnames
    (wpAny_mono h (fun xv s₁ h₁ => ?_) fun _ _ e => e)) (fun _ s' hq => wpAny_pure (wpAny_pure hq)) fun _ _ e => e)
  obtain ⟨news, n, P, S, oI, fp, St, hh, F, N, hsz, hS, hit, W, hIo, hSt, st0, hfp, R⟩ := h₁
  refine hit _ _ ?_
  have up : ∀ b o, s₁.heap.get? b = some o → (s₁.heap.push oI).get? b = some o := fun b o e => Heap.get?_push_of_some _ e
  refine LCg.block_U W hsz hIo hSt hcell hkind hx st0 (fun b hb => ?_)
    (F.keeps up) (N.grown up) (Nat.ne_of_lt F.ns.lt) (next_is_new F) (fun p hp => Nat.ne_of_lt (Heap.lt_size (N p hp).1)) hS (R _ ⟨_, rfl⟩) ?_
  · show b < (s₁.heap.push _).objs.size
    rw [Heap.size_push]; exact hfp b hb
  · intro D C h' tk m' ys news' F' N' o1 hn hC₀ hD₀ hCL hDL hCD offC fin
    show wpAny _ A (assign (.Name y py) env (.ref D)) _ _ _
    refine wpAny_assign_Name (wpAny_storeName_local hy F'.ns (fun h₂ hn₂ hs₂ => ?_) hp)
    have hL₀ : h₀.get? env.locals = none := Heap.get?_none_of_le F'.above
    have F₂ : Fr h₀ env.locals h₂ (fun z => if z = y then some (.ref D) else m z) := ⟨hn₂, fun b o e => hs₂.extBut b o (fun q => by rw [q, hL₀] at e; cases e) (F'.keep b o e), F'.above⟩
    refine ⟨m', hn.sameBut hs₂ hCL, fun h'' hs'' => fin D h'' _ (F₂.change hs'' hCL hC₀) (fun p hp => ?_) o1⟩
    have z : h₂.get? p.1 = some p.2 := hs₂.extBut _ _ (N' p hp).2.1 (N' p hp).1
    refine ⟨hs''.extBut _ _ ?_ z, (N' p hp).2⟩
    rcases List.mem_cons.mp hp with rfl | hp
    · exact Ne.symm hCD
    · exact offC p hp
end
end
section -- Rules
section
variable {prog : Program} {w : World} {A : Around} {E : Value → Shared → Prop} {s : Shared}
theorem pow2_nonneg (k : Nat) : (0 : Int) ≤ 2 ^ k := Int.le_of_lt (Int.pow_pos (by decide))
theorem len_e {b : Array UInt8} {ks : List Int} {t : Tok} {r : Int} {Q : Value → Shared → Prop} (hk : KBw.bInts b = ks) (hfit : ks.length ≤ 1099511627776) (e : ((ks.length : Nat) : Int) = r) (h : Q (.int r (s.toks + 1)) { s with toks := s.toks + 1 + 1 }) : wpAny (model prog w) A (call (.builtin "len") [.bytes b t]) Q E s := by
  subst e; exact KBw.len_K hk hfit h
theorem shr {a n r : Int} {t u : Tok} {Q : Value → Shared → Prop} (hn : 0 ≤ n) (e : a / 2 ^ n.toNat = r) (h : Q (.int r s.toks) { s with toks := s.toks + 1 }) : wpAny (model prog w) A (binaryOp .RShift (.int a t) (.int n u)) Q E s := by
  subst e
  refine rshift_int hn ?_
  rw [Int.fdiv_eq_ediv_of_nonneg _ (pow2_nonneg _)]; exact h
theorem shl {a n r : Int} {t u : Tok} {Q : Value → Shared → Prop} (hn : 0 ≤ n) (hn2 : n ≤ 1000) (ha0 : 0 ≤ a) (ha : a < 2 ^ 200) (e : a * 2 ^ n.toNat = r) (h : Q (.int r s.toks) { s with toks := s.toks + 1 }) : wpAny (model prog w) A (binaryOp .LShift (.int a t) (.int n u)) Q E s := by
  subst e
  refine lshift_int hn ?_ h
  have h2 : Builtin.Int.intBits a ≤ 200 := PySem.intBits_le_iff.mpr (by omega)
  omega
theorem and63 {a : Int} {t u : Tok} {Q : Value → Shared → Prop} (h : Q (.int (a % 64) s.toks) { s with toks := s.toks + 1 }) : wpAny (model prog w) A (binaryOp .BitAnd (.int a t) (.int 63 u)) Q E s := by
  refine and_int ?_
  rw [bitAnd_m6]; exact h
theorem and255 {a : Int} {t u : Tok} {Q : Value → Shared → Prop} (h : Q (.int (a % 256) s.toks) { s with toks := s.toks + 1 }) : wpAny (model prog w) A (binaryOp .BitAnd (.int a t) (.int 255 u)) Q E s := by
  refine and_int ?_
  rw [bitAnd_m8]; exact h
theorem andMask {a y r : Int} (k : Nat) {t u : Tok} {Q : Value → Shared → Prop} (e : y = 2 ^ k - 1) (e2 : a % 2 ^ k = r) (h : Q (.int r s.toks) { s with toks := s.toks + 1 }) : wpAny (model prog w) A (binaryOp .BitAnd (.int a t) (.int y u)) Q E s := by
  subst e e2
  refine and_int ?_
  rw [kbt_mask]; exact h
end
end
section -- Dict
section
variable {prog : Program} {w : World} {A : Around} {E : Value → Shared → Prop} {s : Shared}
theorem miss_keys : typeLookup (.type "list") "keys" = pure none := am_miss_of_fast (by decide +kernel)

theorem list_no_keys {a : Addr} {o : Obj} {xs : Array Value} {k : Nat} {Q : Option Value → Shared → Prop}
    (hx : s.heap.get? a = some o) (hc : o.cls = .type "list") (hdat : o.data = .seq xs k) (hd : o.dict = none) (hA : A.handled = none)
    (h : ∀ h' tk, (∀ b o, s.heap.get? b = some o → h'.get? b = some o) → Q none { s with heap := h', toks := tk }) :
    wpAny (model prog w) A (getAttr? (.ref a) "keys") Q E s := by
  obtain ⟨c, dct, dat, sl⟩ := o
  simp only at hc hdat hd
  subst hc hdat hd
  obtain ⟨hp, g, d, tk, os⟩ := s
  have hT : ∀ tk', (⟨hp, g, d, tk', os⟩ : Shared).TypeIs (.ref a) "list" := fun _ => ⟨_, hx, rfl⟩
  have f1 := sub_AttributeError
  have f3 := F.slot_list_getattribute.lookup
  have f4 := F.slot_list_getattribute.bind (.ref a)
  have f5 := am_list_getattr_none
  unfold getAttr? getAttrBy? getAttrBy
  repeat (any_goals (first | assumption | exact hT _ | ((with_reducible show wpAny _ _ (call (Value.builtin "list.__getattribute__") _ _) _ _ _); refine call_meets F.slot_list_getattribute (hT _) am_entry_list_getattribute (F.args_list_getattribute_2 _ _) (meets_getattribute_miss_list a xs k sl "keys" _ miss_keys (by decide +kernel) (by size_fits)) ⟨hx, hA, fun h' tk' e hx' => ?_⟩) | wp_step))
  obtain ⟨t', u', he⟩ := hx'.there
  show wpAny _ _ (getattributeRaised _ _ _ _ _ _ _) _ _ _
  unfold getattributeRaised
  repeat (any_goals (first | assumption | wp_step))
  all_goals exact h _ _ hx'.keeps
end
theorem entry_upd_loop : entryFor table "dict.update.loop" = some Builtin.«dict.update.loop» := entryFor_of_tree (by kernel_rfl)
theorem plain_upd_loop : plainId "dict.update.loop" = true := by decide +kernel
section
variable {prog : Program} {w : World} {A : Around} {E : Value → Shared → Prop} {s : Shared}

def PairAt (h : Heap) (v : Value) (kv : Int × Value) : Prop := ∃ a t n, v = .ref a ∧ h.get? a = some { cls := .type "tuple", data := .seq #[.int kv.1 t, kv.2] n }
theorem PairAt.keep {h h' : Heap} {v : Value} {kv : Int × Value} {d : Addr} (x : PairAt h v kv) (hd : ∀ o, h.get? d = some o → o.cls ≠ .type "tuple") (hs : Heap.SameBut d h h') : PairAt h' v kv := by
  obtain ⟨a, t, n, rfl, e⟩ := x
  refine ⟨a, t, n, rfl, (hs.2 a fun q => ?_).trans e⟩
  subst q
  exact hd _ e rfl

theorem upd_loop {R : Result → Shared → Prop} {d I l : Addr} {items : Array Value} {kvs : List (Int × Value)} (hh : A.handled = none) (hlen : items.size = kvs.length) (hsz : kvs.length ≤ sizeLine) (hdI : d ≠ I) (hdl : d ≠ l) (hIl : l ≠ I) (base : Heap)
    (hR : ∀ (s' : Shared), s'.heap.DictOf (intKind prog w) d (merged [] kvs) → (∀ b o, b ≠ d → b ≠ I → base.get? b = some o → s'.heap.get? b = some o) → s'.gens = s.gens → s'.drawn = s.drawn → s'.os = s.os → R (.ok (.ret .none)) s') :
    ∀ (j i : Nat) (s₁ : Shared), i + j = kvs.length → s₁.gens = s.gens → s₁.drawn = s.drawn → s₁.os = s.os → (∀ b o, b ≠ d → b ≠ I → base.get? b = some o → s₁.heap.get? b = some o) →
      s₁.heap.IsListIter I l i → s₁.heap.IsList l items → s₁.heap.DictOf (intKind prog w) d (merged [] (kvs.take i)) → (∀ (m : Nat) v kv, items[m]? = some v → kvs[m]? = some kv → PairAt s₁.heap v kv) →
      codeAny (model prog w) A (.builtin "dict.update.loop" ⟨[.ref d, .ref I, rawInt (i : Int), .none], []⟩) R s₁ := by
  intro j
  induction j with
  | zero =>
    intro i s₁ hij hg hdr hos hkeep hit hl hd hp
    have hi : i = kvs.length := by omega
    subst hi
    rw [List.take_length] at hd
    refine codeAny_builtin entry_upd_loop ?_
    rw [Around.under_plainId plain_upd_loop _]
    show wpAny _ A.in1 (pyNext (.ref I) >>= _) _ _ s₁
    refine wpAny_bind (wpAny_pyNext_list_end hh hit hl (by rw [← hlen]; simp) fun h' hs' => ?_)
    show wpAny _ _ (Builtin.Dict.addKeywords d [] >>= _) _ _ _
    refine wpAny_bind (wpAny_pure ?_)
    exact wpAny_pure (hR _ (hd.extBut hs' hdI) (fun b o hb hb' e => hs' b o hb' (hkeep b o hb hb' e)) hg hdr hos)
  | succ j ih =>
    intro i s₁ hij hg hdr hos hkeep hit hl hd hp
    have hi : i < kvs.length := by omega
    obtain ⟨v, hv⟩ : ∃ v, items[i]? = some v := ⟨items[i]'(by omega), Array.getElem?_eq_getElem (by omega)⟩
    obtain ⟨kv, hkv⟩ : ∃ kv, kvs[i]? = some kv := ⟨kvs[i], List.getElem?_eq_getElem hi⟩
    refine codeAny_builtin entry_upd_loop ?_
    rw [Around.under_plainId plain_upd_loop _]
    show wpAny _ A.in1 (pyNext (.ref I) >>= _) _ _ s₁
    refine wpAny_bind (wpAny_pyNext_list_item hit hl hv fun h₁ hit₁ hs₁ => ?_)
    have hI : ∀ o, s₁.heap.get? I = some o → o.cls ≠ .type "tuple" := by
      obtain ⟨oI, e, hc, _⟩ := hit
      intro o e'
      rw [e] at e'; cases e'
      rw [hc]; decide
    have hp₁ : ∀ (m : Nat) v kv, items[m]? = some v → kvs[m]? = some kv → PairAt h₁ v kv := fun m v kv a b => (hp m v kv a b).keep hI hs₁
    obtain ⟨a, t, n, rfl, ha⟩ := hp₁ i v kv hv hkv
    have hd₁ : h₁.DictOf (intKind prog w) d (merged [] (kvs.take i)) := hd.sameBut hs₁ hdI
    have hl₁ : h₁.IsList l items := hl.extBut hs₁.extBut hIl
    refine wpAny_bind (wpAny_holding (wpAny_bind (wpAny_tryCatch ?_)))
    unfold Builtin.Dict.pairItems
    refine wpAny_bind (wpAny_typeOf (T := "tuple") ⟨_, ha, rfl⟩ ?_)
    rw [if_pos (by decide)]
    refine wpAny_bind (wpAny_seqItems ha rfl ?_)
    refine wpAny_pure ?_
    show wpAny _ _ (holding [Value.int kv.1 t, kv.2] (dictSet d (.int kv.1 t) kv.2)) _ _ _
    refine wpAny_holding ?_
    unfold dictSet
    refine wpAny_holding (wpAny_bind (wpAny_pyHash_int ?_))
    refine wpAny_dictSetHashed_pairs (knd := intKind prog w) (k := kv.1) (intKind_is prog w _ _) hd₁ (fun h₂ hd₂ hs₂ => ?_) (by
      have := merged_length_le [] (kvs.take i)
      simp only [List.length_nil, Nat.zero_add, List.length_take] at this
      omega)
    have hdd : ∀ o, h₁.get? d = some o → o.cls ≠ .type "tuple" := by
      obtain ⟨od, es, ep, e, hc, _⟩ := hd₁
      intro o e'
      rw [e] at e'; cases e'
      rw [hc.1]; decide
    refine wpAny_pure ⟨plainId_quiet plain_upd_loop _, ?_⟩
    have e1 : rawInt ((i : Int) + 1) = rawInt ((i + 1 : Nat) : Int) := by congr 1
    rw [e1]
    refine ih (i + 1) _ (by omega) hg hdr hos (fun b o hb hb' e => (hs₂.2 b hb).trans ((hs₁.2 b hb').trans (hkeep b o hb hb' e))) (hit₁.extBut hs₂.extBut (Ne.symm hdI)) (hl₁.extBut hs₂.extBut (Ne.symm hdl)) ?_ (fun m v kv a b => (hp₁ m v kv a b).keep hdd hs₂)
    rw [merged_take_succ [] kvs i kv hkv]
    exact hd₂

theorem dict_pairs {l : Addr} {o : Obj} {items : Array Value} {k : Nat} {kvs : List (Int × Value)} {Q : Value → Shared → Prop} (hh : A.handled = none) (hl : s.heap.get? l = some { cls := .type "list", data := .seq items k }) (hlen : items.size = kvs.length) (hsz : kvs.length ≤ sizeLine) (hn : (kvs.map (·.1)).Nodup)
    (hp : ∀ (m : Nat) v kv, items[m]? = some v → kvs[m]? = some kv → PairAt s.heap v kv)
    (h : ∀ D h' tk o, (∀ b o, s.heap.get? b = some o → h'.get? b = some o) → s.heap.objs.size ≤ D → h'.get? D = some o → o.IsDictOf (intKind prog w) kvs → Q (.ref D) { s with heap := h', toks := tk }) :
    wpAny (model prog w) A (call (.type "dict") [.ref l]) Q E s := by
  have _ := o
  refine callType_codes (Q₁ := fun obj s₁ => obj = .ref s.heap.objs.size ∧ s₁ = { s with heap := s.heap.push { cls := .type "dict", data := .dict #[] } }) F.kt_called_dict (F.kt_typeCall_dict_1 _) F.entry_dict_init (kt_code_dict_new _ ⟨rfl, rfl⟩) ?_
  rintro obj s₁ ⟨rfl, rfl⟩
  have hnew : (s.heap.push { cls := .type "dict", data := .dict #[] }).DictOf (intKind prog w) s.heap.objs.size [] := Heap.DictOf.new s.heap
  refine ⟨hnew.typeIs, F.args_dict_init_2 _ _, ?_⟩
  unfold Builtin.«dict.__init__»
  refine wpAny_bind ?_
  unfold Builtin.Dict.selfAndRest
  refine wpAny_bind (wpAny_notOrdered_dict hnew.typeIs ?_)
  show wpAny _ _ (pure (s.heap.objs.size, [Value.ref l])) _ _ _
  refine wpAny_pure ?_
  show wpAny _ _ (Builtin.Dict.updateFrom "dict.__init__" s.heap.objs.size (.ref l) [] .none) _ _ _
  unfold Builtin.Dict.updateFrom
  have hl₁ : (s.heap.push { cls := .type "dict", data := .dict #[] }).get? l = some { cls := .type "list", data := .seq items k } := Heap.get?_push_of_some _ hl
  have hlt : l < s.heap.objs.size := Heap.lt_size hl
  refine wpAny_bind (wpAny_typeOf (T := "list") ⟨_, hl₁, rfl⟩ ?_)
  rw [if_pos (by decide)]
  refine wpAny_bind (list_no_keys hl₁ rfl rfl rfl hh fun h' tk hk => ?_)
  simp only [Option.isNone_none, if_true]
  have hl₂ : h'.IsList l items := ⟨_, hk _ _ hl₁, rfl, _, rfl⟩
  refine wpAny_bind (wpAny_rule (wpAny_bind ?_))
  refine wpAny_pyIter_list hl₂ ?_
  have hd₂ : h'.DictOf (intKind prog w) s.heap.objs.size [] := hnew.keep hk
  have hdlt : s.heap.objs.size < h'.objs.size := by obtain ⟨_, _, _, e, _⟩ := hd₂; exact Heap.lt_size e
  have hllt : l < h'.objs.size := by obtain ⟨_, e, _⟩ := hl₂; exact Heap.lt_size e
  refine wpAny_pure ⟨plainId_quiet plain_upd_loop _, ?_⟩
  refine upd_loop (A := A.in1) (s := { s with heap := h', toks := tk }) (kvs := kvs) hh hlen hsz (Nat.ne_of_lt hdlt) (Ne.symm (Nat.ne_of_lt hlt)) (Nat.ne_of_lt hllt) s.heap (fun s' hd' hk' hg hdr hos => ?_) kvs.length 0 { s with heap := h'.push { cls := .type "list_iterator", data := .fields #[.ref l, .int 0 0] }, toks := tk } (by omega) rfl rfl rfl (fun b o hb hb' e => Heap.get?_push_of_some _ (hk _ _ (Heap.get?_push_of_some _ e))) ⟨_, Heap.get?_push_size _ rfl, rfl, rfl⟩ (hl₂.push _) (hd₂.push _) (fun m v kv a b => ?_)
  · refine ⟨rfl, ?_⟩
    rw [merged_nil_of_nodup kvs hn] at hd'
    obtain ⟨o', ho', hdo⟩ := Heap.dictOf_iff.mp hd'
    obtain ⟨hp', g, dr, tk', os⟩ := s'
    dsimp only at hg hdr hos
    subst hg hdr hos
    exact h _ _ tk' o' (fun b o e => hk' b o (Nat.ne_of_lt (Heap.lt_size e)) (Nat.ne_of_lt (Nat.lt_trans (Heap.lt_size e) hdlt)) e) (Nat.le_refl _) ho' hdo
  · obtain ⟨a', t, n, rfl, e⟩ := hp m v kv a b
    exact ⟨a', t, n, rfl, Heap.get?_push_of_some _ (hk _ _ (Heap.get?_push_of_some _ e))⟩
end
end
section -- Worth
def SG : List Int := [65, 66, 67, 68, 69, 70, 71, 72, 73, 74, 75, 76, 77, 78, 79, 80, 81, 82, 83, 84, 85, 86, 87, 88, 89, 90, 97, 98, 99, 100, 101, 102, 103, 104, 105, 106, 107, 108, 109, 110, 111, 112, 113, 114, 115, 116, 117, 118, 119, 120, 121, 122, 48, 49, 50, 51, 52, 53, 54, 55, 56, 57, 43, 47]
theorem SG_len : SG.length = 64 := rfl
def sg (i : Int) : Int := SG.getD i.toNat 0
theorem sg_eq {a b : Int} (h : a = b) : SG.getD a.toNat 0 = sg b := by rw [h]; rfl

def worth (k : Int) : Option Int :=
  if 65 ≤ k ∧ k ≤ 90 then some (k - 65) else if 97 ≤ k ∧ k ≤ 122 then some (k - 71) else if 48 ≤ k ∧ k ≤ 57 then some (k + 4) else if k = 43 then some 62 else if k = 47 then some 63 else none

theorem worth_nat : ∀ j : Fin 64, worth (SG.getD j.val 0) = some (j.val : Int) := by decide +kernel
theorem worth_getD {j : Nat} (h : j < 64) : worth (SG.getD j 0) = some (j : Int) := worth_nat ⟨j, h⟩
theorem worth_sg {i : Int} (h0 : 0 ≤ i) (h1 : i < 64) : worth (sg i) = some i := by
  have := worth_getD (j := i.toNat) (by omega)
  rw [Int.toNat_of_nonneg h0] at this
  exact this
theorem worth_dom {k i : Int} (h : worth k = some i) : 0 ≤ k ∧ k < 128 := by
  unfold worth at h
  split at h
  · omega
  · split at h
    · omega
    · split at h
      · omega
      · split at h
        · omega
        · split at h
          · omega
          · cases h
theorem worth_all : ∀ j : Fin 128, (worth (j.val : Int)).all (fun i => decide ((0 ≤ i ∧ i < 64) ∧ (j.val : Int) ∈ SG)) = true := by decide +kernel
theorem worth_both {k i : Int} (h : worth k = some i) : (0 ≤ i ∧ i < 64) ∧ k ∈ SG := by
  have hd := worth_dom h
  have e : ((k.toNat : Nat) : Int) = k := Int.toNat_of_nonneg hd.1
  have := worth_all ⟨k.toNat, (Int.toNat_lt hd.1).mpr hd.2⟩
  simp only [e, h, Option.all_some, decide_eq_true_eq] at this
  exact this
theorem worth_in {k i : Int} (h : worth k = some i) : 0 ≤ i ∧ i < 64 := (worth_both h).1
theorem worth_mem {k i : Int} (h : worth k = some i) : k ∈ SG := (worth_both h).2
theorem sg_byte (i : Int) : 0 ≤ sg i ∧ sg i < 256 := by
  unfold sg
  rcases Nat.lt_or_ge i.toNat 64 with h | h
  · have : ∀ j : Fin 64, 0 ≤ SG.getD j.val 0 ∧ SG.getD j.val 0 < 256 := by decide +kernel
    exact this ⟨i.toNat, h⟩
  · rw [List.getD_eq_getElem?_getD, List.getElem?_eq_none (by rw [SG_len]; exact h)]
    decide
theorem sg_ne (i : Int) (h0 : 0 ≤ i) (h1 : i < 64) : sg i ≠ 61 := by
  intro e
  have := worth_sg h0 h1
  rw [e] at this
  cases this

section
variable {prog : Program} {w : World} {A : Around} {E : Value → Shared → Prop} {s : Shared}
def KvsOk (kvs : List (Int × Value)) : Prop := kvs.length = 64 ∧ ∀ j, j < 64 → ∃ t, kvs[j]? = some (SG.getD j 0, .int (j : Int) t)
theorem KvsOk.keys {kvs : List (Int × Value)} (x : KvsOk kvs) : kvs.map (·.1) = SG := by
  refine List.ext_getElem? fun j => ?_
  rcases Nat.lt_or_ge j 64 with h | h
  · obtain ⟨t, e⟩ := x.2 j h
    rw [List.getElem?_map, e]
    have h2 : j < SG.length := h
    show some (SG.getD j 0) = _
    rw [List.getD_eq_getElem?_getD, List.getElem?_eq_getElem h2]; rfl
  · rw [List.getElem?_eq_none (by rw [List.length_map, x.1]; exact h), List.getElem?_eq_none (by rw [SG_len]; exact h)]
theorem SG_nodup : SG.Nodup := by decide +kernel
theorem KvsOk.at {kvs : List (Int × Value)} (x : KvsOk kvs) {kv : Int × Value} (h : kv ∈ kvs) : ∃ j t, j < 64 ∧ kv = (SG.getD j 0, .int (j : Int) t) := by
  obtain ⟨j, hj, e⟩ := List.mem_iff_getElem.mp h
  obtain ⟨t, e2⟩ := x.2 j (by rw [← x.1]; exact hj)
  rw [List.getElem?_eq_getElem hj] at e2
  exact ⟨j, t, by rw [← x.1]; exact hj, e.symm.trans (Option.some.inj e2)⟩
theorem KvsOk.some {kvs : List (Int × Value)} (x : KvsOk kvs) {k i : Int} (h : worth k = some i) : ∃ t, valueAt kvs k = some (.int i t) := by
  unfold valueAt
  cases hf : kvs.find? fun kv => decide (kv.1 = k) with
  | none =>
    exfalso
    have hk : k ∈ SG := worth_mem h
    rw [← x.keys] at hk
    obtain ⟨kv, hkv, e⟩ := List.mem_map.mp hk
    have := List.find?_eq_none.mp hf kv hkv
    simp [e] at this
  | some kv =>
    have hm := List.mem_of_find?_eq_some hf
    have hp := List.find?_some hf
    obtain ⟨j, t, hj, rfl⟩ := x.at hm
    simp only [decide_eq_true_eq] at hp
    have := worth_getD hj
    rw [hp, h] at this
    cases this
    exact ⟨t, rfl⟩
theorem KvsOk.none {kvs : List (Int × Value)} (x : KvsOk kvs) {k : Int} (h : worth k = none) : valueAt kvs k = none := by
  unfold valueAt
  cases hf : kvs.find? fun kv => decide (kv.1 = k) with
  | none => rfl
  | some kv =>
    exfalso
    have hm := List.mem_of_find?_eq_some hf
    have hp := List.find?_some hf
    obtain ⟨j, t, hj, rfl⟩ := x.at hm
    simp only [decide_eq_true_eq] at hp
    have := worth_getD hj
    rw [hp, h] at this
    cases this
theorem KvsOk.isSome {kvs : List (Int × Value)} (x : KvsOk kvs) (k : Int) : (valueAt kvs k).isSome = (worth k).isSome := by
  cases h : worth k with
  | none => rw [x.none h]; rfl
  | some i => obtain ⟨t, e⟩ := x.some h; rw [e]; rfl

def WorthAt (w : World) (h : Heap) (d : Addr) : Prop := (d == sysModules) = false ∧ ∃ o kvs, h.get? d = some o ∧ o.IsDictOf (intKind PySem.Challenge.rw_nz0279_01.row.prog w) kvs ∧ KvsOk kvs
def WorthObj (w : World) (d : Addr) (o : Obj) : Prop := (d == sysModules) = false ∧ ∃ kvs, o.IsDictOf (intKind PySem.Challenge.rw_nz0279_01.row.prog w) kvs ∧ KvsOk kvs
theorem WorthAt.keep {h h' : Heap} {d : Addr} (x : WorthAt w h d) (hk : ∀ b o, h.get? b = some o → h'.get? b = some o) : WorthAt w h' d := let ⟨a, o, kvs, e, r⟩ := x; ⟨a, o, kvs, hk _ _ e, r⟩
theorem WorthObj.at {h : Heap} {d : Addr} {o : Obj} (x : WorthObj w d o) (e : h.get? d = some o) : WorthAt w h d := let ⟨a, kvs, r⟩ := x; ⟨a, o, kvs, e, r⟩

theorem worth_inW {d : Addr} {k : Int} {t : Tok} {Q : Value → Shared → Prop} (W : WorthAt w s.heap d) (h : Q (.bool (worth k).isSome) { s with toks := s.toks + 1 }) : wpAny (model PySem.Challenge.rw_nz0279_01.row.prog w) A (compareOp .In (.int k t) (.ref d)) Q E s := by
  obtain ⟨lo, o, kvs, e, hd, ok⟩ := W
  refine wpAny_in_of (intKind_is _ _ k t) lo (Heap.dictOf_iff.mpr ⟨o, e, hd⟩).mapOf ?_
  rw [ok.isSome]; exact h
theorem worth_notInW {d : Addr} {k : Int} {t : Tok} {Q : Value → Shared → Prop} (W : WorthAt w s.heap d) (h : Q (.bool (!(worth k).isSome)) { s with toks := s.toks + 1 }) : wpAny (model PySem.Challenge.rw_nz0279_01.row.prog w) A (compareOp .NotIn (.int k t) (.ref d)) Q E s := by
  obtain ⟨lo, o, kvs, e, hd, ok⟩ := W
  refine wpAny_notIn_of (intKind_is _ _ k t) lo (Heap.dictOf_iff.mpr ⟨o, e, hd⟩).mapOf ?_
  rw [ok.isSome]; exact h
theorem worth_notIn_some {d : Addr} {k i : Int} {t : Tok} {Q : Value → Shared → Prop} (W : WorthAt w s.heap d) (hi : worth k = some i) (h : Q (.bool false) { s with toks := s.toks + 1 }) : wpAny (model PySem.Challenge.rw_nz0279_01.row.prog w) A (compareOp .NotIn (.int k t) (.ref d)) Q E s := by
  refine worth_notInW W ?_
  rw [hi]; exact h
theorem worth_inE {d : Addr} {k : Int} {r : Option Int} {t : Tok} {Q : Value → Shared → Prop} (W : WorthAt w s.heap d) (hr : worth k = r) (h : Q (.bool r.isSome) { s with toks := s.toks + 1 }) : wpAny (model PySem.Challenge.rw_nz0279_01.row.prog w) A (compareOp .In (.int k t) (.ref d)) Q E s := by
  refine worth_inW W ?_
  rw [hr]; exact h
theorem worth_item {d : Addr} {k i : Int} {t : Tok} {value slice : Expr} {Q : Value → Shared → Prop} (W : WorthAt w s.heap d) (hi : worth k = some i) (h : ∀ u, Q (.int i u) { s with toks := s.toks + 1 })
    (hs : subscripted slice false (.ref d) (.int k t) = operate [.ref d, .int k t] (getItem (.ref d) (.int k t)) := by with_unfolding_all rfl) :
    wpAny (model PySem.Challenge.rw_nz0279_01.row.prog w) A (subscriptTail value slice (.ref d) (.int k t)) Q E s := by
  obtain ⟨lo, o, kvs, e, hd, ok⟩ := W
  obtain ⟨u, hu⟩ := ok.some hi
  have hm := (Heap.dictOf_iff.mpr ⟨o, e, hd⟩ : s.heap.DictOf _ d kvs).mapOf
  exact tail_any hm.typeIs slot_dict_getitem.lookup (wpAny_getItem_of (intKind_is _ _ k t) hm hu (h u)) hs

variable {h₀ : Heap} {L : Addr} {m : Str → Option Value} {env : Env}
theorem comp_ind {elt : Expr} {x : Str} {scope : Scope} {cl : List (Str × Addr)} {S : List (Addr × Obj) → Prop} {P : Nat → Value → Prop} {Fin : List Value → List (Addr × Obj) → Prop} {n : Nat} {news : List (Addr × Obj)}
    (R : Nat → List Value → List (Addr × Obj) → Prop) (h0 : R 0 [] news)
    (turn : ∀ i ys nw v I oI C oC D m₂ h tk (E' : Value → Shared → Prop), i < n → R i ys nw → P i v → LCg.NsObj oC m₂ → m₂ x = some v → Fr h₀ L h m → News h₀ L h ((I, oI) :: (C, oC) :: (D, LCg.lst ys) :: nw) → LCg.Off3 I C D nw → ((@Ne Nat I C) ∧ (@Ne Nat I D) ∧ (@Ne Nat C D)) →
      wpAny (model prog w) A (eval elt (compEnvC scope cl C env)) (LCg.CompEnd h₀ L m { s with heap := h, toks := tk } I oI C oC D (LCg.lst ys) S (fun y nw' => R (i + 1) (ys ++ [y]) nw')) E' { s with heap := h, toks := tk })
    (fin : ∀ ys nw, R n ys nw → Fin ys nw) : LCg.CompRest prog w A h₀ L m env elt x scope cl s S P Fin n 0 [] news := by
  have key : ∀ (j i : Nat) (ys : List Value) (nw : List (Addr × Obj)), i + j = n → R i ys nw → LCg.CompRest prog w A h₀ L m env elt x scope cl s S P Fin j i ys nw := by
    intro j
    induction j with
    | zero =>
      intro i ys nw hi hR
      have e : i = n := by omega
      subst e
      exact LCg.CompRest.zero (fin ys nw hR)
    | succ j ih =>
      intro i ys nw hi hR
      refine LCg.CompRest.succ ?_
      intro v I oI C oC D m₂ h tk E' hv hC hx F N off ne
      refine wpAny_mono (turn i ys nw v I oI C oC D m₂ h tk E' (by omega) hR hv hC hx F N off ne) (fun y s₂ hq => ?_) fun _ _ e => e
      obtain ⟨h', tk', nw', e, F', N', off', hS, hr⟩ := hq
      exact ⟨h', tk', nw', e, F', N', off', hS, ih (i + 1) _ _ (by omega) hr⟩
  exact key n 0 [] news (by omega) h0
end
end
section -- Loops
def Hold (P : Prop) : Prop := P
theorem Hold.go {P : Prop} (h : Hold P) : P := h
section
variable {prog : Program} {w : World} {A : Around} {E : Value → Shared → Prop} {s : Shared} {env : Env} {h₀ : Heap} {x : Str} {body : List Stmt} {Q : Flow → Shared → Prop} {m₀ : Str → Option Value} {news : List (Addr × Obj)}

def ForSrc (prog : Program) (w : World) (A : Around) (s : Shared) (xv : Value) (n : Nat) (P : Nat → Value → Prop) : Prop :=
  ∃ (oI : Obj) (St : Nat → Heap → Prop), (∀ (Q E : Value → Shared → Prop), Q (.ref s.heap.objs.size) { s with heap := s.heap.push oI } → wpAny (model prog w) A (pyIter xv) Q E s) ∧
    Walks prog w A s.heap.objs.size [s.heap.objs.size] [s.heap.objs.size] n P St ∧ St 0 (s.heap.push oI)

theorem range_src {r : Addr} {a b c : Int} {t u v : Tok} {n : Nat} (hh : A.handled = none) (hr : IsRange s.heap r a b c t u v) (hsm : Builtin.Range.small a b c = true) (hn : Builtin.Range.rangeSize a b c = ((n : Nat) : Int)) :
    ForSrc prog w A s (.ref r) n (fun i v => ∃ t, v = .int (a + (i : Int) * c) t) := by
  refine ⟨_, _, fun Q E hQ => wpAny_pyIter_range hr hsm hQ, Walks.range hh s.heap.objs.size a c n, ?_⟩
  show IsRangeIter _ _ _ _ _
  rw [hn]
  have := Heap.get?_push_size (h := s.heap) (o := { cls := .type "range_iterator", data := .fields #[rawInt a, rawInt ((n : Nat) : Int), rawInt c] }) rfl
  simpa [IsRangeIter] using this
theorem bytes_src {b : Array UInt8} {tb : Tok} {ks : List Int} (hh : A.handled = none) (hk : KBw.bInts b = ks) :
    ForSrc prog w A s (.bytes b tb) ks.length (fun i v => ∃ k t, ks[i]? = some k ∧ 0 ≤ k ∧ k < 256 ∧ v = .int k t) := by
  subst hk
  have W := KBw.walks (prog := prog) (w := w) hh s.heap.objs.size b tb
  rw [KBw.ints_length]
  refine ⟨_, _, fun Q E hQ => KBw.pyIter_bytes hQ, { sub := W.sub, frame := W.frame, done := W.done, self := W.self, item := fun i s Q E hi st hQ => W.item i s Q E hi st fun v h' tk hP => hQ v h' tk ?_ }, ⟨_, Heap.get?_push_size _ rfl, rfl, rfl⟩⟩
  obtain ⟨c, u, hc, rfl⟩ := hP
  have e := KBw.ints_get hc
  have hb := KBw.ints_in (b := b) (List.mem_of_getElem? e)
  exact ⟨_, u, e, hb.1, hb.2, rfl⟩
theorem str_src {y : Str} {t : Tok} (hh : A.handled = none) : ForSrc prog w A s (.str y t) y.cps.size (SignAt y) := by
  cases ha : y.cps.all (· < 128)
  · exact ⟨_, _, fun Q E hQ => wpAny_pyIter_wide ha hQ, Walks.strWide hh _ y t, ⟨_, Heap.get?_push_size _ rfl, rfl, rfl⟩⟩
  · exact ⟨_, _, fun Q E hQ => wpAny_pyIter_ascii ha hQ, Walks.strAscii hh _ y t, ⟨_, Heap.get?_push_size _ rfl, rfl, rfl⟩⟩

theorem fr_norm {h : Heap} {L : Addr} {m₁ m₀ : Str → Option Value} {x : Str} {v : Value} (hm : ∀ z, z ≠ x → m₁ z = m₀ z) (F : Fr h₀ L h (fun y => if y = x then some v else m₁ y)) : Fr h₀ L h (fun y => if y = x then some v else m₀ y) := by
  have e : (fun y => if y = x then some v else m₁ y) = fun y => if y = x then some v else m₀ y := by
    funext z
    by_cases h1 : z = x
    · simp [h1]
    · simp only [if_neg h1]; exact hm z h1
  rw [e] at F; exact F
theorem fr_out {h : Heap} {L : Addr} {m₁ m₀ : Str → Option Value} {x : Str} (hm : ∀ z, z ≠ x → m₁ z = m₀ z) (F : Fr h₀ L h m₁) : Fr h₀ L h (fun y => if y = x then m₁ y else m₀ y) := by
  have e : m₁ = fun y => if y = x then m₁ y else m₀ y := by
    funext z
    by_cases h1 : z = x
    · simp [h1]
    · simp only [if_neg h1]; exact hm z h1
  rw [e] at F
  have e2 : (fun y => if y = x then (fun y => if y = x then m₁ y else m₀ y) y else m₀ y) = fun y => if y = x then m₁ y else m₀ y := by
    funext z
    by_cases h1 : z = x <;> simp [h1]
  exact F

/-- a loop that stores no name of the frame but its own -/
theorem loopL {xv : Value} {n : Nat} {P : Nat → Value → Prop} (src : ForSrc prog w A s xv n P) (F : Fr h₀ env.locals s.heap m₀) (N : News h₀ env.locals s.heap news) (J : Nat → List (Addr × Obj) → Prop) (hj : J 0 news)
    (turn : ∀ i v nw h tk own, i < n → P i v → nw.map (·.1) = news.map (·.1) → OwnOff own (news.map (·.1)) → J i nw → Fr h₀ env.locals h (fun y => if y = x then some v else m₀ y) → News h₀ env.locals h (nw ++ own) →
      wpAny (model prog w) A (execs body env) (InvPostN h₀ env.locals (fun m' nx => J (i + 1) nx ∧ ∀ z, z ≠ x → m' z = m₀ z) own (news.map (·.1)) { s with heap := h, toks := tk } Q) E { s with heap := h, toks := tk })
    (done : ∀ (u : Str → Option Value) nw h tk, J n nw → Fr h₀ env.locals h (fun y => if y = x then u y else m₀ y) → News h₀ env.locals h nw → Q .next { s with heap := h, toks := tk }) :
    wpAny (model prog w) A (pyIter xv) (fun it s₂ => LoopAtV prog w A h₀ env x body Q E it s₂) E s := by
  obtain ⟨oI, St, hit, W, st0⟩ := src
  refine hit _ _ ?_
  refine loop_invN (fun i m nx => J i nx ∧ ∀ z, z ≠ x → m z = m₀ z) W ?_ ?_ ?_ ?_ st0 (F.push _) (fun p hp => ⟨Heap.get?_push_of_some _ (N p hp).1, (N p hp).2⟩) ⟨hj, fun _ _ => rfl⟩ ?_ ?_
  · intro hm
    exact absurd F.ns.lt ((List.mem_singleton.mp hm) ▸ Nat.lt_irrefl _)
  · intro b' hb
    rw [List.mem_singleton.mp hb]
    exact next_is_new F
  · intro p hp hI
    exact absurd (Heap.lt_size (N p hp).1) ((List.mem_singleton.mp hI) ▸ Nat.lt_irrefl _)
  · intro p hp hI
    exact absurd (Heap.lt_size (N p hp).1) ((List.mem_singleton.mp hI) ▸ Nat.lt_irrefl _)
  · rintro i v m₁ nw h tk own hi hP hadr hoff ⟨hJ, hm⟩ F₁ N₁
    exact turn i v nw h tk own hi hP hadr hoff hJ (fr_norm hm F₁) N₁
  · rintro m₁ nw h tk ⟨hJ, hm⟩ F₁ N₁
    exact done m₁ nw h tk hJ (fr_out hm F₁) N₁

/-- a loop that stores one name more -/
theorem loopV {xv : Value} {y : Str} {n : Nat} {P : Nat → Value → Prop} (src : ForSrc prog w A s xv n P) (F : Fr h₀ env.locals s.heap m₀) (N : News h₀ env.locals s.heap news) (hyx : y ≠ x) (J : Nat → Value → List (Addr × Obj) → Prop) (hj : ∃ v, m₀ y = some v ∧ J 0 v news)
    (turn : ∀ i v a nw h tk own, i < n → P i v → nw.map (·.1) = news.map (·.1) → OwnOff own (news.map (·.1)) → J i a nw → Fr h₀ env.locals h (fun z => if z = x then some v else if z = y then some a else m₀ z) → News h₀ env.locals h (nw ++ own) →
      wpAny (model prog w) A (execs body env) (InvPostN h₀ env.locals (fun m' nx => (∃ a', m' y = some a' ∧ J (i + 1) a' nx) ∧ ∀ z, z ≠ x → z ≠ y → m' z = m₀ z) own (news.map (·.1)) { s with heap := h, toks := tk } Q) E { s with heap := h, toks := tk })
    (done : ∀ (u : Str → Option Value) a nw h tk, J n a nw → Fr h₀ env.locals h (fun z => if z = x then u z else if z = y then some a else m₀ z) → News h₀ env.locals h nw → Q .next { s with heap := h, toks := tk }) :
    wpAny (model prog w) A (pyIter xv) (fun it s₂ => LoopAtV prog w A h₀ env x body Q E it s₂) E s := by
  obtain ⟨oI, St, hit, W, st0⟩ := src
  refine hit _ _ ?_
  refine loop_invN (fun i m nx => (∃ a, m y = some a ∧ J i a nx) ∧ ∀ z, z ≠ x → z ≠ y → m z = m₀ z) W ?_ ?_ ?_ ?_ st0 (F.push _) (fun p hp => ⟨Heap.get?_push_of_some _ (N p hp).1, (N p hp).2⟩) ⟨hj, fun _ _ _ => rfl⟩ ?_ ?_
  · intro hm
    exact absurd F.ns.lt ((List.mem_singleton.mp hm) ▸ Nat.lt_irrefl _)
  · intro b' hb
    rw [List.mem_singleton.mp hb]
    exact next_is_new F
  · intro p hp hI
    exact absurd (Heap.lt_size (N p hp).1) ((List.mem_singleton.mp hI) ▸ Nat.lt_irrefl _)
  · intro p hp hI
    exact absurd (Heap.lt_size (N p hp).1) ((List.mem_singleton.mp hI) ▸ Nat.lt_irrefl _)
  · rintro i v m₁ nw h tk own hi hP hadr hoff ⟨⟨a, ha, hJ⟩, hm⟩ F₁ N₁
    rw [map_one ha hm] at F₁
    exact turn i v a nw h tk own hi hP hadr hoff hJ F₁ N₁
  · rintro m₁ nw h tk ⟨⟨a, ha, hJ⟩, hm⟩ F₁ N₁
    refine done m₁ a nw h tk hJ ?_ N₁
    have e : m₁ = fun z => if z = x then m₁ z else if z = y then some a else m₀ z := by
      funext z
      by_cases h1 : z = x
      · simp [h1]
      · by_cases h2 : z = y
        · subst h2; simp [h1, ha]
        · simp only [if_neg h1, if_neg h2]; exact hm z h1 h2
    exact e ▸ F₁
end
theorem rs_step {len c : Nat} (hc : 0 < c) : Builtin.Range.rangeSize 0 (len : Int) (c : Int) = (((len + c - 1) / c : Nat) : Int) := by
  unfold Builtin.Range.rangeSize
  rw [if_pos (by omega)]
  split
  · have e : ((len : Int) - 0 - 1) = ((len - 1 : Nat) : Int) := by omega
    rw [e]
    have e2 : (len + c - 1) / c = (len - 1) / c + 1 := by
      rw [← Nat.add_div_right _ hc]
      congr 1; omega
    rw [e2]
    norm_cast
  · have : len = 0 := by omega
    subst this
    rw [Nat.div_eq_of_lt (by omega)]; rfl
theorem small_step {len c : Nat} (hc : 0 < c) (h1 : len ≤ 1000000) (h2 : c ≤ 1000000) : Builtin.Range.small 0 (len : Int) (c : Int) = true := by
  unfold Builtin.Range.small
  rw [rs_step hc]
  have h3 : (len + c - 1) / c ≤ len + c := Nat.le_trans (Nat.div_le_self _ _) (by omega)
  generalize (len + c - 1) / c = q at h3
  rw [if_pos (show (c : Int) > 0 by omega)]
  simp only [Builtin.Range.rangeFitsLong, Bool.and_eq_true, Bool.or_eq_true, decide_eq_true_eq, beq_iff_eq]
  refine ⟨⟨⟨⟨?_, ?_⟩, ?_⟩, ?_⟩, .inr ?_⟩ <;> omega
theorem range_src0 {prog : Program} {w : World} {A : Around} {s : Shared} {r : Addr} {len c : Nat} {t u v : Tok} (hh : A.handled = none) (hr : IsRange s.heap r 0 (len : Int) (c : Int) t u v) (hc : 0 < c) (h1 : len ≤ 1000000) (h2 : c ≤ 1000000) :
    ForSrc prog w A s (.ref r) ((len + c - 1) / c) (fun i v => ∃ t, v = .int ((c * i : Nat) : Int) t) := by
  have h := range_src (prog := prog) (w := w) hh hr (small_step hc h1 h2) (rs_step hc)
  have e : (fun (i : Nat) (v : Value) => ∃ t, v = .int (0 + (i : Int) * (c : Int)) t) = fun (i : Nat) (v : Value) => ∃ t, v = .int ((c * i : Nat) : Int) t := by
    funext i v
    rw [show (0 : Int) + (i : Int) * (c : Int) = ((c * i : Nat) : Int) by rw [Int.zero_add, Int.mul_comm]; norm_cast]
  rw [e] at h
  exact h
theorem clip_slice (ks : List Int) (a c : Nat) (h : a ≤ ks.length) : List.take (clipAt ks.length ((a : Int) + (c : Int)) - clipAt ks.length (a : Int)) (List.drop (clipAt ks.length (a : Int)) ks) = (ks.drop a).take c := by
  have e1 : ((a : Int) + (c : Int)) = ((a + c : Nat) : Int) := by norm_cast
  rw [e1, clipAt_nat, clipAt_nat, Nat.min_eq_left h, ← Nat.sub_min_sub_right, Nat.add_sub_cancel_left, ← List.length_drop]
  exact List.take_eq_take_min.symm
theorem SrcM.range0 {prog : Program} {w : World} {A : Around} {h₀ : Heap} {L : Addr} {m : Str → Option Value} {env : Env} {elt : Expr} {x : Str} {scope : Scope} {cl : List (Str × Addr)} {Fin : Shared → List Value → List (Addr × Obj) → Prop} {r : Addr} {len c : Nat} {t u v : Tok} {news : List (Addr × Obj)} {s₁ : Shared}
    (hh : A.handled = none) (F : Fr h₀ L s₁.heap m) (N : News h₀ L s₁.heap news) (hr : IsRange s₁.heap r 0 (len : Int) (c : Int) t u v) (hc : 0 < c) (h1 : len ≤ 1000000) (h2 : c ≤ 1000000)
    (h : ∀ g, LCg.CompRest prog w A h₀ L m env elt x scope cl { s₁ with heap := g } (fun _ => True) (fun i v => ∃ t, v = .int ((c * i : Nat) : Int) t) (Fin { s₁ with heap := g }) ((len + c - 1) / c) 0 [] news) :
    SrcM prog w A h₀ L m env elt x scope cl Fin (.ref r) s₁ := by
  refine SrcM.range hh F N hr (small_step hc h1 h2) (rs_step hc) ?_ fun g => ?_
  · have h3 : (len + c - 1) / c ≤ len + c := Nat.le_trans (Nat.div_le_self _ _) (by omega)
    rw [sizeLine_eq]; omega
  · have e : (fun (i : Nat) (v : Value) => ∃ t, v = .int (0 + (i : Int) * (c : Int)) t) = fun (i : Nat) (v : Value) => ∃ t, v = .int ((c * i : Nat) : Int) t := by
      funext i v
      rw [show (0 : Int) + (i : Int) * (c : Int) = ((c * i : Nat) : Int) by rw [Int.zero_add, Int.mul_comm]; norm_cast]
    rw [e]
    exact h g
end
section -- Pure
set_option autoImplicit false
def enc : List Int → List Int
  | x :: y :: z :: r => sg (x / 4) :: sg (x % 4 * 16 + y / 16) :: sg (y % 16 * 4 + z / 64) :: sg (z % 64) :: enc r
  | [x, y] => [sg (x / 4), sg (x % 4 * 16 + y / 16), sg (y % 16 * 4)]
  | [x] => [sg (x / 4), sg (x % 4 * 16)]
  | [] => []
theorem enc_append : ∀ (n : Nat) (a b : List Int), a.length = 3 * n → enc (a ++ b) = enc a ++ enc b := by
  intro n
  induction n with
  | zero =>
    intro a b h
    have : a = [] := List.length_eq_zero_iff.mp (by omega)
    subst this; rfl
  | succ n ih =>
    intro a b h
    match a, h with
    | x :: y :: z :: r, h =>
      simp only [List.cons_append, enc]
      rw [ih r b (by simp only [List.length_cons] at h; omega)]
    | [x, y], h => simp only [List.length_cons, List.length_nil] at h; omega
    | [x], h => simp only [List.length_cons, List.length_nil] at h; omega
    | [], h => simp only [List.length_nil] at h; omega
theorem take_step (ks : List Int) (c i : Nat) : ks.take (c * (i + 1)) = ks.take (c * i) ++ (ks.drop (c * i)).take c := by
  rw [Nat.mul_succ, List.take_add]
theorem enc_len : ∀ (n : Nat) (a : List Int), a.length ≤ n → (enc a).length ≤ 2 * a.length := by
  intro n
  induction n with
  | zero =>
    intro a h
    have : a = [] := List.length_eq_zero_iff.mp (by omega)
    subst this; simp [enc]
  | succ n ih =>
    intro a h
    match a, h with
    | x :: y :: z :: r, h =>
      simp only [enc, List.length_cons] at *
      have := ih r (by omega)
      omega
    | [x, y], h => simp [enc]
    | [x], h => simp [enc]
    | [], h => simp [enc]
theorem enc_bytes : ∀ (n : Nat) (a : List Int), a.length ≤ n → ∀ k ∈ enc a, 0 ≤ k ∧ k < 256 := by
  intro n
  induction n with
  | zero =>
    intro a h
    have : a = [] := List.length_eq_zero_iff.mp (by omega)
    subst this; simp [enc]
  | succ n ih =>
    intro a h k hk
    match a, h with
    | x :: y :: z :: r, h =>
      simp only [enc, List.mem_cons] at hk
      rcases hk with rfl | rfl | rfl | rfl | hk
      · exact sg_byte _
      · exact sg_byte _
      · exact sg_byte _
      · exact sg_byte _
      · exact ih r (by simp only [List.length_cons] at h; omega) k hk
    | [x, y], h =>
      simp only [enc, List.mem_cons, List.not_mem_nil, or_false] at hk
      rcases hk with rfl | rfl | rfl <;> exact sg_byte _
    | [x], h =>
      simp only [enc, List.mem_cons, List.not_mem_nil, or_false] at hk
      rcases hk with rfl | rfl <;> exact sg_byte _
    | [], h => simp [enc] at hk
def chunks (c : Nat) (ks : List Int) : List (List Int) := (List.range ((ks.length + c - 1) / c)).map fun i => (ks.drop (c * i)).take c
theorem chunks_take (c : Nat) (ks : List Int) (i : Nat) (h : i < (ks.length + c - 1) / c) : (chunks c ks).take (i + 1) = (chunks c ks).take i ++ [(ks.drop (c * i)).take c] := by
  rw [List.take_add_one]
  congr 1
  simp [chunks, h]
theorem chunks_len (c : Nat) (ks : List Int) : (chunks c ks).length = (ks.length + c - 1) / c := by simp [chunks]
end
section -- Join
open PySem.Builtin
theorem slot_bytes_join : Slot "bytes" "join" "bytes.join" :=
  .of (owner := "bytes") (n := "join") (by rw [typeLookup_type, builtinLookup_eq_fast]; kernel_rfl) (by decide +kernel) (by decide +kernel) (by decide +kernel)
    (by first | exact .inl (by decide +kernel) | exact .inr (by decide +kernel)) (by rw [isSubtype_type]; kernel_rfl)
theorem type_bytes_join : typeOf (.builtin "bytes.join") = pure (.type "method_descriptor") := by show builtinType _ = _; rw [builtinType_eq_fast]; kernel_rfl
theorem entry_bytes_join : entryFor table "bytes.join" = some Builtin.«bytes.join» := entryFor_of_tree (by kernel_rfl)
theorem args_bytes_join (a b : Value) : argsOk "bytes.join" ⟨[a, b], []⟩ := by unfold argsOk; kernel_rfl

theorem take_eq {id : String} {b : Array UInt8} {t : Tok} : Bytes.takeBufferQuiet? id (.bytes b t) 0 = pure (some (b, none)) := by
  have h : Bytes.takeBuffer? id (.bytes b t) 0 = pure (some (b, none)) := by
    unfold Bytes.takeBuffer?
    rw [KBy.special_eq KBy.look_buffer, KBy.own_buffer]
    show (Bytes.buffer? id (.bytes b t) (full := (0 : Int) == Bytes.fullReadOnly)) >>= _ = _
    have e : ((0 : Int) == Bytes.fullReadOnly) = false := by decide +kernel
    rw [e, KBy.buffer_eq]
    rfl
  unfold Bytes.takeBufferQuiet?
  rw [h]; rfl
open PySem.Builtin
section
variable {prog : Program} {w : World} {A : Around} {E : Value → Shared → Prop} {s : Shared}
abbrev bvals (bs : List (Array UInt8 × Tok)) : List Value := bs.map fun p => .bytes p.1 p.2

theorem join_letGo {M : Model} {taken : List (Value × Option Value)} {keep : List Value} {Q : Unit → Shared → Prop} (ht : ∀ p ∈ taken, p.2 = none) (h : Q () s) : wpAny M A (Bytes.joinLetGo taken keep) Q E s := by
  induction taken with
  | nil => exact wpAny_pure h
  | cons p rest ih =>
    obtain ⟨x, w⟩ := p
    have : w = none := ht _ (.head _)
    subst this
    unfold Bytes.joinLetGo
    dsimp only
    show wpAny M A (letGo [x] _ >>= fun _ => Bytes.joinLetGo rest keep) Q E s
    refine wpAny_bind ?_
    unfold letGo
    refine wpAny_bind (wpAny_holding (wpAny_point ?_))
    unfold letGo
    exact wpAny_pure (ih fun p hp => ht p (.tail _ hp))

theorem bytes_join_tree {sep : Array UInt8} {ts : Tok} {l : Addr} {bs : List (Array UInt8 × Tok)} {n : Nat} {Q : Fin → Shared → Prop} (hl : s.heap.get? l = some { cls := .type "list", data := .seq (bvals bs).toArray n })
    (hsz : (bs.map (·.1)).toArray.foldl (· + ·.size) (sep.size * (bs.length - 1)) ≤ 16777216) (hsz2 : (Bytes.joined sep (bs.map (·.1))).size ≤ 16777216)
    (h : ∀ t k, Q (.done (.ret (.bytes (Bytes.joined sep (bs.map (·.1))) t))) { s with toks := k }) :
    wpAny (model prog w) A (Builtin.«bytes.join» ⟨[.bytes sep ts, .ref l], []⟩) Q E s := by
  have hT : s.TypeIs (.ref l) "list" := ⟨_, hl, rfl⟩
  unfold Builtin.«bytes.join» Bytes.joinM
  refine wpAny_bind (wpAny_of_eq (a := (Value.bytes sep ts, Value.ref l)) rfl ?_)
  refine wpAny_bind ?_
  show wpAny _ _ (Bytes.joinItems (.ref l)) _ _ _
  unfold Bytes.joinItems
  refine wpAny_bind (wpAny_typeOf hT ?_)
  refine wpAny_pure ?_
  refine wpAny_bind (wpAny_seqItems hl rfl ?_)
  have hlen : (bvals bs).toArray.size = bs.length := by simp
  show wpAny _ _ (if (Bytes.Kind.bytes == Bytes.Kind.bytes) = true then _ else _) _ _ _
  rw [if_pos (by decide)]
  by_cases h1 : bs.length = 1
  · match bs, h1 with
    | [p], _ =>
      show wpAny _ _ (typeOf (Value.bytes p.1 p.2) >>= _) _ _ _
      refine wpAny_bind (wpAny_typeOf (typeIs_bytes s _ _) ?_)
      refine wpAny_bind (wpAny_rule (wpAny_pure ?_))
      have h' := h p.2 s.toks
      have e : Bytes.joined sep ([p].map (·.1)) = p.1 := by simp [Bytes.joined]
      rw [e] at h'
      exact h'
  · unfold Bytes.joinM.match_1
    rw [dif_neg (by rw [hlen]; exact h1)]
    refine wpAny_bind ?_
    rw [Std.Legacy.Range.forIn_eq_forIn_range']
    refine wpAny_forIn_list _
      (fun rest b s' => s' = s ∧ ∃ i, i ≤ bs.length ∧ rest = List.range' i (bs.length - i) ∧ b = (((bs.take i).map (·.1)).toArray, (bvals (bs.take i)).map fun v => (v, none))) _ ?_ ?_ _ _ ?_
    · rintro x rest b s' ⟨rfl, i, hi, hr, rfl⟩
      have hlt : i < bs.length := by
        rcases Nat.lt_or_ge i bs.length with h | h
        · exact h
        · rw [show bs.length - i = 0 by omega] at hr; cases hr
      rw [show bs.length - i = (bs.length - i - 1) + 1 by omega, List.range'_succ] at hr
      obtain ⟨rfl, rfl⟩ := List.cons.inj hr
      have hget : (bvals bs).toArray.getD x .none = .bytes bs[x].1 bs[x].2 := by simp [bvals, hlt]
      have hany : ((bvals (bs.take x)).map fun v => (v, (none : Option Value))).any (·.1.onHeap) = false := by
        rw [List.any_eq_false]
        intro p hp
        obtain ⟨v, hv, rfl⟩ := List.mem_map.mp hp
        obtain ⟨q, _, rfl⟩ := List.mem_map.mp hv
        exact Bool.false_ne_true
      refine wpAny_bind (wpAny_seqItems hl rfl ?_)
      simp only [hget, hany]
      rw [if_neg (by decide)]
      refine wpAny_bind (wpAny_holding (wpAny_of_eq take_eq ?_))
      refine wpAny_bind (wpAny_seqItems hl rfl ?_)
      simp only [bne_self_eq_false, Bool.false_eq_true, if_false]
      refine wpAny_pure ⟨rfl, x + 1, hlt, by rw [show bs.length - x - 1 = bs.length - (x + 1) by omega], ?_⟩
      have ht : bs.take (x + 1) = bs.take x ++ [bs[x]] := by rw [List.take_add_one]; simp [hlt]
      rw [ht]
      simp only [bvals, List.map_append, List.map_cons, List.map_nil, List.push_toArray]
    · rintro b s' ⟨rfl, i, hi, hr, rfl⟩
      have e : i = bs.length := by
        rcases Nat.lt_or_ge i bs.length with h | h
        · rw [show bs.length - i = (bs.length - i - 1) + 1 by omega, List.range'_succ] at hr; cases hr
        · omega
      subst e
      rw [List.take_length]
      refine wpAny_bind (wpAny_of_eq (a := sep) rfl ?_)
      rw [if_neg (by rw [KBy.tooLong_not (by simpa using hsz)]; exact Bool.false_ne_true)]
      show wpAny _ _ (mkBytes (Bytes.joined sep (bs.map (·.1))) >>= _) _ _ _
      refine wpAny_bind (wpAny_mkBytes ?_ (by rw [sizeLine_eq]; exact hsz2))
      refine wpAny_bind (wpAny_holding (wpAny_point ?_))
      refine wpAny_bind (join_letGo (fun p hp => ?_) ?_)
      · obtain ⟨v, hv, rfl⟩ := List.mem_map.mp hp
        rfl
      · exact wpAny_pure (h _ _)
    · refine ⟨rfl, 0, Nat.zero_le _, ?_, by simp⟩
      simp
end
open PySem.Builtin
def jn (sep : List Int) : List (List Int) → List Int
  | [] => []
  | p :: ps => p ++ ps.flatMap (sep ++ ·)
theorem ints_append (b c : Array UInt8) : KBw.bInts (b ++ c) = KBw.bInts b ++ KBw.bInts c := KBw.ints_app rfl rfl
theorem joined_rest (sep : Array UInt8) : ∀ (ps : List (Array UInt8)) (k : Nat) (out : Array UInt8), 0 < k →
    KBw.bInts ((ps.zipIdx k).foldl (fun out (p, i) => (if i > 0 then out ++ sep else out) ++ p) out) = KBw.bInts out ++ (ps.map KBw.bInts).flatMap (KBw.bInts sep ++ ·) := by
  intro ps
  induction ps with
  | nil => intro k out hk; simp
  | cons p r ih =>
    intro k out hk
    rw [List.zipIdx_cons, List.foldl_cons, ih (k + 1) _ (by omega)]
    simp only [gt_iff_lt, hk, if_true, ints_append, List.map_cons, List.flatMap_cons, List.append_assoc]
theorem joined_ints (sep : Array UInt8) (ps : List (Array UInt8)) : KBw.bInts (Bytes.joined sep ps) = jn (KBw.bInts sep) (ps.map KBw.bInts) := by
  unfold Bytes.joined
  cases ps with
  | nil => rfl
  | cons p r =>
    rw [List.zipIdx_cons, List.foldl_cons, joined_rest _ _ _ _ (by decide)]
    simp [jn]
theorem fold_sizes : ∀ (ps : List (Array UInt8)) (k : Nat), ps.foldl (· + ·.size) k = k + ((ps.map KBw.bInts).map List.length).sum := by
  intro ps
  induction ps with
  | nil => intro k; simp
  | cons p r ih =>
    intro k
    rw [List.foldl_cons, ih]
    simp only [List.map_cons, List.sum_cons, KBw.ints_length]
    omega
theorem jn_length (sep : List Int) (p : List Int) (ps : List (List Int)) : (jn sep (p :: ps)).length = sep.length * ps.length + ((p :: ps).map List.length).sum := by
  unfold jn
  rw [List.length_append, List.map_cons, List.sum_cons]
  have : (ps.flatMap (sep ++ ·)).length = sep.length * ps.length + (ps.map List.length).sum := by
    induction ps with
    | nil => simp
    | cons q r ih =>
      rw [List.flatMap_cons, List.length_append, List.length_append, ih, List.length_cons, List.map_cons, List.sum_cons, Nat.mul_succ]
      omega
  omega

def BsAre (vs : List Value) (L : List (List Int)) : Prop := ∃ bs : List (Array UInt8 × Tok), vs = bvals bs ∧ bs.map (fun p => KBw.bInts p.1) = L
theorem BsAre.nil : BsAre [] [] := ⟨[], rfl, rfl⟩
theorem BsAre.snoc {vs : List Value} {L : List (List Int)} {b : Array UInt8} {t : Tok} {ks : List Int} (x : BsAre vs L) (h : KBw.bInts b = ks) : BsAre (vs ++ [.bytes b t]) (L ++ [ks]) := by
  obtain ⟨bs, rfl, rfl⟩ := x
  exact ⟨bs ++ [(b, t)], by simp [bvals], by simp [h]⟩
theorem BsAre.length {vs : List Value} {L : List (List Int)} (x : BsAre vs L) : vs.length = L.length := by
  obtain ⟨bs, rfl, rfl⟩ := x
  simp [bvals]
section
variable {prog : Program} {w : World} {A : Around} {E : Value → Shared → Prop} {s : Shared}
theorem bytes_join {sep : Array UInt8} {ks : List Int} {ts : Tok} {l : Addr} {vs : List Value} {L : List (List Int)} {Q : Value → Shared → Prop} (hs : KBw.bInts sep = ks) (hl : s.heap.IsList l vs.toArray) (ho : ∀ o, s.heap.get? l = some o → o.dict = none ∧ o.slots = #[]) (hv : BsAre vs L)
    (hsz : (jn ks L).length ≤ 16777216) (h : ∀ b t k, KBw.bInts b = jn ks L → Q (.bytes b t) { s with toks := k }) :
    wpAny (model prog w) A (call (.builtin "bytes.join") [.bytes sep ts, .ref l]) Q E s := by
  obtain ⟨bs, rfl, rfl⟩ := hv
  obtain ⟨o, e, hc, n, hd⟩ := hl
  have hj : KBw.bInts (Bytes.joined sep (bs.map (·.1))) = jn ks (bs.map fun p => KBw.bInts p.1) := by
    rw [joined_ints, hs, List.map_map]; rfl
  have ho' : s.heap.get? l = some { cls := .type "list", data := .seq (bvals bs).toArray n } := by
    obtain ⟨c, dd, dt, sl⟩ := o
    obtain ⟨h1, h2⟩ := ho _ e
    simp only at hc hd h1 h2
    subst hc hd h1 h2
    exact e
  refine wpAny_call_entry slot_bytes_join (typeIs_bytes s _ _) entry_bytes_join (bytes_join_tree ho' ?_ ?_ fun t k => ⟨_, rfl, h _ t k hj⟩) (args_bytes_join _ _)
  · rw [List.foldl_toArray, fold_sizes, List.map_map]
    cases bs with
    | nil => simp
    | cons p r =>
      have := jn_length ks (KBw.bInts p.1) (r.map fun p => KBw.bInts p.1)
      rw [List.map_cons] at hsz
      rw [this] at hsz
      rw [← hs, KBw.ints_length, List.length_map] at hsz
      simp only [List.length_cons, Nat.add_sub_cancel, List.map_cons, List.map_map] at hsz ⊢
      exact hsz
  · rw [← KBw.ints_length, hj]; exact hsz
theorem getm_join {M : Model} {b : Array UInt8} {t : Tok} {pl : Sem Bool} {Q : Value × List Value → Shared → Prop} (h : Q (.builtin "bytes.join", [.bytes b t]) s) : wpAny M A (getMethod (.bytes b t) "join" pl) Q E s := by
  with_reducible exact KBd.method_of (.bytes b t) (typeIs_bytes _ _ _) slot_bytes_join type_bytes_join KBd.noRef h
end
end
section -- Pure2
set_option autoImplicit false
theorem jn_chunks_len (c : Nat) (ks : List Int) (hc : 0 < c) (h : ks.length ≤ 1000) (hc2 : c ≤ 1000) : (jn [13, 10] (chunks c ks)).length ≤ 100000 := by
  have hn : (chunks c ks).length ≤ 2000 := by
    rw [chunks_len]
    exact Nat.le_trans (Nat.div_le_self _ _) (by omega)
  have hs : ∀ p ∈ chunks c ks, p.length ≤ c := by
    intro p hp
    obtain ⟨i, _, rfl⟩ := List.mem_map.mp hp
    rw [List.length_take]; omega
  have hsum : ∀ (L : List (List Int)), (∀ p ∈ L, p.length ≤ c) → (L.map List.length).sum ≤ L.length * c := by
    intro L
    induction L with
    | nil => intro _; simp
    | cons p r ih =>
      intro hL
      have h1 := ih fun q hq => hL q (.tail _ hq)
      have h2 := hL p (.head _)
      rw [List.map_cons, List.sum_cons, List.length_cons, Nat.succ_mul]
      omega
  have h3 := hsum _ hs
  have h4 : (chunks c ks).length * c ≤ 2000 := by
    rw [chunks_len]
    exact Nat.le_trans (Nat.div_mul_le_self _ _) (by omega)
  cases hL : chunks c ks with
  | nil => simp [jn]
  | cons p r =>
    rw [jn_length, ← hL]
    rw [hL] at hn
    simp only [List.length_cons, List.length_nil] at hn ⊢
    omega
end
section -- Pure3
set_option autoImplicit false
def rowOf : List Int → List Int
  | [] => []
  | k :: r => if k = 61 then [] else match worth k with
    | some i => i :: rowOf r
    | none => rowOf r
def dec : List Int → List Int
  | x :: y :: z :: u :: r => (x * 4 + y / 16) :: (y % 16 * 16 + z / 4) :: (z % 4 * 64 + u) :: dec r
  | [x, y, z] => [x * 4 + y / 16, y % 16 * 16 + z / 4]
  | [x, y] => [x * 4 + y / 16]
  | [_] => []
  | [] => []
theorem rowOf_append : ∀ (a b : List Int), (∀ k ∈ a, k ≠ 61) → rowOf (a ++ b) = rowOf a ++ rowOf b := by
  intro a
  induction a with
  | nil => intro b _; rfl
  | cons k r ih =>
    intro b h
    have hk : k ≠ 61 := h k (.head _)
    have ih' := ih b fun x hx => h x (.tail _ hx)
    simp only [List.cons_append, rowOf, if_neg hk]
    split
    · rw [ih', List.cons_append]
    · exact ih'
theorem rowOf_in : ∀ (a : List Int), ∀ i ∈ rowOf a, 0 ≤ i ∧ i < 64 := by
  intro a
  induction a with
  | nil => intro i h; cases h
  | cons k r ih =>
    intro i h
    unfold rowOf at h
    split at h
    · cases h
    · split at h
      · rename_i j hj
        rcases List.mem_cons.mp h with rfl | h
        · exact worth_in hj
        · exact ih i h
      · exact ih i h
theorem rowOf_len : ∀ (a : List Int), (rowOf a).length ≤ a.length := by
  intro a
  induction a with
  | nil => simp [rowOf]
  | cons k r ih =>
    unfold rowOf
    split
    · simp
    · split
      · simp only [List.length_cons]; omega
      · simp only [List.length_cons]; omega
theorem dec_append : ∀ (n : Nat) (a b : List Int), a.length = 4 * n → dec (a ++ b) = dec a ++ dec b := by
  intro n
  induction n with
  | zero =>
    intro a b h
    have : a = [] := List.length_eq_zero_iff.mp (by omega)
    subst this; rfl
  | succ n ih =>
    intro a b h
    match a, h with
    | x :: y :: z :: u :: r, h =>
      simp only [List.cons_append, dec]
      rw [ih r b (by simp only [List.length_cons] at h; omega)]
    | [x, y, z], h => simp only [List.length_cons, List.length_nil] at h; omega
    | [x, y], h => simp only [List.length_cons, List.length_nil] at h; omega
    | [x], h => simp only [List.length_cons, List.length_nil] at h; omega
    | [], h => simp only [List.length_nil] at h; omega
theorem dec_len : ∀ (n : Nat) (a : List Int), a.length ≤ n → (dec a).length ≤ a.length := by
  intro n
  induction n with
  | zero =>
    intro a h
    have : a = [] := List.length_eq_zero_iff.mp (by omega)
    subst this; simp [dec]
  | succ n ih =>
    intro a h
    match a, h with
    | x :: y :: z :: u :: r, h =>
      simp only [dec, List.length_cons] at *
      have := ih r (by omega)
      omega
    | [x, y, z], h => simp [dec]
    | [x, y], h => simp [dec]
    | [x], h => simp [dec]
    | [], h => simp [dec]
theorem flat_nil : ∀ (r : List (List Int)), r.flatMap (fun x => [] ++ x) = r.flatten
  | [] => rfl
  | q :: r => by rw [List.flatMap_cons, List.flatten_cons, flat_nil r, List.nil_append]
theorem jn_nil : ∀ (L : List (List Int)), jn [] L = L.flatten
  | [] => rfl
  | p :: r => by
    show p ++ r.flatMap (fun x => [] ++ x) = _
    rw [flat_nil, List.flatten_cons]
end
section -- Q
set_option autoImplicit false
theorem dm1 {A B m : Int} (h0 : 0 ≤ B) (h1 : B < m) : (A * m + B) / m = A := by
  rw [Int.add_comm, Int.add_mul_ediv_right _ _ (Int.ne_of_gt (Int.lt_of_le_of_lt h0 h1)), Int.ediv_eq_zero_of_lt h0 h1, Int.zero_add]
theorem mm1 {A B m : Int} (h0 : 0 ≤ B) (h1 : B < m) : (A * m + B) % m = B := by
  rw [Int.add_comm, Int.add_mul_emod_self_right, Int.emod_eq_of_lt h0 h1]
theorem both (x m : Int) : x / m * m + x % m = x := by rw [Int.mul_comm]; exact Int.mul_ediv_add_emod x m
theorem dbound {x m n : Int} (hm : 0 < m) (h : 0 ≤ x ∧ x < n * m) : 0 ≤ x / m ∧ x / m < n := ⟨Int.ediv_nonneg h.1 (Int.le_of_lt hm), Int.ediv_lt_of_lt_mul hm h.2⟩
theorem rbound (x : Int) {m : Int} (hm : 0 < m) : 0 ≤ x % m ∧ x % m < m := ⟨Int.emod_nonneg _ (Int.ne_of_gt hm), Int.emod_lt_of_pos _ hm⟩
theorem d4 {x : Int} (h : 0 ≤ x ∧ x < 256) : 0 ≤ x / 4 ∧ x / 4 < 64 := dbound (by decide) h
theorem d16 {x : Int} (h : 0 ≤ x ∧ x < 256) : 0 ≤ x / 16 ∧ x / 16 < 16 := dbound (by decide) h
theorem d64 {x : Int} (h : 0 ≤ x ∧ x < 256) : 0 ≤ x / 64 ∧ x / 64 < 4 := dbound (by decide) h
theorem r4 (x : Int) : 0 ≤ x % 4 ∧ x % 4 < 4 := rbound x (by decide)
theorem r16 (x : Int) : 0 ≤ x % 16 ∧ x % 16 < 16 := rbound x (by decide)
theorem r64 (x : Int) : 0 ≤ x % 64 ∧ x % 64 < 64 := rbound x (by decide)
theorem two {a b m n : Int} (hm : 0 < m) (ha : 0 ≤ a ∧ a < n) (hb : 0 ≤ b ∧ b < m) : 0 ≤ a * m + b ∧ a * m + b < n * m := by
  refine ⟨Int.add_nonneg (Int.mul_nonneg ha.1 (Int.le_of_lt hm)) hb.1, Int.lt_of_lt_of_le (Int.add_lt_add_left hb.2 _) ?_⟩
  rw [show a * m + m = (a + 1) * m by rw [Int.add_mul, Int.one_mul]]
  exact Int.mul_le_mul_of_nonneg_right (Int.add_one_le_of_lt ha.2) (Int.le_of_lt hm)
theorem s2 (x : Int) {y : Int} (h : 0 ≤ y ∧ y < 256) : 0 ≤ x % 4 * 16 + y / 16 ∧ x % 4 * 16 + y / 16 < 64 := two (by decide) (r4 x) (d16 h)
theorem s3 (y : Int) {z : Int} (h : 0 ≤ z ∧ z < 256) : 0 ≤ y % 16 * 4 + z / 64 ∧ y % 16 * 4 + z / 64 < 64 := two (by decide) (r16 y) (d64 h)
theorem s2' (x : Int) : 0 ≤ x % 4 * 16 ∧ x % 4 * 16 < 64 := by
  have := two (m := 16) (b := 0) (by decide) (r4 x) (by decide)
  rwa [Int.add_zero] at this
theorem s3' (y : Int) : 0 ≤ y % 16 * 4 ∧ y % 16 * 4 < 64 := by
  have := two (m := 4) (b := 0) (by decide) (r16 y) (by decide)
  rwa [Int.add_zero] at this
theorem q1 (x : Int) {y : Int} (h : 0 ≤ y ∧ y < 256) : x / 4 * 4 + (x % 4 * 16 + y / 16) / 16 = x := by rw [dm1 (d16 h).1 (d16 h).2, both]
theorem q2 (x y : Int) {z : Int} (hy : 0 ≤ y ∧ y < 256) (h : 0 ≤ z ∧ z < 256) : (x % 4 * 16 + y / 16) % 16 * 16 + (y % 16 * 4 + z / 64) / 4 = y := by rw [mm1 (d16 hy).1 (d16 hy).2, dm1 (d64 h).1 (d64 h).2, both]
theorem q3 (y : Int) {z : Int} (h : 0 ≤ z ∧ z < 256) : (y % 16 * 4 + z / 64) % 4 * 64 + z % 64 = z := by rw [mm1 (d64 h).1 (d64 h).2, both]
theorem q1' (x : Int) : x / 4 * 4 + (x % 4 * 16) / 16 = x := by rw [Int.mul_ediv_cancel _ (by decide), both]
theorem q2' (x y : Int) (hy : 0 ≤ y ∧ y < 256) : (x % 4 * 16 + y / 16) % 16 * 16 + (y % 16 * 4) / 4 = y := by rw [mm1 (d16 hy).1 (d16 hy).2, Int.mul_ediv_cancel _ (by decide), both]
theorem h0 {x : Int} {r : List Int} {P : Int → Prop} (h : ∀ k ∈ x :: r, P k) : P x := h x (.head _)
theorem h1 {x y : Int} {r : List Int} {P : Int → Prop} (h : ∀ k ∈ x :: y :: r, P k) : P y := h y (.tail _ (.head _))
theorem h2 {x y z : Int} {r : List Int} {P : Int → Prop} (h : ∀ k ∈ x :: y :: z :: r, P k) : P z := h z (.tail _ (.tail _ (.head _)))
theorem len3 {x y z : Int} {r : List Int} {n : Nat} (h : (x :: y :: z :: r).length ≤ n + 1) : r.length ≤ n := by
  have h' : r.length + 1 + 1 + 1 ≤ n + 1 := h
  exact Nat.le_trans (Nat.le_add_right _ 2) (Nat.le_of_succ_le_succ h')
theorem len0 {r : List Int} (h : r.length ≤ 0) : r = [] := List.length_eq_zero_iff.mp (Nat.le_zero.mp h)
theorem nxt {d T : Int} {m : Nat} (hd : 0 ≤ d ∧ d < 64) (ht : 0 ≤ T ∧ T < 64 ^ m) : 0 ≤ d * 64 ^ m + T ∧ d * 64 ^ m + T < 64 ^ (m + 1) := by
  rw [Int.pow_succ, Int.mul_comm (64 ^ m)]
  exact two (Int.pow_pos (by decide)) hd ht
theorem horner (A B C D P T : Int) : (A * (64 * 64 * 64) + B * (64 * 64) + C * 64 + D) * P + T = A * (P * 64 * 64 * 64) + (B * (P * 64 * 64) + (C * (P * 64) + (D * P + T))) := by
  simp only [Int.add_mul, Int.mul_assoc, Int.mul_comm P, Int.add_assoc]
theorem tri (x y z : Int) : x * 65536 + y * 256 + z = x / 4 * (64 * 64 * 64) + (x % 4 * 16 + y / 16) * (64 * 64) + (y % 16 * 4 + z / 64) * 64 + z % 64 := by
  have hx := both x 4
  have hy := both y 16
  have hz := both z 64
  generalize x / 4 = a at *
  generalize x % 4 = b at *
  generalize y / 16 = c at *
  generalize y % 16 = d at *
  generalize z / 64 = e at *
  generalize z % 64 = f at *
  omega
theorem tn {a : Int} {n : Nat} (e : a = (n : Int)) : a.toNat = n := by rw [e]; exact Int.toNat_natCast n
end
section -- LRp
set_option autoImplicit false
def num (ks : List Int) : Int := ks.foldl (fun a k => a * 256 + k) 0
theorem num_snoc (a : List Int) (k : Int) : num (a ++ [k]) = num a * 256 + k := by simp [num]
theorem num_bound : ∀ (n : Nat) (ks : List Int), ks.length = n → (∀ k ∈ ks, 0 ≤ k ∧ k < 256) → 0 ≤ num ks ∧ num ks < 256 ^ n := by
  intro n
  induction n with
  | zero => intro ks h _; rw [List.length_eq_zero_iff.mp h]; simp [num]
  | succ n ih =>
    intro ks h hk
    obtain ⟨a, k, rfl⟩ : ∃ a k, ks = a ++ [k] := ⟨ks.dropLast, ks.getLast (by intro e; subst e; simp at h), (List.dropLast_concat_getLast _).symm⟩
    rw [List.length_append, List.length_singleton] at h
    have h1 := ih a (by omega) fun x hx => hk x (List.mem_append_left _ hx)
    have h2 := hk k (by simp)
    rw [num_snoc, Int.pow_succ]
    generalize (256 : Int) ^ n = P at *
    omega
theorem num_from (a : Int) : ∀ (r : List Int), r.foldl (fun a k => a * 256 + k) a = a * 256 ^ r.length + num r := by
  intro r
  induction r generalizing a with
  | nil => simp [num]
  | cons k r ih =>
    have e1 : num (k :: r) = k * 256 ^ r.length + num r := by
      show r.foldl _ (0 * 256 + k) = _
      rw [ih, Int.zero_mul, Int.zero_add]
    rw [List.foldl_cons, ih, e1, List.length_cons, Int.pow_succ, Int.add_mul, Int.mul_assoc, Int.mul_comm 256, Int.add_assoc]
def many (n : Nat) : Nat := (8 * n + 5) / 6
theorem cast_many (n : Nat) : (8 * (n : Int) + 5) / 6 = ((many n : Nat) : Int) := rfl
theorem tn8 (a b : Nat) : (6 * (a : Int) - 8 * (b : Int)).toNat = 6 * a - 8 * b := Int.toNat_sub (6 * a) (8 * b)
theorem down {m i : Nat} (h : i < m) : (m : Int) - 1 - (i : Int) = ((m - 1 - i : Nat) : Int) := by omega
theorem down' {m i : Nat} (h : i < m) : (m : Int) - 1 + (i : Int) * -1 = ((m - 1 - i : Nat) : Int) := by rw [Int.mul_neg, Int.mul_one]; exact down h
theorem many_le {n : Nat} (h : n ≤ 10) : many n ≤ 14 := Nat.le_trans (Nat.div_le_div_right (Nat.add_le_add_right (Nat.mul_le_mul_left 8 h) 5)) (by decide)
theorem small4 : ∀ n : Nat, n < 4 → (8 * n ≤ 6 * (n + 1)) ∧ (0 < n → many n = n + 1) := by decide
theorem num_small {ks : List Int} (h : ks.length ≤ 10) (hk : ∀ k ∈ ks, 0 ≤ k ∧ k < 256) : num ks < 2 ^ 200 := by
  refine Int.lt_of_lt_of_le (num_bound _ ks rfl hk).2 (Int.le_trans ?_ (by decide : (256 : Int) ^ 10 ≤ 2 ^ 200))
  have e := Int.ofNat_le.mpr (Nat.pow_le_pow_right (n := 256) (by decide) h)
  rw [Int.natCast_pow] at e
  exact e
theorem cdiv_lt {n c i : Nat} (hc : 0 < c) (h : i < (n + c - 1) / c) : c * i < n := by
  have h := (Nat.le_div_iff_mul_le hc).mp h
  rw [Nat.succ_mul, Nat.mul_comm] at h
  omega
theorem cdiv_le {n c : Nat} (hc : 0 < c) : n ≤ c * ((n + c - 1) / c) := by
  have := Nat.lt_mul_div_succ (n + c - 1) hc
  rw [Nat.mul_succ] at this
  omega
theorem many_3 (n : Nat) : many (n + 1 + 1 + 1) = many n + 1 + 1 + 1 + 1 := Nat.add_mul_div_right (8 * n + 5) 4 (z := 6) (by decide)
theorem p64 (n : Nat) : (64 : Int) ^ many n = 256 ^ n * 2 ^ (6 * many n - 8 * n) := by
  have e1 : (64 : Int) = 2 ^ 6 := by decide
  have e2 : (256 : Int) = 2 ^ 8 := by decide
  have h : 8 * n ≤ 6 * many n := by unfold many; omega
  rw [e1, e2, ← Int.pow_mul, ← Int.pow_mul, ← Int.pow_add, Nat.add_sub_cancel' h]
def TT (ks : List Int) : Int := num ks * 2 ^ (6 * many ks.length - 8 * ks.length)
def rowL (m : Nat) (T : Int) : List Int := (List.range m).map fun j => T / 64 ^ (m - 1 - j) % 64
theorem rowL_cons (m : Nat) (d T : Int) (h0 : 0 ≤ d) (h1 : d < 64) (t0 : 0 ≤ T) (t1 : T < 64 ^ m) : rowL (m + 1) (d * 64 ^ m + T) = d :: rowL m T := by
  unfold rowL
  have hp : ∀ e : Nat, (64 : Int) ^ e ≠ 0 := fun e => Int.ne_of_gt (Int.pow_pos (by decide))
  rw [List.range_succ_eq_map, List.map_cons, List.map_map]
  congr 1
  · rw [show m + 1 - 1 - 0 = m from rfl, Int.add_comm, Int.add_mul_ediv_right _ _ (hp m), Int.ediv_eq_zero_of_lt t0 t1, Int.zero_add, Int.emod_eq_of_lt h0 h1]
  · refine List.map_congr_left fun j hj => ?_
    have hj' : j < m := List.mem_range.mp hj
    show (d * 64 ^ m + T) / 64 ^ (m - (j + 1)) % 64 = _
    rw [show m - 1 - j = m - (j + 1) by rw [Nat.sub_sub, Nat.add_comm]]
    obtain ⟨e, rfl⟩ : ∃ e, m = j + 1 + e := ⟨m - (j + 1), (Nat.add_sub_cancel' hj').symm⟩
    rw [Nat.add_sub_cancel_left, Int.pow_add, ← Int.mul_assoc, Int.add_comm, Int.add_mul_ediv_right _ _ (hp e), Int.pow_succ, ← Int.mul_assoc, Int.add_mul_emod_self_right]
theorem TT_lt (ks : List Int) (h : ∀ k ∈ ks, 0 ≤ k ∧ k < 256) : 0 ≤ TT ks ∧ TT ks < 64 ^ many ks.length := by
  obtain ⟨h0, h1⟩ := num_bound _ ks rfl h
  have hp : (0 : Int) < 2 ^ (6 * many ks.length - 8 * ks.length) := Int.pow_pos (by decide)
  refine ⟨Int.mul_nonneg h0 (Int.le_of_lt hp), ?_⟩
  rw [p64]
  exact Int.mul_lt_mul_of_pos_right h1 hp
theorem TT_cons (a b c : Int) (r : List Int) : TT (a :: b :: c :: r) = (a * 65536 + b * 256 + c) * 64 ^ many r.length + TT r := by
  have e0 : num (a :: b :: c :: r) = (a * 65536 + b * 256 + c) * 256 ^ r.length + num r := by
    show r.foldl _ (((0 * 256 + a) * 256 + b) * 256 + c) = _
    rw [num_from]
    rw [show ((0 * 256 + a) * 256 + b) * 256 + c = a * 65536 + b * 256 + c by rw [Int.zero_mul, Int.zero_add, Int.add_mul, Int.mul_assoc]; rfl]
  have hm : many (r.length + 1 + 1 + 1) = many r.length + 4 := many_3 _
  unfold TT
  rw [e0]
  simp only [List.length_cons, hm]
  rw [show 6 * (many r.length + 4) - 8 * (r.length + 1 + 1 + 1) = 6 * many r.length - 8 * r.length from Nat.add_sub_add_right _ 24 _, p64, Int.add_mul, Int.mul_assoc]
theorem row_enc : ∀ (n : Nat) (ks : List Int), ks.length ≤ n → (∀ k ∈ ks, 0 ≤ k ∧ k < 256) → (rowL (many ks.length) (TT ks)).map sg = enc ks := by
  intro n
  induction n with
  | zero =>
    intro ks h _
    rw [len0 h]; decide
  | succ n ih =>
    intro ks h hk
    match ks, h, hk with
    | [], _, _ => decide
    | [x], _, hk =>
      have hx : 0 ≤ x ∧ x < 256 := h0 hk
      have e : TT [x] = (x / 4) * 64 ^ 1 + (x % 4 * 16 * 64 ^ 0 + 0) := by
        have e0 : TT [x] = (0 * 256 + x) * 2 ^ 4 := by unfold TT; rw [show 6 * many [x].length - 8 * [x].length = 4 from (by decide : 6 * many 1 - 8 * 1 = 4)]; rfl
        rw [e0]
        have h := both x 4
        generalize x / 4 = a at *
        generalize x % 4 = b at *
        omega
      have b1 := nxt (m := 0) (T := 0) (s2' x) (by decide)
      rw [show many [x].length = 0 + 1 + 1 from (by decide : many 1 = 2), e, rowL_cons 1 _ _ (d4 hx).1 (d4 hx).2 b1.1 b1.2, rowL_cons 0 _ _ (s2' x).1 (s2' x).2 (by decide) (by decide)]
      rfl
    | [x, y], _, hk =>
      have hx : 0 ≤ x ∧ x < 256 := h0 hk
      have hy : 0 ≤ y ∧ y < 256 := h1 hk
      have e : TT [x, y] = (x / 4) * 64 ^ 2 + ((x % 4 * 16 + y / 16) * 64 ^ 1 + (y % 16 * 4 * 64 ^ 0 + 0)) := by
        have e0 : TT [x, y] = ((0 * 256 + x) * 256 + y) * 2 ^ 2 := by unfold TT; rw [show 6 * many [x, y].length - 8 * [x, y].length = 2 from (by decide : 6 * many 2 - 8 * 2 = 2)]; rfl
        rw [e0]
        have h := both x 4
        have h' := both y 16
        generalize x / 4 = a at *
        generalize x % 4 = b at *
        generalize y / 16 = c at *
        generalize y % 16 = d at *
        omega
      have b1 := nxt (m := 0) (T := 0) (s3' y) (by decide)
      have b2 := nxt (s2 x hy) b1
      rw [show many [x, y].length = 0 + 1 + 1 + 1 from (by decide : many 2 = 3), e, rowL_cons 2 _ _ (d4 hx).1 (d4 hx).2 b2.1 b2.2, rowL_cons 1 _ _ (s2 x hy).1 (s2 x hy).2 b1.1 b1.2, rowL_cons 0 _ _ (s3' y).1 (s3' y).2 (by decide) (by decide)]
      rfl
    | x :: y :: z :: r, h, hk =>
      have hx : 0 ≤ x ∧ x < 256 := h0 hk
      have hy : 0 ≤ y ∧ y < 256 := h1 hk
      have hz : 0 ≤ z ∧ z < 256 := h2 hk
      have hr : ∀ k ∈ r, 0 ≤ k ∧ k < 256 := fun k hk' => hk k (.tail _ (.tail _ (.tail _ hk')))
      have ht := TT_lt r hr
      have hm : many (x :: y :: z :: r).length = many r.length + 1 + 1 + 1 + 1 := many_3 _
      have e : TT (x :: y :: z :: r) = (x / 4) * 64 ^ (many r.length + 1 + 1 + 1) + ((x % 4 * 16 + y / 16) * 64 ^ (many r.length + 1 + 1) + ((y % 16 * 4 + z / 64) * 64 ^ (many r.length + 1) + (z % 64 * 64 ^ many r.length + TT r))) := by
        rw [TT_cons, tri]
        simp only [Int.pow_succ]
        exact horner _ _ _ _ _ _
      have b1 := nxt (r64 z) ht
      have b2 := nxt (s3 y hz) b1
      have b3 := nxt (s2 x hy) b2
      rw [hm, e, rowL_cons _ _ _ (d4 hx).1 (d4 hx).2 b3.1 b3.2, rowL_cons _ _ _ (s2 x hy).1 (s2 x hy).2 b2.1 b2.2, rowL_cons _ _ _ (s3 y hz).1 (s3 y hz).2 b1.1 b1.2, rowL_cons _ _ _ (r64 z).1 (r64 z).2 ht.1 ht.2]
      simp only [List.map_cons, ih r (len3 h) hr]
      rfl
end
section
local macro_rules | `(tactic| walk_at "mine pick") => `(tactic| first | (with_reducible assumption) | (with_reducible exact And.left (by assumption)) | (with_reducible exact (And.right (by assumption))) | (with_reducible exact And.left (And.right (by assumption))) | (with_reducible exact (And.right (And.right (by assumption)))) | (with_reducible exact And.left (And.right (And.right (by assumption)))) | (with_reducible exact (And.right (And.right (And.right (by assumption))))) | (with_reducible exact And.left (And.right (And.right (And.right (by assumption))))) | (with_reducible exact (And.right (And.right (And.right (And.right (by assumption)))))) | (with_reducible exact And.left (And.right (And.right (And.right (And.right (by assumption)))))) | (with_reducible exact (And.right (And.right (And.right (And.right (And.right (by assumption))))))) | (with_reducible exact And.left (And.right (And.right (And.right (And.right (And.right (by assumption))))))) | (with_reducible exact (And.right (And.right (And.right (And.right (And.right (And.right (by assumption)))))))) | (with_reducible exact And.left (And.right (And.right (And.right (And.right (And.right (And.right (by assumption)))))))) | (with_reducible exact (And.right (And.right (And.right (And.right (And.right (And.right (And.right (by assumption))))))))) | (with_reducible exact And.left (And.right (And.right (And.right (And.right (And.right (And.right (And.right (by assumption))))))))) | (with_reducible exact (And.right (And.right (And.right (And.right (And.right (And.right (And.right (And.right (by assumption)))))))))) | (with_reducible exact (And.left (And.left (by assumption)))) | (with_reducible exact (And.left (And.right (And.left (by assumption))))) | (with_reducible exact (And.right (And.right (And.left (by assumption))))) | (with_reducible exact (And.left (And.left (And.right (by assumption))))) | (with_reducible exact (And.left (And.right (And.left (And.right (by assumption)))))) | (with_reducible exact (And.right (And.right (And.left (And.right (by assumption)))))) | (with_reducible exact (And.left (And.left (And.right (And.right (by assumption)))))) | (with_reducible exact (And.left (And.right (And.left (And.right (And.right (by assumption))))))) | (with_reducible exact (And.right (And.right (And.left (And.right (And.right (by assumption))))))) | (with_reducible exact (And.left (And.right (And.right (by assumption))))) | (with_reducible exact (And.left (And.right (And.right (And.right (by assumption)))))) | (with_reducible exact (And.right (And.right (And.right (And.right (by assumption)))))))
local macro_rules | `(tactic| k_ne) => `(tactic| (refine neN ?_; (try dsimp only); (try show @Ne Nat _ _); first | walk_at "mine pick" | (refine Ne.symm ?_; walk_at "mine pick") | (refine Nat.ne_of_lt ?_; walk_at "mine pick") | (refine Nat.ne_of_gt ?_; walk_at "mine pick") | omega))
section -- S1
theorem freshS1 : True := by
  w_top off
  exact True.intro
theorem is_pad_spec (b : Array UInt8) (tb : Tok) (k : Int) (tk : Tok) (ks : List Int) (hk : 0 ≤ k) (hb : KBw.bInts b = ks) (hs : ks.length ≤ 1000) :
   Claim 1 124 [.bytes b tb, .int k tk] NoPre (Gives (IsBo (decide (k < ks.length ∧ ks.getD k.toNat 0 = 61)))) := by
  unfold Claim; k_fill
  intro w p loose mean mg mb dp un gd fr s Q E hX hT hdp hun hpre hret
  (k_dflt (refine' enter ?k1 ?k2 ?k6 ?k7 ?k8 ?k9 ?kB ?kQ ?_ ?c2 ?c3 ?c4 ?c5; (case k1 => k_asm); (case k2 => k_asm); (case k6 => k_is); (case k7 => k_is); (case k8 => ktr_room); (case k9 => exact BindsTo.of_eq rfl); (case kQ => assumption); (case c5 => decide); (case kB => exact locs rfl); (case c2 => exact rfl); (case c3 => exact rfl); (case c4 => exact rfl); k_whole; intro g' L' h' eg' F' N' X' T'; (try dsimp only); (try k_fold)))
  k_steps
  · refine MEnd.val (by k_asm) ?_
    rename_i h1 _ _ _ _
    show Value.bool _ = Value.bool _
    congr 1
    rw [Bool.eq_iff_iff]; simp [h1]
  · refine MEnd.val (by k_asm) ?_
    show Value.bool _ = Value.bool _
    congr 1
    rw [Bool.eq_iff_iff]; simp; omega
end
section
local macro_rules | `(tactic| walk_at "eval ListComp") => `(tactic| (k_here; k_dflt (refine ListComp_M (F₀ := by k_asm) (by with_unfolding_all rfl) (by decide) (by rfl) (by decide) (by rfl) ?_)))
local macro_rules | `(tactic| walk_at "SrcM") => `(tactic| (k_here; k_dflt (first
  | (refine SrcM.range (by rfl) (by k_asm) (by k_asm) (by assumption) (by first | decide | rfl) (by first | rfl | decide) (by first | size_fits | exact Nat.le_of_ble_eq_true rfl) ?_; intro g'; lcg_lit)
  | (refine SrcM.tuple (by rfl) (by k_asm) (by k_asm) (by k_mem) (by first | size_fits | exact Nat.le_of_ble_eq_true rfl) ?_; intro g'; lcg_lit))))
local macro_rules | `(tactic| walk_at "mine nums") => `(tactic| ((try simp only [List.length_cons, List.length_nil, Nat.reduceAdd, Nat.reduceMul, Nat.reduceSub, Int.cast_ofNat_Int, Int.reduceAdd, Int.reduceMul, Int.reduceSub, Int.reduceNeg, Int.reduceToNat, Int.reducePow, Int.mul_zero, Int.zero_add, Int.ediv_one, List.length_map, List.length_append, List.length_take, List.length_drop, rangeKs_length]); (try exact rfl)))
local macro_rules | `(tactic| walk_at "call builtin:len") => `(tactic| (k_here; (with_reducible show wpAny _ _ (call (Value.builtin "len") [Value.bytes _ _]) _ _ _); (refine' len_e (by kba_ints) (by kba_size) ?e ?_; (case e => walk_at "mine nums"); k_whole)))
local macro_rules | `(tactic| walk_at "binaryOp LShift int int") => `(tactic| (k_here; (with_reducible refine' shl ?kb1 ?kb2 ?kb3 ?kb4 ?e ?_); (case kb1 => first | (with_reducible assumption) | omega); (case kb2 => first | (with_reducible assumption) | omega); (case kb3 => first | (with_reducible assumption) | omega); (case kb4 => first | (with_reducible assumption) | omega); (case e => walk_at "mine nums"); k_whole))
local macro_rules | `(tactic| walk_at "binaryOp RShift int int") => `(tactic| (k_here; (with_reducible refine' shr ?kb1 ?e ?_); (case kb1 => first | (with_reducible assumption) | omega); (case e => walk_at "mine nums"); k_whole))
local macro_rules | `(tactic| walk_at "binaryOp BitAnd int int") => `(tactic| (k_here; first | (with_reducible refine and63 ?_) | (with_reducible refine and255 ?_) | (refine' andMask 0 (by decide) ?e ?_; (case e => walk_at "mine nums"); k_whole) | (refine' andMask 2 (by decide) ?e ?_; (case e => walk_at "mine nums"); k_whole) | (refine' andMask 4 (by decide) ?e ?_; (case e => walk_at "mine nums"); k_whole)))
local macro_rules | `(tactic| walk_at "mine for") => `(tactic| ((rename Fr _ _ _ _ => lF'); (with_unfolding_all refine' For_invVF lF' ?k1 ?k2 ?_; (case k1 => exact rfl); (case k2 => exact rfl); k_whole)))
local macro_rules | `(tactic| walk_at "InvEnd") => `(tactic| (refine InvEnd.intro (by assumption) (by assumption) (by k_sub) ?_))
section -- Draw
theorem freshDraw : True := by
  w_top off
  exact True.intro
abbrev penObj (cl : Addr) (k z : Int) (t1 t2 : Tok) (n : Nat) : Obj := listOf #[.ref cl, .int k t1, .int z t2] n

def DEnd (g : Heap) (s : Shared) (pn cl : Addr) (k z : Int) (Q : Value → Prop) (v : Value) (s' : Shared) : Prop :=
  ∃ h' tk' t1 t2 n, s' = { s with heap := h', toks := tk' } ∧ Q v ∧ (∀ b o, g.get? b = some o → h'.get? b = some o) ∧ h'.get? pn = some (penObj cl (k + 1) z t1 t2 n)
theorem DEnd.intro {g : Heap} {s : Shared} {pn cl : Addr} {k z : Int} {P : Value → Prop} {v : Value} {L' : Addr} {h' : Heap} {m' : Str → Option Value} {tk' : Nat} {t1 t2 : Tok} {n : Nat} {news' : List (Addr × Obj)}
    (F : Fr g L' h' m') (N : News g L' h' news') (hm : (pn, penObj cl (k + 1) z t1 t2 n) ∈ news') (hp : P v) : DEnd g s pn cl k z P v { s with heap := h', toks := tk' } :=
  ⟨h', tk', t1, t2, n, rfl, hp, F.keep, (N _ hm).1⟩
def InR (hi : Int) (v : Value) : Prop := ∃ d t, v = .int d t ∧ 0 ≤ d ∧ d < hi

section
variable {w : World} {dp un : Nat} {gd : Option (List Code)} {fr : Option (List Env)} {s : Shared} {Q E : Value → Shared → Prop} {K : Frag} {p : Program} {loose : List Str} {mean : ExcName → Option Value} {mg mb : Str → Option Value}
  {name qual : Str} {params : Arguments} {body : List Stmt} {scope : Scope} {dV kV doc pm cdv ct oc : Value} {an od : Option Addr} {osl : Array (Option Value)} {f : Addr} {vs : List Value} {binds : List (Str × Value)} {prog : Program}
theorem enterM {h₀ : Heap} {pn : Addr} {o : Obj} {Post : Heap → Value → Shared → Prop} (X : K.In h₀) (T : Top p loose mean mg mb h₀) (hk₀ : ∀ b o, h₀.get? b = some o → s.heap.get? b = some o) (hpn : s.heap.get? pn = some o) (hp0 : h₀.get? pn = none)
    (ho : K.lookup f = some ⟨oc, od, .func (fnOf name qual params body scope dV kV doc pm an cdv ct), osl⟩) (hcd : codeIn K cdv qual = true) (hroom : dp < recursionLimit)
    (hbind : BindsTo s (fnOf name qual params body scope dV kV doc pm an cdv ct) ⟨vs, []⟩ binds) (hloc : ∀ y ∈ binds, scope.names.lookup y.1 = some .local)
    (hq : ∀ v s', Post (hideAll s.heap [pn]) v s' → Q v s')
    (h : ∀ (g : Heap) L' h₁, (∀ b o, b ≠ pn → s.heap.get? b = some o → g.get? b = some o) → Fr g L' h₁ (fun y => binds.reverse.lookup y) → News g L' h₁ [(pn, o)] → K.In g → Top p loose mean mg mb g →
      wpAny (model prog w) ((ar dp un gd fr).deeper (envOf qual scope L' f cdv)) (execs body (envOf qual scope L' f cdv))
        (fun fl s' => Post g (match fl with | .ret v => v | _ => .none) s')
        (fun e s' => wpAny (model prog w) ((ar dp un gd fr).deeper (envOf qual scope L' f cdv)) (leaving (envOf qual scope L' f cdv) e) (fun _ s'' => E e s'') (fun e' s'' => E e' s'') s')
        { s with heap := h₁, toks := s.toks + binds.length })
    (hco : scope.isCoroutine = false) (hgen : scope.isGenerator = false) (hk : scope.kind = .function)
    (hcell : ∀ x ∈ scope.names, x.2 ≠ .cell) : wpAny (model prog w) (ar dp un gd fr) (call (.ref f) vs) Q E s := by
  have nm : ∀ b o, h₀.get? b = some o → b ∉ [pn] := fun b o e q => by
    rw [List.mem_singleton.mp q, hp0] at e; cases e
  have st : ∀ b o, h₀.get? b = some o → (hideAll s.heap [pn]).get? b = some o := fun b o e => hideAll_get _ (hk₀ b o e) (nm b o e)
  refine wpAny_call ?_
  refine codeAny_call_def (fd := fnOf name qual params body scope dV kV doc pm an cdv ct) (body := body) (binds := binds) hroom ((X.keeps hk₀) _ _ ho) rfl (T.nolimit.keeps hk₀) (codeRec_of (X.keeps hk₀) hcd) rfl hbind hcell hloc (fun h₁ hns hk₁ => ?_) hco hgen hk
  refine wpAny_mono (h (hideAll s.heap [pn]) s.heap.objs.size h₁ (fun b o hb e => hideAll_get _ e (by simpa using hb)) ⟨hns, fun b o e => hk₁ b o (of_hideAll _ e), Nat.le_of_eq (hideAll_size _ _)⟩ (fun q hq => ?_) (X.keeps st) (T.keeps st)) (fun fl s' hl => hq _ _ hl) fun _ _ y => y
  rw [List.mem_singleton.mp hq]
  exact ⟨hk₁ _ _ hpn, Nat.ne_of_lt (Heap.lt_size hpn), hideAll_none _ (List.mem_singleton.mpr rfl)⟩
end

theorem draw_spec (pn cl : Addr) (vs : List Value) (ns : List Int) (k z many : Int) (t1 t2 tm : Tok) (n : Nat) (hi : IntsAre vs ns) (hlen : ns.length ≤ 100) (hk0 : 0 ≤ k) (hk1 : k ≤ 1000) (hz0 : 0 ≤ z) (hz1 : z < 1000) (hm0 : 0 < many) (hm1 : many ≤ 1000) (hne : pn ≠ cl)
    (w : World) (p : Program) (loose : List Str) (mean : ExcName → Option Value) (mg mb : Str → Option Value) (dp un : Nat) (gd : Option (List Code)) (fr : Option (List Env)) (s : Shared) (Q E : Value → Shared → Prop) (h₀ : Heap)
    (hX : (hd.heap_39 w.params).In h₀) (hT : Top p loose mean mg mb h₀) (hk₀ : ∀ b o, h₀.get? b = some o → s.heap.get? b = some o) (hp0 : h₀.get? pn = none) (hpn : s.heap.get? pn = some (penObj cl k z t1 t2 n)) (hcl : s.heap.IsList cl vs.toArray)
    (hdp : dp + 10 * 1 < recursionLimit) (hun : un + 100 * 1 < cLine)
    (hret : ∀ v s', DEnd (hideAll s.heap [pn]) s pn cl k z (InR many) v s' → Q v s') :
    wpAny (model PySem.Challenge.rw_nz0279_01.row.prog w) (ar dp un gd fr) (call (.ref 148) [.ref pn, .int many tm]) Q E s := by
  revert hX; k_fill; intro hX
  k_dflt (refine' enterM (Post := fun g v s' => DEnd g s pn cl k z (InR many) v s') ?k1 ?k2 ?k3 ?k4 ?k5 ?k6 ?k7 ?k8 ?k9 ?kB ?kQ ?_ ?c2 ?c3 ?c4 ?c5; (case k1 => k_asm); (case k2 => k_asm); (case k3 => k_asm); (case k4 => k_asm); (case k5 => k_asm); (case k6 => k_is); (case k7 => k_is); (case k8 => ktr_room); (case k9 => exact BindsTo.of_eq rfl); (case kQ => assumption); (case c5 => decide); (case kB => exact locs rfl); (case c2 => exact rfl); (case c3 => exact rfl); (case c4 => exact rfl); k_whole; intro g L' h' hg F' N' X' T'; (try dsimp only); (try k_fold))
  have hcg : g.IsList cl vs.toArray := by
    obtain ⟨o, e, r⟩ := hcl
    exact ⟨o, hg _ _ (Ne.symm hne) e, r⟩
  clear hcl hpn hp0 hk₀ hT hX
  k_steps
  all_goals dsimp only
  all_goals refine DEnd.intro (by k_asm) (by k_asm) (by k_mem) ⟨_, _, rfl, ?_⟩
  all_goals exact ⟨fmod_lo _ (by omega), fmod_hi _ (by omega)⟩
end
section
local macro_rules | `(tactic| walk_at "mine mem") => `(tactic| first | assumption | exact List.Mem.head _ | (refine List.Mem.tail _ ?_; walk_at "mine mem"))
local macro_rules | `(tactic| walk_at "eval Name") => `(tactic| (k_here; (with_reducible show wpAny _ _ (eval (Expr.Name _ _) (compEnvC _ _ _ _)) _ _ _); k_dflt (refine kcf_cell (by k_asm) (by rfl) (by walk_at "mine mem") (by k_asm) ?_)))
section -- WT
theorem freshWT : True := by
  w_top off
  exact True.intro
def Tups (L' : Addr) (o2 : Obj) (i : Nat) (ys : List Value) (nw : List (Addr × Obj)) : Prop :=
  (L' + 1, o2) ∈ nw ∧ ys.length = i ∧ ∀ j, j < i → ∃ a t1 t2 n, ys[j]? = some (.ref a) ∧ (a, ({ cls := .type "tuple", data := .seq #[.int (SG.getD j 0) t1, .int (j : Int) t2] n } : Obj)) ∈ nw
theorem tups_kvs {L' : Addr} {o2 : Obj} {ys : List Value} {nw : List (Addr × Obj)} (h : Tups L' o2 64 ys nw) :
    ∃ kvs, KvsOk kvs ∧ ∀ (m : Nat) v kv, ys[m]? = some v → kvs[m]? = some kv → ∃ a t n, v = .ref a ∧ (a, ({ cls := .type "tuple", data := .seq #[.int kv.1 t, kv.2] n } : Obj)) ∈ nw := by
  obtain ⟨_, hy, hall⟩ := h
  have H : ∀ j, j < 64 → ∃ t2, ∃ a t1 n, ys[j]? = some (.ref a) ∧ (a, ({ cls := .type "tuple", data := .seq #[.int (SG.getD j 0) t1, .int (j : Int) t2] n } : Obj)) ∈ nw := fun j hj =>
    let ⟨a, t1, t2, n, e, hm⟩ := hall j hj; ⟨t2, a, t1, n, e, hm⟩
  let f : Nat → Tok := fun j => if h : j < 64 then Classical.choose (H j h) else 0
  refine ⟨(List.range 64).map fun j => (SG.getD j 0, Value.int (j : Int) (f j)), ⟨by simp, fun j hj => ⟨f j, by simp [hj]⟩⟩, fun m v kv e1 e2 => ?_⟩
  have hm : m < 64 := by
    rcases Nat.lt_or_ge m 64 with h | h
    · exact h
    · rw [List.getElem?_eq_none (by rw [hy]; exact h)] at e1; cases e1
  obtain ⟨a, t1, n, e, hmem⟩ := Classical.choose_spec (H m hm)
  have hf : f m = Classical.choose (H m hm) := by simp [f, hm]
  rw [← hf] at hmem
  have e3 : kv = (SG.getD m 0, Value.int (m : Int) (f m)) := by
    rw [List.getElem?_map, List.getElem?_range hm] at e2
    exact (Option.some.inj e2).symm
  rw [e] at e1
  cases e1
  subst e3
  exact ⟨a, t1, n, rfl, hmem⟩

theorem worth_table_spec (al : Array UInt8) (ta : Tok) (ha : KBw.bInts al = SG) :
   Claim 1 66 [.bytes al ta] NoPre (fun w v own => ∃ D o, v = .ref D ∧ own = [(D, o)] ∧ WorthObj w D o) := by
  unfold Claim; k_fill
  intro w p loose mean mg mb dp un gd fr s Q E hX hT hdp hun hpre hret
  have hl := SG_len
  (k_dflt (refine' enterC ?k1 ?k2 ?k6 ?k7 ?k8 ?k9 ?kB ?kD ?kQ ?_ ?c2 ?c3 ?c4; (case k1 => k_asm); (case k2 => k_asm); (case k6 => k_is); (case k7 => k_is); (case k8 => ktr_room); (case k9 => exact BindsTo.of_eq rfl); (case kQ => assumption); (case kB => exact rfl); (case kD => decide +kernel); (case c2 => exact rfl); (case c3 => exact rfl); (case c4 => exact rfl); k_whole))
  intro g L1 h1 tk1 cells eg F1 N1 Y1 X1 T1
  obtain ⟨o2, hE, d1⟩ := CellsAre.one Y1
  subst hE
  clear Y1
  dsimp only
  k_fold
  k_steps
  k_dflt (refine SrcM.range (n := 64) (by rfl) (by k_asm) (by k_asm) (by assumption) (by decide) (by rfl) (by size_fits) ?_)
  intro g1
  refine comp_ind (Tups L1 o2) ⟨by k_mem, rfl, fun _ h => absurd h (Nat.not_lt_zero _)⟩ ?_ ?_
  · intro i ys nw v I oI C oC D m₂ h tk E' hi hR hv hC hx hF hN off ne
    obtain ⟨hmem, hys, hall⟩ := hR
    obtain ⟨t9, hv9⟩ := hv
    subst hv9
    rw [show (0 : Int) + (i : Int) * 1 = (i : Int) by omega] at hx
    k_steps
    rename_i t2 k2 b1 b2 D2 h2 F2 N2 lt2
    obtain ⟨q1, q2, q3, q4⟩ := lt2
    refine LCg.CompEnd.intro F2 N2 ((D2, ({ cls := .type "tuple", data := .seq #[.int (SG.getD i 0) t2, .int (i : Int) t9] } : Obj)) :: nw) ?_ ⟨⟨by omega, by omega, by omega⟩, off⟩ trivial ?_
    · intro p hp
      simp only [List.mem_cons] at hp
      rcases hp with rfl | rfl | rfl | rfl | hp
      · exact .tail _ (.head _)
      · exact .tail _ (.tail _ (.head _))
      · exact .tail _ (.tail _ (.tail _ (.head _)))
      · exact .head _
      · exact .tail _ (.tail _ (.tail _ (.tail _ hp)))
    · refine ⟨.tail _ hmem, by rw [List.length_append, hys]; rfl, fun j hj => ?_⟩
      rcases Nat.lt_or_ge j i with hji | hji
      · obtain ⟨a, t1, t2, n, e, hm⟩ := hall j hji
        exact ⟨a, t1, t2, n, by rw [List.getElem?_append_left (by omega)]; exact e, .tail _ hm⟩
      · have e : j = i := by omega
        subst e
        exact ⟨D2, t2, t9, 0, by rw [List.getElem?_append_right (by omega), hys, Nat.sub_self]; rfl, .head _⟩
  · intro ys nw hR
    have hR' := hR
    obtain ⟨hmem, hys, hall⟩ := hR
    obtain ⟨kvs, hk, hp⟩ := tups_kvs hR'
    intro D2 h2 tk2 F2 N2 o1
    dsimp only
    k_steps
    refine dict_pairs (o := o2) (kvs := kvs) (by rfl) (N2 _ (.head _)).1 (by rw [List.size_toArray, hys, hk.1]) (by rw [hk.1]; exact Nat.le_of_ble_eq_true rfl) (by rw [hk.keys]; exact SG_nodup) (fun m v kv a b => ?_) ?_
    · obtain ⟨a', t, n, rfl, hm⟩ := hp m v kv (by simpa using a) b
      exact ⟨a', t, n, rfl, (N2 _ (.tail _ hm)).1⟩
    · intro D3 h3 tk3 o3 hk3 hle3 hget3 hdict3
      have hbig := modules_low T1.nolimit
      have hlt := F2.ns.lt
      have hab := F2.above
      have hnone : g.get? D3 = none := Heap.get?_none_of_le (Nat.le_trans hab (Nat.le_trans (Nat.le_of_lt hlt) hle3))
      refine ⟨[(D3, o3)], h3, tk3, rfl, ⟨D3, o3, rfl, rfl, ?_, kvs, hdict3, hk⟩, fun b o e => hk3 b o (F2.keep b o e), fun q hq => ?_⟩
      · rw [beq_eq_false_iff_ne]
        intro e
        exact absurd hbig (Nat.not_lt.mpr (e ▸ Nat.le_trans hab (Nat.le_trans (Nat.le_of_lt hlt) hle3)))
      · rw [List.mem_singleton.mp hq]
        exact ⟨hget3, hnone⟩
end
section
local macro_rules
  | `(tactic| walk_at "pyIter ref") => `(tactic| (k_here; refine Hold.go ?_))
  | `(tactic| walk_at "pyIter bytes") => `(tactic| (k_here; refine Hold.go ?_))
  | `(tactic| walk_at "pyIter str") => `(tactic| (k_here; refine Hold.go ?_))
local macro_rules
  | `(tactic| walk_at "exec For Name Call cons nil") => `(tactic| (k_here; walk_at "mine for"))
  | `(tactic| walk_at "exec For Name Name cons nil") => `(tactic| (k_here; walk_at "mine for"))
section -- S2
local macro_rules | `(tactic| walk_at "CompEnd") => `(tactic| (k_here; (with_reducible rename Fr _ _ _ _ => lF'); (with_reducible rename News _ _ _ _ => lN'); refine LCg.CompEnd.intro lF' lN' _ (fun p hp => hp) (by assumption) trivial ?_))
theorem freshS2 : True := by
  w_top off
  exact True.intro
def OneList (ns : List Int) (_ : World) (v : Value) (own : List (Addr × Obj)) : Prop := ∃ D vs, v = .ref D ∧ own = [(D, LCg.lst vs)] ∧ IntsAre vs ns
theorem OneList.end {g : Heap} {s : Shared} {w : World} {ns ns' : List Int} {L' : Addr} {h' : Heap} {m' : Str → Option Value} {tk' : Nat} {D : Addr} {vs : List Value} {news' : List (Addr × Obj)}
    (F : Fr g L' h' m') (N : News g L' h' ((D, LCg.lst vs) :: news')) (hi : IntsAre vs ns') (e : ns' = ns) : MEnd g s (OneList ns w) (.ref D) { s with heap := h', toks := tk' } :=
  MEnd.intro F N [(D, LCg.lst vs)] (fun p hp => by rw [List.mem_singleton.mp hp]; exact .head _) ⟨D, vs, rfl, rfl, e ▸ hi⟩
theorem ints_snoc {vs : List Value} {L : List Int} {a b : Int} {t : Tok} (h : IntsAre vs L) (e : a = b) : IntsAre (vs ++ [.int a t]) (L ++ [b]) := by
  subst e
  exact h.append (.cons a t .nil)
theorem rs_down (n : Nat) {a : Int} (ha : a = (n : Int) - 1) : Builtin.Range.rangeSize a (-1) (-1) = ((n : Nat) : Int) := by
  unfold Builtin.Range.rangeSize
  rw [if_neg (by decide)]
  split
  · rw [show (-(-1) : Int) = 1 from rfl, Int.ediv_one]; omega
  · omega
theorem small_down (n : Nat) {a : Int} (ha : a = (n : Int) - 1) (hn : n ≤ 1000) : Builtin.Range.small a (-1) (-1) = true := by
  unfold Builtin.Range.small
  rw [rs_down n ha, if_neg (by decide)]
  simp only [Builtin.Range.rangeFitsLong, Bool.and_eq_true, Bool.or_eq_true, decide_eq_true_eq, beq_iff_eq]
  refine ⟨⟨⟨⟨?_, ?_⟩, ?_⟩, ?_⟩, .inr ?_⟩ <;> omega
theorem group_codes_any (b al : Array UInt8) (tb ta : Tok) (ks : List Int) (hb : KBw.bInts b = ks) (ha : KBw.bInts al = SG) (hk0 : 0 < ks.length) (hk3 : ks.length ≤ 3) :
   Claim 1 71 [.bytes b tb, .bytes al ta] NoPre (OneList (enc ks)) := by
  unfold Claim; k_fill
  intro w p0 loose mean mg mb dp un gd fr s Q E hX hT hdp hun hpre hret
  have hl := SG_len
  have hkb : ∀ k ∈ ks, 0 ≤ k ∧ k < 256 := fun x hx => KBw.ints_in (b := b) (by rw [hb]; exact hx)
  (k_dflt (refine' enterC ?k1 ?k2 ?k6 ?k7 ?k8 ?k9 ?kB ?kD ?kQ ?_ ?c2 ?c3 ?c4; (case k1 => k_asm); (case k2 => k_asm); (case k6 => k_is); (case k7 => k_is); (case k8 => ktr_room); (case k9 => exact BindsTo.of_eq rfl); (case kQ => assumption); (case kB => exact rfl); (case kD => decide +kernel); (case c2 => exact rfl); (case c3 => exact rfl); (case c4 => exact rfl); k_whole))
  intro g L1 h1 tk1 cells eg F1 N1 Y1 X1 T1
  obtain ⟨o2, o3, hE, d1, d2⟩ := CellsAre.two Y1
  subst hE
  clear Y1
  try dsimp only
  k_fold
  k_steps
  unfold Hold
  rename_i h5 o5 F5 N5 d5
  k_dflt (refine loopL (bytes_src (by rfl) hb) F5 N5 (fun i nw => ∃ o t, nw = [(L1 + 1 + 1, o), (L1 + 1, o3)] ∧ o.data = Data.cell (some (Value.int (num (ks.take i)) t))) ⟨o5, _, rfl, d5⟩ ?_ ?_)
  · rintro i v nw h tk own hi ⟨k, t, hk, hk0, hk1, rfl⟩ hadr hoff ⟨o6, t6, rfl, d6⟩ hF hN
    k_fold
    simp only [List.cons_append, List.nil_append] at hN
    have htk : ks.take (i + 1) = ks.take i ++ [k] := by rw [List.take_add_one, hk]; rfl
    k_steps
    rename_i h7 o7 F7 N7 d7
    refine InvEndN.intro (nx := [(L1 + 1 + 1, o7), (L1 + 1, o3)]) F7 N7 ⟨⟨o7, _, rfl, by rw [htk, num_snoc, Int.mul_comm]; exact d7⟩, fun z hz => if_neg hz⟩ rfl (fun q hq => ?_) (fun q hq => ?_)
    · rcases List.mem_cons.mp hq with rfl | hq
      · exact .head _
      · rw [List.mem_singleton.mp hq]; exact .tail _ (.head _)
    · exact .tail _ (.tail _ hq)
  · rintro u nw h tk ⟨o6, t6, rfl, d6⟩ hF hN
    rw [List.take_length] at d6
    obtain ⟨hn0, hn1⟩ := num_bound _ ks rfl hkb
    have hn2 : num ks < 2 ^ 200 := num_small (Nat.le_trans hk3 (by decide)) hkb
    have hsm := small4 ks.length (Nat.lt_succ_of_le hk3)
    have hmm : many ks.length = ks.length + 1 := hsm.2 hk0
    have hs0 : 0 ≤ 6 * ((ks.length : Int) + 1) - 8 * (ks.length : Int) := Int.sub_nonneg_of_le (Int.ofNat_le.mpr hsm.1)
    clear hsm
    try dsimp only
    k_steps
    rename_i h7 tk7 h8 o7 F7 N7 d7 h9 tk9 v1 v2 v3 hR F9 N9 hk9
    have hT : num ks * 2 ^ (6 * ((ks.length : Int) + 1) - 8 * (ks.length : Int)).toNat = TT ks := by
      unfold TT
      rw [hmm]
      exact congrArg (fun e => num ks * 2 ^ e) (tn8 (ks.length + 1) ks.length)
    rw [hT] at d7
    have hT0 := TT_lt ks hkb
    k_dflt (refine SrcM.range (by rfl) F9 N9 hR (small_down (ks.length + 1) rfl (Nat.le_trans (Nat.succ_le_succ hk3) (by decide))) (rs_down (ks.length + 1) rfl) (by rw [sizeLine_eq]; omega) ?_)
    intro g1
    refine comp_ind (fun i ys nw => nw = [(L1 + 1 + 1, o7), (L1 + 1, o3)] ∧ IntsAre ys ((List.range i).map fun j => sg (TT ks / 64 ^ (many ks.length - 1 - j) % 64))) ⟨rfl, .nil⟩ ?_ ?_
    · rintro i ys nw v I oI C oC D m₂ h tk E' hi ⟨rfl, hys⟩ ⟨t9, rfl⟩ hC hx hF hN off ne
      clear ne
      have ed : 6 * ((ks.length : Int) + 1 - 1 + (i : Int) * -1) = ((6 * (many ks.length - 1 - i) : Nat) : Int) := by rw [hmm]; exact congrArg (fun e => 6 * e) (down' hi)
      have en : 0 ≤ 6 * ((ks.length : Int) + 1 - 1 + (i : Int) * -1) := by rw [ed]; exact Int.natCast_nonneg _
      k_steps
      rw [List.range_succ, List.map_append]
      refine ints_snoc hys (sg_eq ?_)
      rw [tn ed, Int.pow_mul]
      rfl
    · rintro ys nw ⟨rfl, hys⟩
      intro D2 h2 tk2 F3 N3 o3
      try dsimp only
      k_steps
      refine OneList.end F3 N3 hys ?_
      rw [← row_enc _ ks (Nat.le_refl _) hkb]
      unfold rowL
      rw [List.map_map, hmm]
      rfl
end
section -- S3
local macro_rules | `(tactic| walk_at "CompEnd") => `(tactic| (k_here; (with_reducible rename Fr _ _ _ _ => lF'); (with_reducible rename News _ _ _ _ => lN'); refine LCg.CompEnd.intro lF' lN' _ (fun p hp => hp) (by assumption) trivial ?_))
local macro_rules | `(tactic| walk_at "call type:bytes") => `(tactic| (k_here; refine Hold.go ?_))
theorem freshS3 : True := by
  w_top off
  exact True.intro
def TupBI (ks : List Int) (sp : Int) (_ : World) (v : Value) (own : List (Addr × Obj)) : Prop := ∃ D b tb t n, v = .ref D ∧ own = [(D, ({ cls := .type "tuple", data := .seq #[.bytes b tb, .int sp t] n } : Obj))] ∧ KBw.bInts b = ks
theorem TupBI.end {g : Heap} {s : Shared} {w : World} {ks : List Int} {sp sp' : Int} {L' : Addr} {h' : Heap} {m' : Str → Option Value} {tk' : Nat} {D : Addr} {b : Array UInt8} {tb t : Tok} {n : Nat} {news' : List (Addr × Obj)}
    (F : Fr g L' h' m') (N : News g L' h' ((D, ({ cls := .type "tuple", data := .seq #[.bytes b tb, .int sp' t] n } : Obj)) :: news')) (e : sp' = sp) (hb : KBw.bInts b = ks) : MEnd g s (TupBI ks sp w) (.ref D) { s with heap := h', toks := tk' } :=
  MEnd.intro F N [(D, ({ cls := .type "tuple", data := .seq #[.bytes b tb, .int sp' t] n } : Obj))] (fun p hp => by rw [List.mem_singleton.mp hp]; exact .head _) ⟨D, b, tb, t, n, rfl, by rw [e], hb⟩
def OneMore (x y : Str) (m₀ : Str → Option Value) (J : Value → Prop) (m' : Str → Option Value) : Prop := (∃ a', m' y = some a' ∧ J a') ∧ ∀ z, z ≠ x → z ≠ y → m' z = m₀ z
section
variable {prog : Program} {w : World} {A : Around} {E : Value → Shared → Prop} {s : Shared} {env : Env} {h₀ : Heap} {x : Str} {body : List Stmt} {Q : Flow → Shared → Prop} {m₀ : Str → Option Value} {news : List (Addr × Obj)}
/-- a loop over a list of ints that stores one name more -/
theorem loopT {l : Addr} {vs : List Value} {ns : List Int} {y : Str} (hh : A.handled = none) (hl : h₀.IsList l vs.toArray) (hi : IntsAre vs ns) (F : Fr h₀ env.locals s.heap m₀) (N : News h₀ env.locals s.heap news) (hyx : y ≠ x) (J : Nat → Value → Prop) (hj : ∃ v, m₀ y = some v ∧ J 0 v)
    (turn : ∀ i k t a h tk own, ns[i]? = some k → J i a → Fr h₀ env.locals h (fun z => if z = x then some (.int k t) else if z = y then some a else m₀ z) → News h₀ env.locals h (own ++ news) →
      wpAny (model prog w) A (execs body env) (InvPost h₀ env.locals (OneMore x y m₀ (J (i + 1))) (own ++ news) { s with heap := h, toks := tk } Q) E { s with heap := h, toks := tk })
    (done : ∀ (u : Str → Option Value) a h tk, J ns.length a → Fr h₀ env.locals h (fun z => if z = x then u z else if z = y then some a else m₀ z) → News h₀ env.locals h news → Q .next { s with heap := h, toks := tk }) :
    wpAny (model prog w) A (pyIter (.ref l)) (fun it s₂ => LoopAtV prog w A h₀ env x body Q E it s₂) E s := by
  refine iter_inv (fun i m => (∃ a, m y = some a ∧ J i a) ∧ ∀ z, z ≠ x → z ≠ y → m z = m₀ z) hh hl hi F N ⟨hj, fun _ _ _ => rfl⟩ ?_ ?_
  · rintro i k t m₁ h tk own hk ⟨⟨a, ha, hJ⟩, hm⟩ F₁ N₁
    rw [map_one ha hm] at F₁
    exact turn i k t a h tk own hk hJ F₁ N₁
  · rintro m₁ h tk ⟨⟨a, ha, hJ⟩, hm⟩ F₁ N₁
    refine done m₁ a h tk hJ ?_ N₁
    have e : m₁ = fun z => if z = x then m₁ z else if z = y then some a else m₀ z := by
      funext z
      by_cases h1 : z = x
      · simp [h1]
      · by_cases h2 : z = y
        · subst h2; simp [h1, ha]
        · simp only [if_neg h1, if_neg h2]; exact hm z h1 h2
    exact e ▸ F₁
end
def spareOf : List Int → Int
  | [_, y] => y % 16
  | [_, _, z] => z % 4
  | _ => 0
def num6 (ks : List Int) : Int := ks.foldl (fun a k => a * 64 + k) 0
theorem num6_snoc (a : List Int) (k : Int) : num6 (a ++ [k]) = num6 a * 64 + k := by simp [num6]
/-- the octets and the spare bits that a group of two to four numbers tells -/
theorem group_pure (R : List Int) (hR : ∀ i ∈ R, 0 ≤ i ∧ i < 64) (h1 : 1 < R.length) (h2 : R.length ≤ 4) :
    0 ≤ num6 R ∧ ((List.range (R.length - 1)).map fun j => num6 R / 2 ^ (8 - 2 * R.length) / 2 ^ (8 * (R.length - 1 - 1 - j)) % 256) = dec R ∧ num6 R % 2 ^ (8 - 2 * R.length) = spareOf R := by
  have p0 : (2 : Int) ^ 0 = 1 := by decide
  have p2 : (2 : Int) ^ 2 = 4 := by decide
  have p4 : (2 : Int) ^ 4 = 16 := by decide
  have p8 : (2 : Int) ^ 8 = 256 := by decide
  have p16 : (2 : Int) ^ 16 = 65536 := by decide
  match R, hR, h1, h2 with
  | [x, y], hR, _, _ =>
    have hx : 0 ≤ x ∧ x < 64 := h0 hR
    have hy : 0 ≤ y ∧ y < 64 := Mine.h1 hR
    have hA : 0 ≤ x * 4 + y / 16 ∧ x * 4 + y / 16 < 256 := two (m := 4) (n := 64) (by decide) hx (dbound (m := 16) (n := 4) (by decide) hy)
    have e : num6 [x, y] = (x * 4 + y / 16) * 16 + y % 16 := by
      show (0 * 64 + x) * 64 + y = _
      have := both y 16
      generalize y / 16 = a at *
      generalize y % 16 = b at *
      omega
    rw [e]
    refine ⟨(two (m := 16) (by decide) hA (r16 y)).1, ?_, ?_⟩
    · show [((x * 4 + y / 16) * 16 + y % 16) / 2 ^ 4 / 2 ^ 0 % 256] = [x * 4 + y / 16]
      rw [p4, dm1 (r16 y).1 (r16 y).2, p0, Int.ediv_one, Int.emod_eq_of_lt hA.1 hA.2]
    · show ((x * 4 + y / 16) * 16 + y % 16) % 2 ^ 4 = y % 16
      rw [p4, mm1 (r16 y).1 (r16 y).2]
  | [x, y, z], hR, _, _ =>
    have hx : 0 ≤ x ∧ x < 64 := h0 hR
    have hy : 0 ≤ y ∧ y < 64 := Mine.h1 hR
    have hz : 0 ≤ z ∧ z < 64 := Mine.h2 hR
    have hA : 0 ≤ x * 4 + y / 16 ∧ x * 4 + y / 16 < 256 := two (m := 4) (n := 64) (by decide) hx (dbound (m := 16) (n := 4) (by decide) hy)
    have hB : 0 ≤ y % 16 * 16 + z / 4 ∧ y % 16 * 16 + z / 4 < 256 := two (m := 16) (n := 16) (by decide) (r16 y) (dbound (m := 4) (n := 16) (by decide) hz)
    have hAB := two (m := 256) (n := 256) (by decide) hA hB
    have e : num6 [x, y, z] = ((x * 4 + y / 16) * 256 + (y % 16 * 16 + z / 4)) * 4 + z % 4 := by
      show ((0 * 64 + x) * 64 + y) * 64 + z = _
      have := both y 16
      have := both z 4
      generalize y / 16 = a at *
      generalize y % 16 = b at *
      generalize z / 4 = c at *
      generalize z % 4 = d at *
      omega
    rw [e]
    refine ⟨(two (m := 4) (by decide) hAB (r4 z)).1, ?_, ?_⟩
    · show [(((x * 4 + y / 16) * 256 + (y % 16 * 16 + z / 4)) * 4 + z % 4) / 2 ^ 2 / 2 ^ 8 % 256, (((x * 4 + y / 16) * 256 + (y % 16 * 16 + z / 4)) * 4 + z % 4) / 2 ^ 2 / 2 ^ 0 % 256] = [x * 4 + y / 16, y % 16 * 16 + z / 4]
      rw [p2, p8, dm1 (r4 z).1 (r4 z).2, p0, Int.ediv_one, dm1 hB.1 hB.2, mm1 hB.1 hB.2, Int.emod_eq_of_lt hA.1 hA.2]
    · show (((x * 4 + y / 16) * 256 + (y % 16 * 16 + z / 4)) * 4 + z % 4) % 2 ^ 2 = z % 4
      rw [p2, mm1 (r4 z).1 (r4 z).2]
  | [x, y, z, u], hR, _, _ =>
    have hx : 0 ≤ x ∧ x < 64 := h0 hR
    have hy : 0 ≤ y ∧ y < 64 := Mine.h1 hR
    have hz : 0 ≤ z ∧ z < 64 := Mine.h2 hR
    have hu : 0 ≤ u ∧ u < 64 := hR u (.tail _ (.tail _ (.tail _ (.head _))))
    have hA : 0 ≤ x * 4 + y / 16 ∧ x * 4 + y / 16 < 256 := two (m := 4) (n := 64) (by decide) hx (dbound (m := 16) (n := 4) (by decide) hy)
    have hB : 0 ≤ y % 16 * 16 + z / 4 ∧ y % 16 * 16 + z / 4 < 256 := two (m := 16) (n := 16) (by decide) (r16 y) (dbound (m := 4) (n := 16) (by decide) hz)
    have hC : 0 ≤ z % 4 * 64 + u ∧ z % 4 * 64 + u < 256 := two (m := 64) (n := 4) (by decide) (r4 z) hu
    have e : num6 [x, y, z, u] = (x * 4 + y / 16) * 65536 + ((y % 16 * 16 + z / 4) * 256 + (z % 4 * 64 + u)) := by
      show (((0 * 64 + x) * 64 + y) * 64 + z) * 64 + u = _
      have := both y 16
      have := both z 4
      generalize y / 16 = a at *
      generalize y % 16 = b at *
      generalize z / 4 = c at *
      generalize z % 4 = d at *
      omega
    rw [e]
    have key : ∀ A B C : Int, 0 ≤ A ∧ A < 256 → 0 ≤ B ∧ B < 256 → 0 ≤ C ∧ C < 256 → 0 ≤ A * 65536 + (B * 256 + C) ∧ [(A * 65536 + (B * 256 + C)) / 2 ^ 0 / 2 ^ 16 % 256, (A * 65536 + (B * 256 + C)) / 2 ^ 0 / 2 ^ 8 % 256, (A * 65536 + (B * 256 + C)) / 2 ^ 0 / 2 ^ 0 % 256] = [A, B, C] ∧ (A * 65536 + (B * 256 + C)) % 2 ^ 0 = 0 := by
      intro A B C hA hB hC
      have hBC : 0 ≤ B * 256 + C ∧ B * 256 + C < 65536 := two (m := 256) (n := 256) (by decide) hB hC
      have e2 : A * 65536 + (B * 256 + C) = (A * 256 + B) * 256 + C := by omega
      rw [p0, p8, p16]
      refine ⟨(two (m := 65536) (by decide) hA hBC).1, ?_, Int.emod_one _⟩
      rw [Int.ediv_one, Int.ediv_one, dm1 hBC.1 hBC.2, Int.emod_eq_of_lt hA.1 hA.2, e2, dm1 hC.1 hC.2, mm1 hB.1 hB.2, mm1 hC.1 hC.2]
    exact key _ _ _ hA hB hC
theorem sp8 {n : Nat} (h1 : 1 < n) (h2 : n ≤ 4) : 6 * (n : Int) - 8 * ((n : Int) - 1) = ((8 - 2 * n : Nat) : Int) := by omega
theorem group_octets_any (D : Addr) (vs : List Value) (R : List Int) (hb : IntsAre vs R) (hR : ∀ i ∈ R, 0 ≤ i ∧ i < 64) (hR1 : 1 < R.length) (hR2 : R.length ≤ 4) :
    Claim 1 76 [.ref D] (fun _ h => h.IsList D vs.toArray) (TupBI (dec R) (spareOf R)) := by
  unfold Claim; k_fill
  intro w p0 loose mean mg mb dp un gd fr s Q E hX hT hdp hun hpre hret
  have hvl := hb.length
  (k_dflt (refine' enterC ?k1 ?k2 ?k6 ?k7 ?k8 ?k9 ?kB ?kD ?kQ ?_ ?c2 ?c3 ?c4; (case k1 => k_asm); (case k2 => k_asm); (case k6 => k_is); (case k7 => k_is); (case k8 => ktr_room); (case k9 => exact BindsTo.of_eq rfl); (case kQ => assumption); (case kB => exact rfl); (case kD => decide +kernel); (case c2 => exact rfl); (case c3 => exact rfl); (case c4 => exact rfl); k_whole))
  intro g L1 h1 tk1 cells eg F1 N1 Y1 X1 T1
  rw [← eg] at hpre
  obtain ⟨o2, hE, d1⟩ := CellsAre.one Y1
  subst hE
  clear Y1
  try dsimp only
  k_fold
  k_steps
  unfold Hold
  rename_i h5 F5 N5
  k_dflt (refine loopT (y := Str.ofString "total") (by rfl) hpre hb F5 N5 (by decide) (fun i a => IsI (num6 (R.take i)) a) ⟨_, if_pos rfl, _, rfl⟩ ?_ ?_)
  · rintro i k t a h tk own hk ⟨t6, rfl⟩ hF hN
    k_fold
    have htk : R.take (i + 1) = R.take i ++ [k] := by rw [List.take_add_one, hk]; rfl
    k_steps
    refine ⟨⟨_, if_pos rfl, _, by rw [htk, num6_snoc, Int.mul_comm]⟩, fun z hz hz2 => ?_⟩
    first | exact (if_neg hz2).trans (if_neg hz) | exact (if_neg hz2).trans ((if_neg hz).trans (if_neg hz2))
  · rintro u a h tk ⟨t6, rfl⟩ hF hN
    rw [List.take_length] at hF
    obtain ⟨hn0, hg1, hg2⟩ := group_pure R hR hR1 hR2
    have hs6 : 6 * (R.length : Int) - 8 * ((R.length : Int) - 1) = ((8 - 2 * R.length : Nat) : Int) := sp8 hR1 hR2
    have hs0 : 0 ≤ 6 * (R.length : Int) - 8 * ((R.length : Int) - 1) := by rw [hs6]; exact Int.natCast_nonneg _
    have hr1 : (R.length : Int) - 1 = ((R.length - 1 : Nat) : Int) := (Int.ofNat_sub (Nat.le_of_lt hR1)).symm
    try dsimp only
    k_steps
    rename_i h7 tk7 h8 h9 o9 F9 N9 d9 h10 tk10 v1 v2 v3 hRg F10 N10 hk10
    have hsp := tn hs6
    rw [hsp] at d9
    k_dflt (refine SrcM.range (by rfl) F10 N10 hRg (small_down (R.length - 1) (congrArg (fun e => e - 1) hr1) (Nat.le_trans (Nat.sub_le _ _) (Nat.le_trans hR2 (by decide)))) (rs_down (R.length - 1) (congrArg (fun e => e - 1) hr1)) (by rw [sizeLine_eq]; omega) ?_)
    intro g1
    refine comp_ind (fun i ys nw => nw = [(L1 + 1, o9)] ∧ IntsAre ys ((List.range i).map fun j => num6 R / 2 ^ (8 - 2 * R.length) / 2 ^ (8 * (R.length - 1 - 1 - j)) % 256)) ⟨rfl, .nil⟩ ?_ ?_
    · rintro i ys nw v I oI C oC D m₂ h tk E' hi ⟨rfl, hys⟩ ⟨t9, rfl⟩ hC hx hF hN off ne
      clear ne
      have ed : 8 * ((R.length : Int) - 1 - 1 + (i : Int) * -1) = ((8 * (R.length - 1 - 1 - i) : Nat) : Int) := by rw [hr1]; exact congrArg (fun e => 8 * e) (down' hi)
      have en : 0 ≤ 8 * ((R.length : Int) - 1 - 1 + (i : Int) * -1) := by rw [ed]; exact Int.natCast_nonneg _
      k_steps
      rw [List.range_succ, List.map_append]
      refine ints_snoc hys ?_
      rw [tn ed]
    · rintro ys nw ⟨rfl, hys⟩
      have hdb : ∀ k ∈ dec R, 0 ≤ k ∧ k < 256 := by
        rw [← hg1]
        intro k hk
        obtain ⟨j, _, rfl⟩ := List.mem_map.mp hk
        exact ⟨Int.emod_nonneg _ (by decide), Int.emod_lt_of_pos _ (by decide)⟩
      have hdl := dec_len _ R (Nat.le_refl _)
      rw [hg1] at hys
      intro D2 h2 tk2 F3 N3 o3
      try dsimp only
      k_steps
      unfold Hold
      k_dflt (refine KBa.make_K F3 N3 (by rfl) (N3.isList (.head _)) hys hdb (by omega) ?_)
      intro h11 t11 k11 F11 N11 in11
      have hbd := KBa.ints_make in11
      try dsimp only
      k_steps
      refine TupBI.end (by k_asm) (by k_asm) ?_ hbd
      rw [Int.one_mul, hsp, kbt_mask]
      exact hg2
end
section -- PE
local macro_rules | `(tactic| walk_at "call builtin:list.extend") => `(tactic| (k_here; refine Hold.go ?_))
theorem freshPE : True := by
  w_top off
  exact True.intro
theorem part_encoded_spec (b al : Array UInt8) (tb ta : Tok) (ks : List Int) (hb : KBw.bInts b = ks) (hs : ks.length ≤ 100) (ha : KBw.bInts al = SG) :
   Claim 2 83 [.bytes b tb, .bytes al ta] NoPre (Gives (IsB (enc ks))) := by
  unfold Claim; k_fill
  intro w p loose mean mg mb dp un gd fr s Q E hX hT hdp hun hpre hret
  have hl := SG_len
  (k_dflt (refine' enter ?k1 ?k2 ?k6 ?k7 ?k8 ?k9 ?kB ?kQ ?_ ?c2 ?c3 ?c4 ?c5; (case k1 => k_asm); (case k2 => k_asm); (case k6 => k_is); (case k7 => k_is); (case k8 => ktr_room); (case k9 => first | exact BindsTo.of_eq rfl | exact binds_K (by k_asm) rfl (by k_is) rfl rfl rfl); (case kQ => assumption); (case c5 => decide); (case kB => exact locs rfl); (case c2 => exact rfl); (case c3 => exact rfl); (case c4 => exact rfl); k_whole))
  intro g L1 h1 eg F1 N1 X1 T1
  dsimp only
  k_fold
  k_steps
  unfold Hold
  rename_i _ D _ _ _ _ _ _ _ _ _ _ hR F2 N2 hk2
  k_dflt (refine loopL (range_src0 (c := 3) (by rfl) hR (by decide) (by omega) (by decide)) F2 N2 (fun i nw => ∃ vs n, nw = [(D, listOf vs.toArray n)] ∧ IntsAre vs (enc (ks.take (3 * i)))) ⟨[], 0, rfl, .nil⟩ ?_ ?_)
  · rintro i v nw h tk own hi ⟨tv, rfl⟩ hadr hoff ⟨vs, n, rfl, hvs⟩ hF hN
    k_fold
    k_steps
    have hoff' : ∀ p ∈ own, p.1 ≠ D := hoff.ne (.head _)
    have h3i : 3 * i < ks.length := cdiv_lt (by decide) hi
    rename_i h2 tb2 k2 F3 N3 hsl
    have hsl3 : KBw.bInts (KBy.picked b (some ((3 * i : Nat) : Int)) (some (((3 * i : Nat) : Int) + 3))) = (ks.drop (3 * i)).take 3 := by
      rw [hsl, ← clip_slice ks (3 * i) 3 (by omega)]
      simp only [clipAt_nat]; rfl
    generalize KBy.picked b (some ((3 * i : Nat) : Int)) (some (((3 * i : Nat) : Int) + 3)) = bs at hsl3 ⊢
    have hlenv := hvs.length
    have hle := enc_len _ (ks.take (3 * i)) (Nat.le_refl _)
    rw [List.length_take] at hle
    have hcod : Claim 1 71 [.bytes bs tb2, .bytes al ta] NoPre (OneList (enc ((ks.drop (3 * i)).take 3))) := by
      have hlen1 : 0 < ((ks.drop (3 * i)).take 3).length := by rw [List.length_take, List.length_drop]; exact Nat.lt_min.mpr ⟨by decide, Nat.sub_pos_of_lt h3i⟩
      have hlen2 : ((ks.drop (3 * i)).take 3).length ≤ 3 := by rw [List.length_take]; exact Nat.min_le_left _ _
      exact group_codes_any bs al tb2 ta _ hsl3 ha hlen1 hlen2
    k_dflt (refine use (by k_asm) (by k_asm) (by k_asm) (by k_asm) hcod (by ktr_room) (by ktr_units) True.intro ?_)
    rintro v own2 h4 tk4 ⟨G, vs2, rfl, rfl, hi2⟩ F4 N4 hne4
    have hGD : G ≠ D := hne4 _ (.head _) _ (List.mem_append_left _ (.head _))
    have hl2 := hi2.length
    dsimp only
    k_steps
    unfold Hold
    refine extend_in_ints (own := [(G, LCg.lst vs2)]) (rest := own) F4 N4 (by intro q hq; rw [List.mem_singleton.mp hq]; exact hGD) hoff' (N4 _ (.head _)).1 hvs hi2 ?_ (by rw [sizeLine_eq, List.size_toArray, hlenv, hl2]; have := enc_len _ ((ks.drop (3 * i)).take 3) (Nat.le_refl _); rw [List.length_take] at this; omega)
    intro h5 n5 F5 N5 hi5
    k_steps
    rw [← enc_append i (ks.take (3 * i)) _ (by rw [List.length_take]; exact Nat.min_eq_left (Nat.le_of_lt h3i)), ← take_step] at hi5
    refine InvEndN.intro (nx := [(D, listOf (vs ++ vs2.toArray.toList).toArray n5)]) F5 N5 ⟨⟨_, _, rfl, hi5⟩, fun z h1 => if_neg h1⟩ rfl (fun q hq => ?_) (fun q hq => ?_)
    · rw [List.mem_singleton.mp hq]; exact .tail _ (.head _)
    · exact .tail _ (.tail _ hq)
  · rintro u nw h tk ⟨vs, n, rfl, hvs⟩ hF hN
    rw [List.take_of_length_le (cdiv_le (by decide))] at hvs
    have hlen := enc_len _ ks (Nat.le_refl _)
    have hby := enc_bytes _ ks (Nat.le_refl _)
    dsimp only
    k_steps
    refine MEnd.val (by k_asm) ⟨_, _, rfl, KBa.ints_make (by assumption)⟩
end
section -- OL
theorem freshOL : True := by
  w_top off
  exact True.intro
def line (ks : List Int) : List Int := enc ks ++ List.replicate ((3 - ks.length % 3) % 3) 61
theorem one_line_spec (b : Array UInt8) (tb : Tok) (ks : List Int) (hb : KBw.bInts b = ks) (hs : ks.length ≤ 100) :
   Claim 3 90 [.bytes b tb] NoPre (Gives (IsB (line ks))) := by
  unfold Claim; k_fill
  intro w p loose mean mg mb dp un gd fr s Q E hX hT hdp hun hpre hret
  (k_dflt (refine' enter ?k1 ?k2 ?k6 ?k7 ?k8 ?k9 ?kB ?kQ ?_ ?c2 ?c3 ?c4 ?c5; (case k1 => k_asm); (case k2 => k_asm); (case k6 => k_is); (case k7 => k_is); (case k8 => ktr_room); (case k9 => first | exact BindsTo.of_eq rfl | exact binds_K (by k_asm) rfl (by k_is) rfl rfl rfl); (case kQ => assumption); (case c5 => decide); (case kB => exact locs rfl); (case c2 => exact rfl); (case c3 => exact rfl); (case c4 => exact rfl); k_whole))
  intro g L1 h1 eg F1 N1 X1 T1
  dsimp only
  k_fold
  k_steps
  k_dflt (refine use (by k_asm) (by k_asm) (by k_asm) (by k_asm) (part_encoded_spec _ _ _ _ ks hb hs (by rfl)) (by ktr_room) (by ktr_units) True.intro ?_)
  rintro v own2 h4 tk4 ⟨rfl, c, tc, rfl, hc⟩ F4 N4 hne4
  dsimp only
  k_steps
  with_reducible rename Fr _ _ _ _ => F5
  with_reducible rename News _ _ _ _ => N5
  with_reducible rename IntsAre _ _ => i5
  have e0 : ((-(ks.length : Int)).fmod 3).toNat = (3 - ks.length % 3) % 3 := by
    rw [Int.fmod_eq_emod_of_nonneg _ (by decide)]; omega
  have e1 : (List.replicate ((-(ks.length : Int)).fmod 3).toNat [(61 : Int)]).flatten = List.replicate ((3 - ks.length % 3) % 3) 61 := by
    rw [List.flatten_replicate_singleton, e0]
  rw [e1] at i5
  have hp3 : (3 - ks.length % 3) % 3 < 3 := Nat.mod_lt _ (by decide)
  have hlen := enc_len _ ks (Nat.le_refl _)
  k_dflt (refine KBa.make_K F5 N5 (by rfl) (N5.isList (.head _)) i5 ?_ (by rw [List.length_replicate]; omega) ?_)
  · intro k hk
    rw [(List.mem_replicate.mp hk).2]; decide
  intro h6 t6 k6 F6 N6 in6
  refine KBa.add_K hc (KBa.ints_make in6) (by rw [List.length_replicate]; omega) ?_
  intro t7 k7 h7
  exact MEnd.val F6 ⟨_, _, rfl, h7⟩
end
section -- SN
local macro_rules | `(tactic| walk_at "compareOp NotIn int ref") => `(tactic| (k_here; k_dflt (refine worth_notIn_some (WorthAt.keep (by assumption) (Fr.keep (by k_asm))) (by assumption) ?_)))
local macro_rules | `(tactic| walk_at "subscriptTail") => `(tactic| (k_here; (with_reducible show wpAny _ _ (subscriptTail _ _ (Value.ref _) (Value.int _ _)) _ _ _); k_dflt (refine worth_item (WorthAt.keep (by assumption) (Fr.keep (by k_asm))) (by assumption) ?_); intro _))
theorem freshSN : True := by
  w_top off
  exact True.intro
theorem strict_number_spec (b : Array UInt8) (tb : Tok) (k : Int) (tk : Tok) (ks : List Int) (d : Addr) (i : Int) (hk : 0 ≤ k) (hb : KBw.bInts b = ks) (hs : ks.length ≤ 1000) (hkl : k < ks.length) (hi : worth (ks.getD k.toNat 0) = some i) :
   Claim 1 117 [.bytes b tb, .int k tk, .ref d] (fun w h => WorthAt w h d) (Gives (IsI i)) := by
  unfold Claim; k_fill
  intro w p loose mean mg mb dp un gd fr s Q E hX hT hdp hun hpre hret
  (k_dflt (refine' enter ?k1 ?k2 ?k6 ?k7 ?k8 ?k9 ?kB ?kQ ?_ ?c2 ?c3 ?c4 ?c5; (case k1 => k_asm); (case k2 => k_asm); (case k6 => k_is); (case k7 => k_is); (case k8 => ktr_room); (case k9 => first | exact BindsTo.of_eq rfl | exact binds_K (by k_asm) rfl (by k_is) rfl rfl rfl); (case kQ => assumption); (case c5 => decide); (case kB => exact locs rfl); (case c2 => exact rfl); (case c3 => exact rfl); (case c4 => exact rfl); k_whole))
  intro g L1 h1 eg F1 N1 X1 T1
  rw [← eg] at hpre
  dsimp only
  k_fold
  k_steps
  exact MEnd.val (by k_asm) ⟨_, rfl⟩
end
section
local macro_rules | `(tactic| walk_at "getMethod bytes") => `(tactic| (k_here; (with_reducible refine getm_join ?_)))
local macro_rules | `(tactic| walk_at "call builtin:bytes.join") => `(tactic| (k_here; refine Hold.go ?_))
section -- IL
local macro_rules | `(tactic| walk_at "mine dummy") => `(tactic| skip)
theorem freshIL : True := by
  w_top off
  exact True.intro
theorem in_lines_0 (b : Array UInt8) (tb tw : Tok) (ks : List Int) (hb : KBw.bInts b = ks) :
   Claim 1 95 [.bytes b tb, .int 0 tw] NoPre (Gives (IsB ks)) := by
  unfold Claim; k_fill
  intro w p loose mean mg mb dp un gd fr s Q E hX hT hdp hun hpre hret
  (k_dflt (refine' enterC ?k1 ?k2 ?k6 ?k7 ?k8 ?k9 ?kB ?kD ?kQ ?_ ?c2 ?c3 ?c4; (case k1 => k_asm); (case k2 => k_asm); (case k6 => k_is); (case k7 => k_is); (case k8 => ktr_room); (case k9 => exact BindsTo.of_eq rfl); (case kQ => assumption); (case kB => exact rfl); (case kD => decide +kernel); (case c2 => exact rfl); (case c3 => exact rfl); (case c4 => exact rfl); k_whole))
  intro g L1 h1 tk1 cells eg F1 N1 Y1 X1 T1
  obtain ⟨o1, o2, hE, d1, d2⟩ := CellsAre.two Y1
  subst hE
  clear Y1
  try dsimp only
  k_fold
  k_steps
  exact MEnd.val (by k_asm) ⟨_, _, rfl, hb⟩
theorem in_lines_w (b : Array UInt8) (tb tw : Tok) (ks : List Int) (c : Nat) (hb : KBw.bInts b = ks) (hs : ks.length ≤ 1000) (hc : 0 < c) (hc2 : c ≤ 1000) (hj : (jn [13, 10] (chunks c ks)).length ≤ 16777216) :
   Claim 1 95 [.bytes b tb, .int (c : Int) tw] NoPre (Gives (IsB (jn [13, 10] (chunks c ks)))) := by
  unfold Claim; k_fill
  intro w p loose mean mg mb dp un gd fr s Q E hX hT hdp hun hpre hret
  (k_dflt (refine' enterC ?k1 ?k2 ?k6 ?k7 ?k8 ?k9 ?kB ?kD ?kQ ?_ ?c2 ?c3 ?c4; (case k1 => k_asm); (case k2 => k_asm); (case k6 => k_is); (case k7 => k_is); (case k8 => ktr_room); (case k9 => exact BindsTo.of_eq rfl); (case kQ => assumption); (case kB => exact rfl); (case kD => decide +kernel); (case c2 => exact rfl); (case c3 => exact rfl); (case c4 => exact rfl); k_whole))
  intro g L1 h1 tk1 cells eg F1 N1 Y1 X1 T1
  obtain ⟨o1, o2, hE, d1, d2⟩ := CellsAre.two Y1
  subst hE
  clear Y1
  try dsimp only
  k_fold
  k_steps
  rename_i hR F2 N2 hk2
  k_dflt (refine SrcM.range0 (by rfl) F2 N2 hR hc (by omega) (by omega) ?_)
  intro g1
  refine comp_ind (fun i ys nw => nw = [(L1 + 1 + 1, o1), (L1 + 1, o2)] ∧ BsAre ys ((chunks c ks).take i)) ⟨rfl, .nil⟩ ?_ ?_
  · rintro i ys nw v I oI C oC D m₂ h tk E' hi ⟨rfl, hys⟩ ⟨t9, rfl⟩ hC hx hF hN off ne
    simp only [LCg.Off3, and_true] at off
    k_steps
    rename_i hsl
    rw [chunks_take c ks i hi]
    refine hys.snoc ?_
    have hle : c * i ≤ ks.length := by
      have h1 := (Nat.le_div_iff_mul_le hc).mp (Nat.succ_le_of_lt hi)
      rw [Nat.succ_mul, Nat.mul_comm i c] at h1
      omega
    rw [hsl, ← clip_slice ks (c * i) c hle]
    simp only [clipAt_nat]
  · rintro ys nw ⟨rfl, hys⟩
    rw [List.take_of_length_le (by rw [chunks_len]; exact Nat.le_refl _)] at hys
    intro D2 h2 tk2 F3 N3 o3
    dsimp only
    k_steps
    unfold Hold
    refine bytes_join (ks := [13, 10]) (by rfl) (N3.isList (.head _)) (fun o e => ?_) hys hj ?_
    · have := (N3 _ (.head _)).1
      rw [e] at this
      cases this
      exact ⟨rfl, rfl⟩
    · intro b' t' k' hb'
      exact MEnd.val F3 ⟨_, _, rfl, hb'⟩
end
section -- EN
theorem freshEN : True := by
  w_top off
  exact True.intro
theorem line_len (ks : List Int) : (line ks).length ≤ 2 * ks.length + 2 := by
  unfold line
  rw [List.length_append, List.length_replicate]
  have := enc_len _ ks (Nat.le_refl _)
  have := Nat.mod_lt (3 - ks.length % 3) (show 0 < 3 by decide)
  omega
theorem encoded_0 (b : Array UInt8) (tb tw : Tok) (ks : List Int) (hb : KBw.bInts b = ks) (hs : ks.length ≤ 100) :
   Claim 4 103 [.bytes b tb, .int 0 tw] NoPre (Gives (IsB (line ks))) := by
  unfold Claim; k_fill
  intro w p loose mean mg mb dp un gd fr s Q E hX hT hdp hun hpre hret
  (k_dflt (refine' enter ?k1 ?k2 ?k6 ?k7 ?k8 ?k9 ?kB ?kQ ?_ ?c2 ?c3 ?c4 ?c5; (case k1 => k_asm); (case k2 => k_asm); (case k6 => k_is); (case k7 => k_is); (case k8 => ktr_room); (case k9 => first | exact BindsTo.of_eq rfl | exact binds_K (by k_asm) rfl (by k_is) rfl rfl rfl); (case kQ => assumption); (case c5 => decide); (case kB => exact locs rfl); (case c2 => exact rfl); (case c3 => exact rfl); (case c4 => exact rfl); k_whole))
  intro g L1 h1 eg F1 N1 X1 T1
  try dsimp only
  k_fold
  k_steps
  k_dflt (refine use (by k_asm) (by k_asm) (by k_asm) (by k_asm) (one_line_spec _ _ ks hb hs) (by ktr_room) (by ktr_units) True.intro ?_)
  rintro v own2 h4 tk4 ⟨rfl, c, tc, rfl, hc⟩ F4 N4 hne4
  dsimp only
  k_steps
  k_dflt (refine use (by k_asm) (by k_asm) (by k_asm) (by k_asm) (in_lines_0 _ _ _ _ hc) (by ktr_room) (by ktr_units) True.intro ?_)
  rintro v own2 h4 tk4 ⟨rfl, d, td, rfl, hd⟩ F4 N4 hne4
  dsimp only
  k_steps
  exact MEnd.val (by k_asm) ⟨_, _, rfl, hd⟩
theorem encoded_w (b : Array UInt8) (tb tw : Tok) (ks : List Int) (n : Nat) (hb : KBw.bInts b = ks) (hs : ks.length ≤ 100) (hn : 0 < n) (hn2 : n ≤ 1000) :
   Claim 4 103 [.bytes b tb, .int (n : Int) tw] NoPre (Gives (IsB (jn [13, 10] (chunks n (line ks))))) := by
  unfold Claim; k_fill
  intro w p loose mean mg mb dp un gd fr s Q E hX hT hdp hun hpre hret
  have hll := line_len ks
  (k_dflt (refine' enter ?k1 ?k2 ?k6 ?k7 ?k8 ?k9 ?kB ?kQ ?_ ?c2 ?c3 ?c4 ?c5; (case k1 => k_asm); (case k2 => k_asm); (case k6 => k_is); (case k7 => k_is); (case k8 => ktr_room); (case k9 => first | exact BindsTo.of_eq rfl | exact binds_K (by k_asm) rfl (by k_is) rfl rfl rfl); (case kQ => assumption); (case c5 => decide); (case kB => exact locs rfl); (case c2 => exact rfl); (case c3 => exact rfl); (case c4 => exact rfl); k_whole))
  intro g L1 h1 eg F1 N1 X1 T1
  try dsimp only
  k_fold
  k_steps
  k_dflt (refine use (by k_asm) (by k_asm) (by k_asm) (by k_asm) (one_line_spec _ _ ks hb hs) (by ktr_room) (by ktr_units) True.intro ?_)
  rintro v own2 h4 tk4 ⟨rfl, c, tc, rfl, hc⟩ F4 N4 hne4
  dsimp only
  k_steps
  k_dflt (refine use (by k_asm) (by k_asm) (by k_asm) (by k_asm) (in_lines_w _ _ _ _ n hc (by omega) hn hn2 (Nat.le_trans (jn_chunks_len n _ hn (by omega) hn2) (by decide))) (by ktr_room) (by ktr_units) True.intro ?_)
  rintro v own2 h4 tk4 ⟨rfl, d, td, rfl, hd⟩ F4 N4 hne4
  dsimp only
  k_steps
  exact MEnd.val (by k_asm) ⟨_, _, rfl, hd⟩
end
section -- DE1
local macro_rules | `(tactic| walk_at "exec For Name Name cons nil") => `(tactic| (k_here; refine Hold.go ?_))
local macro_rules | `(tactic| walk_at "compareOp In int ref") => `(tactic| (k_here; k_dflt (refine worth_inE (by walk_at "mine worth") (by assumption) ?_)))
local macro_rules | `(tactic| walk_at "mine worth") => `(tactic| exact WorthObj.at (by assumption) (News.get (by k_asm) (by walk_at "mine mem")))
local macro_rules | `(tactic| walk_at "subscriptTail") => `(tactic| (k_here; (with_reducible show wpAny _ _ (subscriptTail _ _ (Value.ref _) (Value.int _ _)) _ _ _); k_dflt (refine worth_item (by walk_at "mine worth") (by assumption) ?_); intro _))
theorem freshDE1 : True := by
  w_top off
  exact True.intro
theorem lt4 {i n : Nat} (h : i < (n + 4 - 1) / 4) : 4 * i < n := by omega
theorem ceil4 (n : Nat) : n ≤ 4 * ((n + 4 - 1) / 4) := by omega
theorem take_cut (R : List Int) (a c : Nat) : List.take (min (a + c) R.length - a) (List.drop a R) = (R.drop a).take c := by
  rw [← Nat.sub_min_sub_right, Nat.add_sub_cancel_left, ← List.length_drop]
  exact List.take_eq_take_min.symm
def RowOut (g : Heap) (L : Addr) (m : Str → Option Value) (x : Str) (D : Addr) (rest : List (Addr × Obj)) (R : List Int) (s : Shared) (fl : Flow) (s' : Shared) : Prop :=
  fl = .next ∧ ∃ (h' : Heap) (tk' : Nat) (vs : List Value) (n : Nat) (u : Str → Option Value), s' = { s with heap := h', toks := tk' } ∧ Fr g L h' (fun y => if y = x then u y else m y) ∧ News g L h' ((D, listOf vs.toArray n) :: rest) ∧ IntsAre vs R
theorem cut_row {M : Model} {A : Around} {E : Value → Shared → Prop} {t : Sem Flow} {Q : Flow → Shared → Prop} {g : Heap} {L D : Addr} {m : Str → Option Value} {x : Str} {rest : List (Addr × Obj)} {R : List Int} {s : Shared} (_F : Fr g L s.heap m)
    (h1 : wpAny M A t (RowOut g L m x D rest R s) E s)
    (h2 : ∀ h' tk' vs n (u : Str → Option Value), Fr g L h' (fun y => if y = x then u y else m y) → News g L h' ((D, listOf vs.toArray n) :: rest) → IntsAre vs R → Q .next { s with heap := h', toks := tk' }) : wpAny M A t Q E s :=
  wpAny_mono h1 (fun fl s' ⟨e, h', tk', vs, n, u, es, F, N, hi⟩ => by subst e es; exact h2 h' tk' vs n u F N hi) fun _ _ e => e
theorem decoded_spec (b : Array UInt8) (tb : Tok) (ks : List Int) (hb : KBw.bInts b = ks) (hs : ks.length ≤ 1000) :
   Claim 2 110 [.bytes b tb] NoPre (Gives (IsB (dec (rowOf ks)))) := by
  unfold Claim; k_fill
  intro w p loose mean mg mb dp un gd fr s Q E hX hT hdp hun hpre hret
  (k_dflt (refine' enter ?k1 ?k2 ?k6 ?k7 ?k8 ?k9 ?kB ?kQ ?_ ?c2 ?c3 ?c4 ?c5; (case k1 => k_asm); (case k2 => k_asm); (case k6 => k_is); (case k7 => k_is); (case k8 => ktr_room); (case k9 => first | exact BindsTo.of_eq rfl | exact binds_K (by k_asm) rfl (by k_is) rfl rfl rfl); (case kQ => assumption); (case c5 => decide); (case kB => exact locs rfl); (case c2 => exact rfl); (case c3 => exact rfl); (case c4 => exact rfl); k_whole))
  intro g L1 h1 eg F1 N1 X1 T1
  try dsimp only
  k_fold
  k_steps
  k_dflt (refine use (by k_asm) (by k_asm) (by k_asm) (by k_asm) (worth_table_spec _ _ (by rfl)) (by ktr_room) (by ktr_units) True.intro ?_)
  rintro v own2 h4 tk4 ⟨d, o, rfl, rfl, hW⟩ F4 N4 hne4
  dsimp only [List.nil_append, List.cons_append] at N4
  dsimp only
  k_steps
  unfold Hold
  with_reducible rename Fr _ _ _ _ => F5
  with_reducible rename News _ _ _ _ => N5
  rename_i _ _ D2 _ ltd _
  refine cut_row (x := Str.ofString "code") (D := D2) (rest := [(d, o)]) (R := rowOf ks) F5 ?_ ?_
  · with_unfolding_all refine' For_invVF F5 ?k1 ?k2 ?_
    case k1 => exact rfl
    case k2 => exact rfl
    k_steps
    unfold Hold
    k_dflt (refine loopL (bytes_src (by rfl) hb) F5 N5 (fun i nw => ∃ vs n, nw = [(D2, listOf vs.toArray n), (d, o)] ∧ IntsAre vs (rowOf (ks.take i)) ∧ ∀ k ∈ ks.take i, k ≠ 61) ⟨[], 0, rfl, .nil, by simp⟩ ?_ ?_)
    · rintro i v nw h tk own hi ⟨k, t, hk, hk0, hk1, rfl⟩ hadr hoff ⟨vs, n, rfl, hvs, h61⟩ hF hN
      k_fold
      have hlt : i < ks.length := hi
      have hki : ks[i] = k := by rw [List.getElem?_eq_getElem hlt] at hk; exact Option.some.inj hk
      have htk : ks.take (i + 1) = ks.take i ++ [k] := by rw [List.take_add_one, hk]; rfl
      have hsplit : ks = ks.take i ++ k :: ks.drop (i + 1) := by
        rw [← hki, ← List.drop_eq_getElem_cons hlt, List.take_append_drop]
      have hvl := hvs.length
      have hrl := rowOf_len (ks.take i)
      rw [List.length_take] at hrl
      simp only [List.cons_append, List.nil_append] at hN
      rcases hw : worth k with _ | iw
      · k_steps
        · have hk61 : k = 61 := by assumption
          refine ⟨rfl, h, tk, vs, n, _, rfl, fr_out (x := Str.ofString "code") (fun z hz => if_neg hz) (by k_asm), fun p hp => hN p ?_, ?_⟩
          · rcases List.mem_cons.mp hp with rfl | hp
            · exact .head _
            · rw [List.mem_singleton.mp hp]; exact .tail _ (.head _)
          · rw [hsplit, hk61, rowOf_append _ _ h61]
            simpa [rowOf] using hvs
        · have hk61 : k ≠ 61 := by assumption
          refine InvEndN.intro (nx := [(D2, listOf vs.toArray n), (d, o)]) hF hN ⟨⟨vs, n, rfl, ?_, ?_⟩, fun z hz => if_neg hz⟩ rfl (fun q hq => ?_) (fun q hq => ?_)
          · rw [htk, rowOf_append _ _ h61]
            simpa [rowOf, hk61, hw] using hvs
          · rw [htk]
            intro x hx
            rcases List.mem_append.mp hx with hx | hx
            · exact h61 x hx
            · rw [List.mem_singleton.mp hx]; exact hk61
          · rcases List.mem_cons.mp hq with rfl | hq
            · exact .head _
            · rw [List.mem_singleton.mp hq]; exact .tail _ (.head _)
          · exact .tail _ (.tail _ hq)
      · k_steps
        · have hk61 : k = 61 := by assumption
          refine ⟨rfl, h, tk, vs, n, _, rfl, fr_out (x := Str.ofString "code") (fun z hz => if_neg hz) (by k_asm), fun p hp => hN p ?_, ?_⟩
          · rcases List.mem_cons.mp hp with rfl | hp
            · exact .head _
            · rw [List.mem_singleton.mp hp]; exact .tail _ (.head _)
          · rw [hsplit, hk61, rowOf_append _ _ h61]
            simpa [rowOf] using hvs
        · have hk61 : k ≠ 61 := by assumption
          rename_i u1 h2 F2 N2
          rw [List.push_toArray] at N2
          refine InvEndN.intro (nx := [(D2, listOf (vs ++ [Value.int iw u1]).toArray (n + 1)), (d, o)]) F2 N2 ⟨⟨_, _, rfl, ?_, ?_⟩, fun z hz => if_neg hz⟩ rfl (fun q hq => ?_) (fun q hq => ?_)
          · rw [htk, rowOf_append _ _ h61]
            simpa [rowOf, hk61, hw] using hvs.append (.cons iw u1 .nil)
          · rw [htk]
            intro x hx
            rcases List.mem_append.mp hx with hx | hx
            · exact h61 x hx
            · rw [List.mem_singleton.mp hx]; exact hk61
          · rcases List.mem_cons.mp hq with rfl | hq
            · exact .head _
            · rw [List.mem_singleton.mp hq]; exact .tail _ (.head _)
          · exact .tail _ (.tail _ hq)
    · rintro u nw h tk ⟨vs, n, rfl, hvs, h61⟩ hF hN
      rw [List.take_length] at hvs
      exact ⟨rfl, h, tk, vs, n, u, rfl, hF, hN, hvs⟩
  · intro h5 tk5 vs n u F6 N6 hvs
    have hvl := hvs.length
    have hrl := rowOf_len ks
    dsimp only
    k_steps
    unfold Hold
    rename_i Df _ ltf _ _ _ _ _ _ _ _ hRg F7 N7 hk7
    obtain ⟨ltf1, ltf2⟩ := ltf
    have hRin := rowOf_in ks
    obtain ⟨R, hRe⟩ : ∃ R, rowOf ks = R := ⟨_, rfl⟩
    rw [hRe] at hvs hvl hrl hRg hRin
    k_dflt (refine loopL (range_src0 (c := 4) (by rfl) hRg (by decide) (by omega) (by decide)) F7 N7 (fun i nw => ∃ vs2 n2 Ls, nw = [(Df, listOf vs2.toArray n2), (D2, listOf vs.toArray n), (d, o)] ∧ BsAre vs2 Ls ∧ Ls.flatten = dec (R.take (4 * i)) ∧ Ls.length ≤ i) ⟨[], 0, [], rfl, .nil, rfl, Nat.le_refl _⟩ ?_ ?_)
    · rintro i v nw h tk own hi ⟨tv, rfl⟩ hadr hoff ⟨vs2, n2, Ls, rfl, hbs, hfl, hll⟩ hF hN
      k_fold
      simp only [List.cons_append, List.nil_append] at hN
      have h4i : 4 * i < R.length := lt4 hi
      have htk4 : (R.take (4 * i)).length = 4 * i := by rw [List.length_take, Nat.min_eq_left (Nat.le_of_lt h4i)]
      k_steps
      · rename_i hlt _ Dn ws _ F8 N8 hIn _ _ _
        have h41 : (List.take (min ((4 * i : Nat) + 4 : Int).toNat R.length - ((4 * i : Nat) : Int).toNat) (List.drop ((4 * i : Nat) : Int).toNat R)) = (R.drop (4 * i)).take 4 := by
          have e1 : ((4 * i : Nat) + 4 : Int).toNat = 4 * i + 4 := Int.toNat_natCast (4 * i + 4)
          rw [e1, Int.toNat_natCast]
          exact take_cut R (4 * i) 4
        rw [h41] at hIn
        have hdl : (R.drop (4 * i)).length = R.length - 4 * i := List.length_drop
        have htl : ((R.drop (4 * i)).take 4).length = min 4 (R.length - 4 * i) := by rw [List.length_take, hdl]
        k_dflt (refine use (by k_asm) (by k_asm) (by k_asm) (by k_asm) (group_octets_any _ ws _ hIn (fun x hx => hRin x (List.mem_of_mem_drop (List.mem_of_mem_take hx))) (by omega) (List.length_take_le _ _)) (by ktr_room) (by ktr_units) (N8.isList (.head _)) ?_)
        rintro v own2 h9 tk9 ⟨Dp, bq, tq, tsp, nq, rfl, rfl, hbq⟩ F9 N9 hne9
        dsimp only [List.nil_append, List.cons_append] at N9
        have hpf : Dp ≠ Df := hne9 _ (.head _) _ (.tail _ (.head _))
        have hpn : Dp ≠ Dn := hne9 _ (.head _) _ (.head _)
        dsimp only
        have hb2 := hbs.length
        k_steps
        rename_i h10 F10 N10
        rw [List.push_toArray] at N10
        refine InvEndN.intro (nx := [(Df, listOf (vs2 ++ [Value.bytes bq tq]).toArray (n2 + 1)), (D2, listOf vs.toArray n), (d, o)]) F10 N10 ⟨⟨_, _, Ls ++ [dec ((R.drop (4 * i)).take 4)], rfl, hbs.snoc hbq, ?_, ?_⟩, fun z hz => if_neg hz⟩ rfl (fun q hq => ?_) (fun q hq => ?_)
        · rw [List.flatten_append, hfl, take_step, dec_append i _ _ htk4]
          simp only [List.flatten_cons, List.flatten_nil, List.append_nil]
        · rw [List.length_append, List.length_singleton]; exact Nat.add_le_add_right hll 1
        · rcases List.mem_cons.mp hq with rfl | hq
          · exact .tail _ (.tail _ (.head _))
          · rcases List.mem_cons.mp hq with rfl | hq
            · exact .tail _ (.tail _ (.tail _ (.head _)))
            · rw [List.mem_singleton.mp hq]; exact .tail _ (.tail _ (.tail _ (.tail _ (.head _))))
        · exact .tail _ (.tail _ (.tail _ (.tail _ (.tail _ hq))))
      · have hone : (R.drop (4 * i)).length ≤ 1 := by rw [List.length_drop]; omega
        refine InvEndN.intro (nx := [(Df, listOf vs2.toArray n2), (D2, listOf vs.toArray n), (d, o)]) hF hN ⟨⟨vs2, n2, Ls, rfl, hbs, ?_, Nat.le_succ_of_le hll⟩, fun z hz => if_neg hz⟩ rfl (fun q hq => ?_) (fun q hq => ?_)
        · rw [take_step, dec_append i _ _ htk4, hfl]
          rw [show dec ((R.drop (4 * i)).take 4) = [] from ?_, List.append_nil]
          match hd : R.drop (4 * i), hone with
          | [], _ => rfl
          | [_], _ => rfl
        · rcases List.mem_cons.mp hq with rfl | hq
          · exact .head _
          · rcases List.mem_cons.mp hq with rfl | hq
            · exact .tail _ (.head _)
            · rw [List.mem_singleton.mp hq]; exact .tail _ (.tail _ (.head _))
        · exact .tail _ (.tail _ (.tail _ hq))
    · rintro u2 nw h tk ⟨vs2, n2, Ls, rfl, hbs, hfl, hll⟩ hF hN
      rw [List.take_of_length_le (ceil4 _)] at hfl
      dsimp only
      k_steps
      unfold Hold
      have hdl := dec_len _ R (Nat.le_refl _)
      refine bytes_join (ks := []) (by rfl) (hN.isList (.head _)) (fun o e => ?_) hbs ?_ ?_
      · have := (hN _ (.head _)).1
        rw [e] at this
        cases this
        exact ⟨rfl, rfl⟩
      · rw [jn_nil, hfl]; omega
      · intro b' t' k' hb'
        rw [jn_nil, hfl, ← hRe] at hb'
        exact MEnd.val hF ⟨_, _, rfl, hb'⟩
end
section
local macro_rules | `(tactic| walk_at "eval Call") => `(tactic| (k_here; (with_reducible show wpAny _ _ (eval (Expr.Call (Expr.Name _ _) _ [] _) _) _ _ _); k_dflt (refine Call_ ?_)))
section -- CE
theorem freshCE : True := by
  w_top off
  exact True.intro
theorem check_end_0 (b : Array UInt8) (tb : Tok) (p : Int) (tp tq : Tok) (ks : List Int) (hb : KBw.bInts b = ks) (hs : ks.length ≤ 1000) :
   Claim 2 131 [.bytes b tb, .int p tp, .int 0 tq] NoPre (Gives (fun v => v = .none)) := by
  unfold Claim; k_fill
  intro w p0 loose mean mg mb dp un gd fr s Q E hX hT hdp hun hpre hret
  (k_dflt (refine' enter ?k1 ?k2 ?k6 ?k7 ?k8 ?k9 ?kB ?kQ ?_ ?c2 ?c3 ?c4 ?c5; (case k1 => k_asm); (case k2 => k_asm); (case k6 => k_is); (case k7 => k_is); (case k8 => ktr_room); (case k9 => first | exact BindsTo.of_eq rfl | exact binds_K (by k_asm) rfl (by k_is) rfl rfl rfl); (case kQ => assumption); (case c5 => decide); (case kB => exact locs rfl); (case c2 => exact rfl); (case c3 => exact rfl); (case c4 => exact rfl); k_whole))
  intro g L1 h1 eg F1 N1 X1 T1
  dsimp only
  k_fold
  k_steps
  exact MEnd.val (by k_asm) rfl
theorem check_end_1 (b : Array UInt8) (tb : Tok) (p : Nat) (tp tq : Tok) (ks : List Int) (hb : KBw.bInts b = ks) (hs : ks.length ≤ 1000) (hl : ks.length = p + 4) :
   Claim 2 131 [.bytes b tb, .int (p : Int) tp, .int 1 tq] NoPre (Gives (fun v => v = .none)) := by
  unfold Claim; k_fill
  intro w p0 loose mean mg mb dp un gd fr s Q E hX hT hdp hun hpre hret
  (k_dflt (refine' enter ?k1 ?k2 ?k6 ?k7 ?k8 ?k9 ?kB ?kQ ?_ ?c2 ?c3 ?c4 ?c5; (case k1 => k_asm); (case k2 => k_asm); (case k6 => k_is); (case k7 => k_is); (case k8 => ktr_room); (case k9 => first | exact BindsTo.of_eq rfl | exact binds_K (by k_asm) rfl (by k_is) rfl rfl rfl); (case kQ => assumption); (case c5 => decide); (case kB => exact locs rfl); (case c2 => exact rfl); (case c3 => exact rfl); (case c4 => exact rfl); k_whole))
  intro g L1 h1 eg F1 N1 X1 T1
  dsimp only
  k_fold
  k_steps
  exact MEnd.val (by k_asm) rfl
theorem check_end_2 (b : Array UInt8) (tb : Tok) (p : Nat) (tp tq : Tok) (ks : List Int) (hb : KBw.bInts b = ks) (hs : ks.length ≤ 1000) (hl : ks.length = p + 4) (h3 : ks.getD (p + 3) 0 = 61) :
   Claim 2 131 [.bytes b tb, .int (p : Int) tp, .int 2 tq] NoPre (Gives (fun v => v = .none)) := by
  unfold Claim; k_fill
  intro w p0 loose mean mg mb dp un gd fr s Q E hX hT hdp hun hpre hret
  (k_dflt (refine' enter ?k1 ?k2 ?k6 ?k7 ?k8 ?k9 ?kB ?kQ ?_ ?c2 ?c3 ?c4 ?c5; (case k1 => k_asm); (case k2 => k_asm); (case k6 => k_is); (case k7 => k_is); (case k8 => ktr_room); (case k9 => first | exact BindsTo.of_eq rfl | exact binds_K (by k_asm) rfl (by k_is) rfl rfl rfl); (case kQ => assumption); (case c5 => decide); (case kB => exact locs rfl); (case c2 => exact rfl); (case c3 => exact rfl); (case c4 => exact rfl); k_whole))
  intro g L1 h1 eg F1 N1 X1 T1
  dsimp only
  k_fold
  k_steps
  k_dflt (refine use (by k_asm) (by k_asm) (by k_asm) (by k_asm) (is_pad_spec b tb _ _ ks (by omega) hb hs) (by ktr_room) (by ktr_units) True.intro ?_)
  rintro v own2 h4 tk4 ⟨rfl, hv⟩ F4 N4 hne4
  rw [show decide ((p : Int) + 3 < (ks.length : Int) ∧ ks.getD ((p : Int) + 3).toNat 0 = 61) = true from decide_eq_true ⟨by omega, by rw [show ((p : Int) + 3).toNat = p + 3 by omega]; exact h3⟩] at hv
  subst hv
  dsimp only
  k_steps
  exact MEnd.val (by k_asm) rfl
end
section -- SG4
local macro_rules | `(tactic| walk_at "mine dummy") => `(tactic| skip)
theorem freshSG4 : True := by
  w_top off
  exact True.intro
theorem TupIn.mk {ax : Addr} {its : Array Value} {news : List (Addr × Obj)} {k : Nat} (h : (ax, ({ cls := .type "tuple", data := .seq its k } : Obj)) ∈ news) : TupIn ax its news := ⟨k, h⟩
local macro_rules | `(tactic| lcg_src) => `(tactic| exact TupIn.mk (by k_mem))
local macro_rules | `(tactic| walk_at "exec Assign cons ListComp") => `(tactic| (k_here; k_dflt (refine Assign_ListComp_M (F₀ := by k_asm) (by rfl) (by with_unfolding_all rfl) (by with_unfolding_all rfl) (by decide) (by rfl) (by decide) (by rfl) (by rfl) (by rfl) ?_)))

theorem all_more {x : Int} {r : List Int} (h : 0 ≤ x ∧ x < 64) (hr : ∀ i ∈ r, 0 ≤ i ∧ i < 64) : ∀ i ∈ x :: r, 0 ≤ i ∧ i < 64 := fun i hi => by
  rcases List.mem_cons.mp hi with rfl | hi
  · exact h
  · exact hr i hi
theorem all_two {x y : Int} (hx : 0 ≤ x ∧ x < 64) (hy : 0 ≤ y ∧ y < 64) : ∀ i ∈ [x, y], 0 ≤ i ∧ i < 64 := all_more hx (all_more hy fun _ h => nomatch h)
theorem strict_group_all (b : Array UInt8) (tb : Tok) (ks : List Int) (hb : KBw.bInts b = ks) (hs : ks.length ≤ 1000) (p : Nat) (tp : Tok) (d : Addr) (x y : Int) (R : List Int) (hlen4 : p + 4 ≤ ks.length)
   (w1 : worth (ks.getD p 0) = some x) (w2 : worth (ks.getD (p + 1) 0) = some y)
   (rest : (R = [x, y] ∧ ks.length = p + 4 ∧ ks.getD (p + 2) 0 = 61 ∧ ks.getD (p + 3) 0 = 61 ∧ y % 16 = 0) ∨ (∃ z, worth (ks.getD (p + 2) 0) = some z ∧ ks.getD (p + 2) 0 ≠ 61 ∧ ((R = [x, y, z] ∧ ks.length = p + 4 ∧ ks.getD (p + 3) 0 = 61 ∧ z % 4 = 0) ∨ ∃ u, R = [x, y, z, u] ∧ worth (ks.getD (p + 3) 0) = some u ∧ ks.getD (p + 3) 0 ≠ 61))) :
   Claim 3 136 [.bytes b tb, .int (p : Int) tp, .ref d] (fun w h => WorthAt w h d) (Gives (IsB (dec R))) := by
  unfold Claim; k_fill
  intro w p0 loose mean mg mb dp un gd fr s Q E hX hT hdp hun hpre hret
  have a0 : (0 : Int) ≤ (p : Int) := Int.natCast_nonneg p
  have a1 : (0 : Int) ≤ (p : Int) + 1 := by omega
  have a2 : (0 : Int) ≤ (p : Int) + 2 := by omega
  have a3 : (0 : Int) ≤ (p : Int) + 3 := by omega
  have l0 : (p : Int) < (ks.length : Int) := by omega
  have l1 : (p : Int) + 1 < (ks.length : Int) := by omega
  have l2 : (p : Int) + 2 < (ks.length : Int) := by omega
  have l3 : (p : Int) + 3 < (ks.length : Int) := by omega
  have e0 : ((p : Int)).toNat = p := Int.toNat_natCast p
  have e1 : ((p : Int) + 1).toNat = p + 1 := Int.toNat_natCast (p + 1)
  have e2 : ((p : Int) + 2).toNat = p + 2 := Int.toNat_natCast (p + 2)
  have e3 : ((p : Int) + 3).toNat = p + 3 := Int.toNat_natCast (p + 3)
  have hx := worth_in w1
  have hy := worth_in w2
  (k_dflt (refine' enterC ?k1 ?k2 ?k6 ?k7 ?k8 ?k9 ?kB ?kD ?kQ ?_ ?c2 ?c3 ?c4; (case k1 => k_asm); (case k2 => k_asm); (case k6 => k_is); (case k7 => k_is); (case k8 => ktr_room); (case k9 => exact BindsTo.of_eq rfl); (case kQ => assumption); (case kB => exact rfl); (case kD => decide +kernel); (case c2 => exact rfl); (case c3 => exact rfl); (case c4 => exact rfl); k_whole))
  intro g L1 h1 tk1 cells eg F1 N1 Y1 X1 T1
  obtain ⟨o2, o3, hE, d1, d2⟩ := CellsAre.two Y1
  subst hE
  clear Y1
  rw [← eg] at hpre
  try dsimp only
  k_fold
  k_steps
  k_dflt (refine use (by k_asm) (by k_asm) (by k_asm) (by k_asm) (strict_number_spec b tb _ _ ks d x a0 hb hs l0 (by rw [e0]; exact w1)) (by ktr_room) (by ktr_units) (WorthAt.keep hpre (Fr.keep (by k_asm))) ?_)
  rintro _ _ h4 tk4 ⟨rfl, _, rfl⟩ F4 N4 hne4
  dsimp only [List.nil_append] at N4
  try dsimp only
  try k_fold
  k_steps
  k_dflt (refine use (by k_asm) (by k_asm) (by k_asm) (by k_asm) (strict_number_spec b tb _ _ ks d y a1 hb hs l1 (by rw [e1]; exact w2)) (by ktr_room) (by ktr_units) (WorthAt.keep hpre (Fr.keep (by k_asm))) ?_)
  rintro _ _ h4 tk4 ⟨rfl, _, rfl⟩ F4 N4 hne4
  dsimp only [List.nil_append] at N4
  try dsimp only
  try k_fold
  k_steps
  k_dflt (refine use (by k_asm) (by k_asm) (by k_asm) (by k_asm) (is_pad_spec b tb _ _ ks a2 hb hs) (by ktr_room) (by ktr_units) True.intro ?_)
  rintro v own2 h4 tk4 ⟨rfl, hv⟩ F4 N4 hne4
  rcases rest with ⟨rfl, hlen, n3, n4, hsp⟩ | ⟨z, w3, n3, rest⟩
  · rw [show decide ((p : Int) + 2 < (ks.length : Int) ∧ ks.getD ((p : Int) + 2).toNat 0 = 61) = true from decide_eq_true ⟨l2, by rw [e2]; exact n3⟩] at hv
    subst hv
    dsimp only [List.nil_append] at N4
    try dsimp only
    try k_fold
    k_steps
    have hin : ∀ i ∈ [x, y], 0 ≤ i ∧ i < 64 := all_two hx hy
    k_dflt (refine use (by k_asm) (by k_asm) (by k_asm) (by k_asm) (group_octets_any _ _ [x, y] (.cons _ _ (.cons _ _ .nil)) hin (Nat.le_of_ble_eq_true rfl) (Nat.le_of_ble_eq_true rfl)) (by ktr_room) (by ktr_units) (News.isList (by k_asm) (by k_mem)) ?_)
    rintro v own2 h9 tk9 ⟨Dp, bq, tq, tsp, nq, rfl, rfl, hbq⟩ F9 N9 hne9
    dsimp only [List.nil_append, List.cons_append, spareOf] at N9
    try dsimp only
    rw [hsp] at N9
    k_steps
    k_dflt (refine use (by k_asm) (by k_asm) (by k_asm) (by k_asm) (check_end_2 b tb p _ _ ks hb hs hlen n4) (by ktr_room) (by ktr_units) True.intro ?_)
    rintro v own2 h4 tk4 ⟨rfl, rfl⟩ F4 N4 hne4
    try dsimp only
    k_steps
    exact MEnd.val (by k_asm) ⟨_, _, rfl, hbq⟩
  · have hz := worth_in w3
    rw [show decide ((p : Int) + 2 < (ks.length : Int) ∧ ks.getD ((p : Int) + 2).toNat 0 = 61) = false from decide_eq_false fun hc => n3 (by have := hc.2; rwa [e2] at this)] at hv
    subst hv
    dsimp only [List.nil_append] at N4
    try dsimp only
    try k_fold
    k_steps
    k_dflt (refine use (by k_asm) (by k_asm) (by k_asm) (by k_asm) (strict_number_spec b tb _ _ ks d z a2 hb hs l2 (by rw [e2]; exact w3)) (by ktr_room) (by ktr_units) (WorthAt.keep hpre (Fr.keep (by k_asm))) ?_)
    rintro _ _ h4 tk4 ⟨rfl, _, rfl⟩ F4 N4 hne4
    dsimp only [List.nil_append] at N4
    try dsimp only
    try k_fold
    k_steps
    k_dflt (refine use (by k_asm) (by k_asm) (by k_asm) (by k_asm) (is_pad_spec b tb _ _ ks a3 hb hs) (by ktr_room) (by ktr_units) True.intro ?_)
    rintro v own2 h4 tk4 ⟨rfl, hv⟩ F4 N4 hne4
    rcases rest with ⟨rfl, hlen, n4, hsp⟩ | ⟨u, rfl, w4, n4⟩
    · rw [show decide ((p : Int) + 3 < (ks.length : Int) ∧ ks.getD ((p : Int) + 3).toNat 0 = 61) = true from decide_eq_true ⟨l3, by rw [e3]; exact n4⟩] at hv
      subst hv
      dsimp only [List.nil_append] at N4
      try dsimp only
      try k_fold
      k_steps
      have hin : ∀ i ∈ [x, y, z], 0 ≤ i ∧ i < 64 := all_more hx (all_two hy hz)
      k_dflt (refine use (by k_asm) (by k_asm) (by k_asm) (by k_asm) (group_octets_any _ _ [x, y, z] (.cons _ _ (.cons _ _ (.cons _ _ .nil))) hin (Nat.le_of_ble_eq_true rfl) (Nat.le_of_ble_eq_true rfl)) (by ktr_room) (by ktr_units) (News.isList (by k_asm) (by k_mem)) ?_)
      rintro v own2 h9 tk9 ⟨Dp, bq, tq, tsp, nq, rfl, rfl, hbq⟩ F9 N9 hne9
      dsimp only [List.nil_append, List.cons_append, spareOf] at N9
      try dsimp only
      rw [hsp] at N9
      k_steps
      k_dflt (refine use (by k_asm) (by k_asm) (by k_asm) (by k_asm) (check_end_1 b tb p _ _ ks hb hs hlen) (by ktr_room) (by ktr_units) True.intro ?_)
      rintro v own2 h4 tk4 ⟨rfl, rfl⟩ F4 N4 hne4
      try dsimp only
      k_steps
      exact MEnd.val (by k_asm) ⟨_, _, rfl, hbq⟩
    · rw [show decide ((p : Int) + 3 < (ks.length : Int) ∧ ks.getD ((p : Int) + 3).toNat 0 = 61) = false from decide_eq_false fun hc => n4 (by have := hc.2; rwa [e3] at this)] at hv
      subst hv
      dsimp only [List.nil_append] at N4
      try dsimp only
      try k_fold
      k_steps
      k_dflt (refine use (by k_asm) (by k_asm) (by k_asm) (by k_asm) (strict_number_spec b tb _ _ ks d u a3 hb hs l3 (by rw [e3]; exact w4)) (by ktr_room) (by ktr_units) (WorthAt.keep hpre (Fr.keep (by k_asm))) ?_)
      rintro _ _ h4 tk4 ⟨rfl, _, rfl⟩ F4 N4 hne4
      dsimp only [List.nil_append] at N4
      try dsimp only
      try k_fold
      k_steps
      have hin : ∀ i ∈ [x, y, z, u], 0 ≤ i ∧ i < 64 := all_more hx (all_more hy (all_two hz (worth_in w4)))
      k_dflt (refine use (by k_asm) (by k_asm) (by k_asm) (by k_asm) (group_octets_any _ _ [x, y, z, u] (.cons _ _ (.cons _ _ (.cons _ _ (.cons _ _ .nil)))) hin (Nat.le_of_ble_eq_true rfl) (Nat.le_of_ble_eq_true rfl)) (by ktr_room) (by ktr_units) (News.isList (by k_asm) (by k_mem)) ?_)
      rintro v own2 h9 tk9 ⟨Dp, bq, tq, tsp, nq, rfl, rfl, hbq⟩ F9 N9 hne9
      dsimp only [List.nil_append, List.cons_append, spareOf] at N9
      try dsimp only
      k_steps
      k_dflt (refine use (by k_asm) (by k_asm) (by k_asm) (by k_asm) (check_end_0 b tb _ _ _ ks hb hs) (by ktr_room) (by ktr_units) True.intro ?_)
      rintro v own2 h4 tk4 ⟨rfl, rfl⟩ F4 N4 hne4
      try dsimp only
      k_steps
      exact MEnd.val (by k_asm) ⟨_, _, rfl, hbq⟩
end
section -- SD
local macro_rules | `(tactic| lcg_src) => `(tactic| exact TupIn.mk (by k_mem))
theorem freshSD : True := by
  w_top off
  exact True.intro
def StrictOk (ks : List Int) (p : Nat) (R : List Int) : Prop :=
  (∃ x y z u, R = [x, y, z, u] ∧ p + 4 ≤ ks.length ∧ worth (ks.getD p 0) = some x ∧ worth (ks.getD (p + 1) 0) = some y ∧ worth (ks.getD (p + 2) 0) = some z ∧ worth (ks.getD (p + 3) 0) = some u ∧ ks.getD (p + 2) 0 ≠ 61 ∧ ks.getD (p + 3) 0 ≠ 61) ∨
  (∃ x y z, R = [x, y, z] ∧ ks.length = p + 4 ∧ worth (ks.getD p 0) = some x ∧ worth (ks.getD (p + 1) 0) = some y ∧ worth (ks.getD (p + 2) 0) = some z ∧ ks.getD (p + 2) 0 ≠ 61 ∧ ks.getD (p + 3) 0 = 61 ∧ z % 4 = 0) ∨
  (∃ x y, R = [x, y] ∧ ks.length = p + 4 ∧ worth (ks.getD p 0) = some x ∧ worth (ks.getD (p + 1) 0) = some y ∧ ks.getD (p + 2) 0 = 61 ∧ ks.getD (p + 3) 0 = 61 ∧ y % 16 = 0)
theorem strict_group_any (b : Array UInt8) (tb : Tok) (ks : List Int) (hb : KBw.bInts b = ks) (hs : ks.length ≤ 1000) (p : Nat) (tp : Tok) (d : Addr) (R : List Int) (h : StrictOk ks p R) :
   Claim 3 136 [.bytes b tb, .int (p : Int) tp, .ref d] (fun w h => WorthAt w h d) (Gives (IsB (dec R))) := by
  rcases h with ⟨x, y, z, u, rfl, h1, h2, h3, h4, h5, h6, h7⟩ | ⟨x, y, z, rfl, h1, h2, h3, h4, h5, h6, h7⟩ | ⟨x, y, rfl, h1, h2, h3, h4, h5, h6⟩
  · exact strict_group_all b tb ks hb hs p tp d x y _ h1 h2 h3 (.inr ⟨z, h4, h6, .inr ⟨u, rfl, h5, h7⟩⟩)
  · exact strict_group_all b tb ks hb hs p tp d x y _ (Nat.le_of_eq h1.symm) h2 h3 (.inr ⟨z, h4, h5, .inl ⟨rfl, h1, h6, h7⟩⟩)
  · exact strict_group_all b tb ks hb hs p tp d x y _ (Nat.le_of_eq h1.symm) h2 h3 (.inl ⟨rfl, h1, h4, h5, h6⟩)
theorem StrictOk.len {ks : List Int} {p : Nat} {R : List Int} (h : StrictOk ks p R) : R.length ≤ 4 := by
  rcases h with ⟨x, y, z, u, rfl, _⟩ | ⟨x, y, z, rfl, _⟩ | ⟨x, y, rfl, _⟩ <;> (simp only [List.length_cons, List.length_nil]; omega)
theorem strict_decoded_spec (b : Array UInt8) (tb : Tok) (ks : List Int) (hb : KBw.bInts b = ks) (n : Nat) (hn : ks.length = 4 * n) (hs : ks.length ≤ 1000) (Rf : Nat → List Int) (hok : ∀ i, i < n → StrictOk ks (4 * i) (Rf i)) :
   Claim 4 141 [.bytes b tb] NoPre (Gives (IsB ((List.range n).map fun i => dec (Rf i)).flatten)) := by
  unfold Claim; k_fill
  intro w p0 loose mean mg mb dp un gd fr s Q E hX hT hdp hun hpre hret
  (k_dflt (refine' enterC ?k1 ?k2 ?k6 ?k7 ?k8 ?k9 ?kB ?kD ?kQ ?_ ?c2 ?c3 ?c4; (case k1 => k_asm); (case k2 => k_asm); (case k6 => k_is); (case k7 => k_is); (case k8 => ktr_room); (case k9 => exact BindsTo.of_eq rfl); (case kQ => assumption); (case kB => exact rfl); (case kD => decide +kernel); (case c2 => exact rfl); (case c3 => exact rfl); (case c4 => exact rfl); k_whole))
  intro g L1 h1 tk1 cells eg F1 N1 Y1 X1 T1
  obtain ⟨o2, o3, hE, d1, d2⟩ := CellsAre.two Y1
  subst hE
  clear Y1
  try dsimp only
  k_fold
  k_steps
  k_dflt (refine use (by k_asm) (by k_asm) (by k_asm) (by k_asm) (worth_table_spec _ _ (by rfl)) (by ktr_room) (by ktr_units) True.intro ?_)
  rintro v own2 h4 tk4 ⟨d, o, rfl, rfl, hW⟩ F4 N4 hne4
  dsimp only [List.nil_append, List.cons_append] at N4
  have hd1 : d ≠ L1 + 1 + 1 := hne4 _ (.head _) _ (.head _)
  have hd2 : d ≠ L1 + 1 := hne4 _ (.head _) _ (.tail _ (.head _))
  try dsimp only
  k_steps
  rename_i h5 o4 F5 N5 d3 h6 tk6 tv1 tv2 tv3 hR F2 N2 hk2
  have hcnt : (ks.length + 4 - 1) / 4 = n := by omega
  k_dflt (refine SrcM.range0 (c := 4) (by rfl) F2 N2 hR (by decide) (by omega) (by decide) ?_)
  intro g1
  rw [hcnt]
  refine comp_ind (fun i ys nw => nw = [(d, o), (L1 + 1 + 1, o4), (L1 + 1, o3)] ∧ BsAre ys ((List.range i).map fun j => dec (Rf j))) ⟨rfl, .nil⟩ ?_ ?_
  · rintro i ys nw v I oI C oC D m₂ h tk E' hi ⟨rfl, hys⟩ ⟨t9, rfl⟩ hC hx hF hN off ne
    have off' := off
    simp only [LCg.Off3, and_true] at off
    k_steps
    k_dflt (refine use (by k_asm) (by k_asm) (by k_asm) (by k_asm) (strict_group_any b tb ks hb hs (4 * i) _ d (Rf i) (hok i hi)) (by ktr_room) (by ktr_units) (WorthObj.at hW (News.get (by k_asm) (by walk_at "mine mem"))) ?_)
    rintro v9 own2 h9 tk9 ⟨rfl, b9, t9, rfl, hb9⟩ F9 N9 hne9
    refine LCg.CompEnd.intro F9 N9 [(d, o), (L1 + 1 + 1, o4), (L1 + 1, o3)] (fun p hp => hp) off' trivial ⟨rfl, ?_⟩
    rw [List.range_succ, List.map_append]
    exact hys.snoc hb9
  · rintro ys nw ⟨rfl, hys⟩
    intro D2 h2 tk2 F3 N3 o3
    try dsimp only
    k_steps
    unfold Hold
    refine bytes_join (ks := []) (by rfl) (N3.isList (.head _)) (fun o e => ?_) hys ?_ ?_
    · have := (N3 _ (.head _)).1
      rw [e] at this
      cases this
      exact ⟨rfl, rfl⟩
    · rw [jn_nil]
      have hl : ∀ m, m ≤ n → ((List.range m).map fun j => dec (Rf j)).flatten.length ≤ 4 * m := by
        intro m
        induction m with
        | zero => intro _; simp
        | succ m ih =>
          intro hm
          have h1 := (hok m (by omega)).len
          have h2 := dec_len _ (Rf m) (Nat.le_refl _)
          have h3 := ih (by omega)
          rw [List.range_succ, List.map_append, List.flatten_append, List.length_append]
          simp only [List.map_cons, List.map_nil, List.flatten_cons, List.flatten_nil, List.append_nil]
          omega
      have := hl n (Nat.le_refl _)
      omega
    · intro b' t' k' hb'
      rw [jn_nil] at hb'
      exact MEnd.val F3 ⟨_, _, rfl, hb'⟩
end
section -- Chars
set_option autoImplicit false
def chars (ks : List Int) : Str := ⟨(ks.map Int.toNat).toArray⟩
theorem chars_append (a b : List Int) : chars a ++ chars b = chars (a ++ b) := by
  show (⟨(a.map Int.toNat).toArray ++ (b.map Int.toNat).toArray⟩ : Str) = ⟨((a ++ b).map Int.toNat).toArray⟩
  rw [List.append_toArray, List.map_append]
theorem join_chars (sep : List Int) : ∀ (Ls : List (List Int)), Str.join (chars sep) (Ls.map chars) = chars (jn sep Ls)
  | [] => rfl
  | [p] => by
    show chars p = chars (p ++ [])
    rw [List.append_nil]
  | p :: q :: r => by
    have ih := join_chars sep (q :: r)
    show chars p ++ chars sep ++ Str.join (chars sep) ((q :: r).map chars) = _
    rw [ih, chars_append, chars_append]
    congr 1
    show p ++ sep ++ (q ++ r.flatMap (sep ++ ·)) = p ++ (sep ++ q ++ r.flatMap (sep ++ ·))
    simp only [List.append_assoc]
theorem txt_join (sep : List Int) (Ls : List (List Int)) : PySem.Txt.join (chars sep) (Ls.map chars) = chars (jn sep Ls) := by
  show Builtin.Str.glued (chars sep) (Ls.map chars) = _
  rw [StrLaws.glued_eq_join, join_chars]
theorem item_sg {k : Int} (h0 : 0 ≤ k) (h1 : k < 64) : PySem.Txt.item (Str.ofString "ABCDEFGHIJKLMNOPQRSTUVWXYZabcdefghijklmnopqrstuvwxyz0123456789+/") k = chars [sg k] := by
  have H : ∀ j : Fin 64, PySem.Txt.item (Str.ofString "ABCDEFGHIJKLMNOPQRSTUVWXYZabcdefghijklmnopqrstuvwxyz0123456789+/") ((j.val : Nat) : Int) = chars [sg ((j.val : Nat) : Int)] := by decide +kernel
  have := H ⟨k.toNat, by omega⟩
  simp only [Int.toNat_of_nonneg h0] at this
  exact this
theorem chars_nil : Str.ofString "" = chars [] := by decide +kernel
theorem chars_len (a : List Int) : (chars a).length = a.length := by
  show ((a.map Int.toNat).toArray).size = _
  simp
theorem carried_snoc {vs : List Value} {ds : List PyData} {v : Value} {d : PyData} (h : CarriedAll vs ds) (hv : Carried v d) : CarriedAll (vs ++ [v]) (ds ++ [d]) := by
  induction h with
  | nil => exact .cons hv .nil
  | cons a _ ih => exact .cons a ih
theorem carried_sg {k r : Int} {t : Tok} (h0 : 0 ≤ r) (h1 : r < 64) (e : k = r) : Carried (.str (PySem.Txt.item (Str.ofString "ABCDEFGHIJKLMNOPQRSTUVWXYZabcdefghijklmnopqrstuvwxyz0123456789+/") k) t) (PyData.str (chars [sg r])) := by
  subst e
  rw [item_sg h0 h1]
  exact .str _ _
theorem flat_ones {α : Type} (f : α → Int) : ∀ (l : List α), jn [] (l.map fun j => [f j]) = l.map f := by
  intro l
  rw [jn_nil]
  induction l with
  | nil => rfl
  | cons a r ih => rw [List.map_cons, List.flatten_cons, ih]; rfl
end
section -- LR
local macro_rules | `(tactic| walk_at "CompEnd") => `(tactic| (k_here; (with_reducible rename Fr _ _ _ _ => lF'); (with_reducible rename News _ _ _ _ => lN'); refine LCg.CompEnd.intro lF' lN' _ (fun p hp => hp) (by assumption) trivial ?_))
local macro_rules | `(tactic| walk_at "call builtin:str.join") => `(tactic| (k_here; refine Hold.go ?_))
theorem freshLR : True := by
  w_top off
  exact True.intro
theorem law_row_spec (b : Array UInt8) (tb : Tok) (ks : List Int) (hb : KBw.bInts b = ks) (hs : ks.length ≤ 10) :
   Claim 1 153 [.bytes b tb] NoPre (Gives (IsS (chars (enc ks)))) := by
  unfold Claim; k_fill
  intro w p0 loose mean mg mb dp un gd fr s Q E hX hT hdp hun hpre hret
  (k_dflt (refine' enterC ?k1 ?k2 ?k6 ?k7 ?k8 ?k9 ?kB ?kD ?kQ ?_ ?c2 ?c3 ?c4; (case k1 => k_asm); (case k2 => k_asm); (case k6 => k_is); (case k7 => k_is); (case k8 => ktr_room); (case k9 => exact BindsTo.of_eq rfl); (case kQ => assumption); (case kB => exact rfl); (case kD => decide +kernel); (case c2 => exact rfl); (case c3 => exact rfl); (case c4 => exact rfl); k_whole))
  intro g L1 h1 tk1 cells eg F1 N1 Y1 X1 T1
  obtain ⟨o2, o3, hE, d1, d2⟩ := CellsAre.two Y1
  subst hE
  clear Y1
  try dsimp only
  k_fold
  k_steps
  unfold Hold
  rename_i h5 o5 F5 N5 d5
  k_dflt (refine loopL (bytes_src (by rfl) hb) F5 N5 (fun i nw => ∃ o t, nw = [(L1 + 1 + 1, o2), (L1 + 1, o)] ∧ o.data = Data.cell (some (Value.int (num (ks.take i)) t))) ⟨o5, _, rfl, d5⟩ ?_ ?_)
  · rintro i v nw h tk own hi ⟨k, t, hk, hk0, hk1, rfl⟩ hadr hoff ⟨o6, t6, rfl, d6⟩ hF hN
    k_fold
    simp only [List.cons_append, List.nil_append] at hN
    have htk : ks.take (i + 1) = ks.take i ++ [k] := by rw [List.take_add_one, hk]; rfl
    have hnb := num_bound _ (ks.take i) rfl fun x hx => KBw.ints_in (b := b) (by rw [hb]; exact List.mem_of_mem_take hx)
    k_steps
    rename_i h7 o7 F7 N7 d7
    refine InvEndN.intro (nx := [(L1 + 1 + 1, o2), (L1 + 1, o7)]) F7 N7 ⟨⟨o7, _, rfl, by rw [htk, num_snoc]; exact d7⟩, fun z hz => if_neg hz⟩ rfl (fun q hq => ?_) (fun q hq => ?_)
    · rcases List.mem_cons.mp hq with rfl | hq
      · exact .head _
      · rw [List.mem_singleton.mp hq]; exact .tail _ (.head _)
    · exact .tail _ (.tail _ hq)
  · rintro u nw h tk ⟨o6, t6, rfl, d6⟩ hF hN
    rw [List.take_length] at d6
    obtain ⟨hn0, hn1⟩ := num_bound _ ks rfl fun x hx => KBw.ints_in (b := b) (by rw [hb]; exact hx)
    have hn2 : num ks < 2 ^ 200 := num_small hs fun x hx => KBw.ints_in (b := b) (by rw [hb]; exact hx)
    have hf : (8 * (ks.length : Int) + 5).fdiv 6 = (((8 * ks.length + 5) / 6 : Nat) : Int) := by
      rw [Int.fdiv_eq_ediv_of_nonneg _ (by decide)]; exact cast_many _
    try dsimp only
    k_steps
    rename_i o6b d6b tk6 h7 o7 F7 N7 d7 h8 tk8 tv1 tv2 tv3 hR F2 N2 hk2
    rw [hf] at hR d6b
    have hT : num ks * 2 ^ (6 * (8 * (ks.length : Int) + 5).fdiv 6 - 8 * (ks.length : Int)).toNat = TT ks := by
      rw [hf]
      exact congrArg (fun e => num ks * 2 ^ e) (tn8 (many ks.length) ks.length)
    rw [hT] at d7
    have hT0 := TT_lt ks fun x hx => KBw.ints_in (b := b) (by rw [hb]; exact hx)
    have hmm : (8 * ks.length + 5) / 6 = many ks.length := rfl
    rw [hmm] at d6b hR hf
    have hmb : many ks.length ≤ 14 := many_le hs
    k_dflt (refine SrcM.range0 (c := 1) (by rfl) F2 N2 hR (by decide) (by omega) (by decide) ?_)
    intro g1
    rw [show (many ks.length + 1 - 1) / 1 = many ks.length from Nat.div_one _]
    refine comp_ind (fun i ys nw => nw = [(L1 + 1 + 1, o6b), (L1 + 1, o7)] ∧ CarriedAll ys ((List.range i).map fun j => PyData.str (chars [sg (TT ks / 64 ^ (many ks.length - 1 - j) % 64)]))) ⟨rfl, .nil⟩ ?_ ?_
    · rintro i ys nw v I oI C oC D m₂ h tk E' hi ⟨rfl, hys⟩ ⟨t9, rfl⟩ hC hx hF hN off ne
      clear ne
      have ed : 6 * (((many ks.length : Nat) : Int) - 1 - ((1 * i : Nat) : Int)) = ((6 * (many ks.length - 1 - i) : Nat) : Int) := by rw [Nat.one_mul, down hi]; rfl
      have en : 0 ≤ 6 * (((many ks.length : Nat) : Int) - 1 - ((1 * i : Nat) : Int)) := by rw [ed]; exact Int.natCast_nonneg _
      k_steps
      rw [List.range_succ, List.map_append]
      refine carried_snoc hys ?_
      refine carried_sg (r64 _).1 (r64 _).2 ?_
      rw [tn ed, Int.pow_mul]
      rfl
    · rintro ys nw ⟨rfl, hys⟩
      intro D2 h2 tk2 F3 N3 o3
      try dsimp only
      k_steps
      unfold Hold
      refine KT.join_1 (N3.isList (.head _)) hys (fun a _ => chars_len _) (by rw [List.length_range]; omega) ?_
      intro t' k' _
      have e : PySem.Txt.join (Str.ofString "") ((List.range (many ks.length)).map fun j => chars [sg (TT ks / 64 ^ (many ks.length - 1 - j) % 64)]) = chars (enc ks) := by
        have e1 : ((List.range (many ks.length)).map fun j => chars [sg (TT ks / 64 ^ (many ks.length - 1 - j) % 64)]) = ((List.range (many ks.length)).map fun j => [sg (TT ks / 64 ^ (many ks.length - 1 - j) % 64)]).map chars := by
          rw [List.map_map]; rfl
        rw [e1, chars_nil, txt_join, flat_ones, ← row_enc _ ks (Nat.le_refl _) (fun x hx => KBw.ints_in (b := b) (by rw [hb]; exact hx))]
        unfold rowL
        rw [List.map_map]
        rfl
      exact MEnd.val F3 ⟨_, by rw [e]⟩
end
section -- ENC1
open PySem.Builtin PySem.Builtin._codecs
set_option autoImplicit false
theorem codecArg_none (id f which : String) : Builtin.Str.codecArg id f which none = pure none := rfl
theorem codecArg_ascii (id f which : String) (u : Tok) : Builtin.Str.codecArg id f which (some (.str (Str.ofString "ascii") u)) = pure (some (Str.ofString "ascii")) := by
  have h1 : (Str.ofString "ascii").cps.any (· ≥ 128) = false := by decide +kernel
  have h2 : (Str.ofString "ascii").cps.contains 0 = false := by decide +kernel
  have h3 : Builtin.Str.strArg id f which (.str (Str.ofString "ascii") u) = pure (Str.ofString "ascii") := rfl
  unfold Builtin.Str.codecArg
  simp only [h3, pure_bind, h1, h2, Bool.false_eq_true, if_false]
theorem bindOptional_1 (v : Value) : Builtin.Str.bindOptional "str.encode" "encode" 0 ["encoding", "errors"] [v] [] = pure [some v, none] := by
  rfl
theorem encode_tree2 (x : Str) (t u : Tok) : «str.encode» ⟨[.str x t, .str (Str.ofString "ascii") u], []⟩ = (do ret (← encodeRoad "str.encode" (.str x t) x (Str.ofString "ascii") none)) := by
  unfold «str.encode»
  have h0 : Builtin.Str.strSelf ⟨[.str x t, .str (Str.ofString "ascii") u], []⟩ = pure (.str x t, x, [.str (Str.ofString "ascii") u]) := rfl
  simp only [h0, pure_bind, bindOptional_1, codecArg_ascii, codecArg_none]
  rfl
theorem encodeRoad_ascii (id : String) (self : Value) (x : Str) (errors : Option Str) : encodeRoad id self x (Str.ofString "ascii") errors = (do mkBytes (← encodeNarrow id asciiCodec errors self x)) := by
  first | rfl | (unfold encodeRoad; rfl) | (unfold encodeRoad; simp only []; rfl) | decide
theorem narrow_loop (a : Array Nat) (out : Array UInt8) : a.foldl (fun acc y => acc ++ (asciiCodec.bytesOf y).toArray) out = out ++ a.map (·.toUInt8) := by
  obtain ⟨l⟩ := a
  rw [List.foldl_toArray]
  induction l generalizing out with
  | nil => simp
  | cons c r ih =>
    rw [List.foldl_cons, ih]
    simp [asciiCodec]
theorem narrow_ascii (id : String) (self : Value) (x : Str) (h : ∀ c ∈ x.cps.toList, c < 128) (hl : x.cps.size ≤ sizeLine) : encodeNarrow id asciiCodec none self x = pure (x.cps.map (·.toUInt8)) := by
  unfold encodeNarrow
  dsimp only
  rw [Std.Legacy.Range.forIn_eq_forIn_range']
  have hex : x.cps.extract 0 x.cps.size = x.cps := by simp
  rcases Nat.eq_zero_or_pos x.cps.size with hn | hn
  · have hx : x.cps = #[] := Array.eq_empty_of_size_eq_zero hn
    have hr : x.length = 0 := hn
    have hsz : (Std.Legacy.Range.size [0:0]) = 0 := by simp [Std.Legacy.Range.size]
    rw [hr, hsz, List.range'_zero, List.forIn_nil, pure_bind, hx]
    simp
  · obtain ⟨n, hn⟩ : ∃ n, x.cps.size = n + 1 := ⟨x.cps.size - 1, by omega⟩
    have hr : x.length = n + 1 := hn
    obtain ⟨c, hc⟩ : ∃ c, x.cps[0]? = some c := ⟨x.cps[0], by simp⟩
    have hbadA : ∀ c ∈ x.cps.toList, asciiCodec.bad c = false := fun c hc => decide_eq_false (by have := h c hc; omega)
    have hbad : asciiCodec.bad c = false := hbadA c (by
      have := Array.mem_of_getElem? hc
      simpa using this)
    have hfind : (x.cps.findIdx? asciiCodec.bad) = none := by
      rw [Array.findIdx?_eq_none_iff]
      intro c hc
      exact hbadA c (by simpa using hc)
    have hlast : x.cps[0 + x.cps.size]? = none := by simp
    have hz : ¬ (#[] : Array UInt8).size > sizeLine := by simp
    rw [hr]
    have hsz : (Std.Legacy.Range.size [0:n+1]) = n + 1 := by simp [Std.Legacy.Range.size]
    rw [hsz, List.range'_succ, List.forIn_cons]
    rw [if_neg hz, hc]
    dsimp only
    rw [hbad, if_pos (by rfl), pure_bind]
    dsimp only
    rw [hex, hfind]
    dsimp only [Option.getD_none]
    rw [hex, narrow_loop, Array.empty_append]
    rcases n with _ | n
    · rw [List.range'_zero, List.forIn_nil, pure_bind]
    · rw [List.range'_succ, List.forIn_cons]
      have hl2 : ¬ (x.cps.map (·.toUInt8)).size > sizeLine := by rw [Array.size_map]; omega
      dsimp only
      rw [if_neg hl2, hlast]
      dsimp only
      rw [pure_bind]
      dsimp only
      rw [pure_bind]
end
section -- ENC2
open PySem.Builtin PySem.Builtin._codecs
set_option autoImplicit false
section
variable {prog : Program} {w : World} {A : Around} {E : Value → Shared → Prop} {s : Shared}
theorem chars_bytes (ks : List Int) (hk : ∀ k ∈ ks, 0 ≤ k ∧ k < 128) : KBw.bInts ((chars ks).cps.map (·.toUInt8)) = ks := by
  show (((ks.map Int.toNat).toArray.map (·.toUInt8)).toList.map fun b => (b.toNat : Int)) = ks
  rw [List.map_toArray, List.map_map, List.map_map]
  conv => rhs; rw [← List.map_id ks]
  refine List.map_congr_left fun k hk' => ?_
  have := hk k hk'
  show ((k.toNat.toUInt8).toNat : Int) = k
  rw [UInt8.toNat_ofNat']
  omega
theorem encode_ascii {ks : List Int} {t u : Tok} {Q : Value → Shared → Prop} (hk : ∀ k ∈ ks, 0 ≤ k ∧ k < 128) (hl : ks.length ≤ 16777216) (h : ∀ b t k, KBw.bInts b = ks → Q (.bytes b t) { s with toks := k }) :
    wpAny (model prog w) A (call (.builtin "str.encode") [.str (chars ks) t, .str (Str.ofString "ascii") u]) Q E s := by
  have hlen : (chars ks).cps.size ≤ sizeLine := by
    have := chars_len ks
    show (chars ks).length ≤ _
    rw [this, sizeLine_eq]; omega
  refine wpAny_call_entry F.slot_str_encode (typeIs_str s _ _) F.entry_str_encode ?_ (F.args_str_encode_2 _ _)
  rw [encode_tree2, encodeRoad_ascii, narrow_ascii _ _ _ ?_ hlen, pure_bind]
  · exact wpAny_bind (wpAny_mkBytes (wpAny_pure ⟨_, rfl, h _ _ _ (chars_bytes ks hk)⟩) (by rw [Array.size_map]; exact hlen))
  · intro c hc
    have : c ∈ ks.map Int.toNat := by simpa [chars] using hc
    obtain ⟨k, hk', rfl⟩ := List.mem_map.mp this
    have := hk k hk'
    omega
theorem getm_encode {M : Model} {x : Str} {t : Tok} {pl : Sem Bool} {Q : Value × List Value → Shared → Prop} (h : Q (.builtin "str.encode", [.str x t]) s) : wpAny M A (getMethod (.str x t) "encode" pl) Q E s := by
  with_reducible exact GM.of (.str x t) (typeIs_str _ _ _) F.slot_str_encode F.type_str_encode GM.noRef h
end
end
section -- ENC3
set_option autoImplicit false
theorem filt_range {α : Type} (l : List α) (a : Nat) : ∀ m, ((List.range m).map (a + ·)).filterMap (l[·]?) = (l.drop a).take m := by
  intro m
  induction m with
  | zero => rfl
  | succ m ih =>
    rw [List.range_succ, List.map_append, List.filterMap_append, ih, List.take_add_one, List.getElem?_drop]
    congr 1
theorem slice_chars (ks : List Int) (l u : Option Int) (a b : Nat) (hb : b ≤ ks.length) (e : Builtin.Str.strSliceIndices l u 1 ks.length = sliceRange a b 1) : PySem.Txt.slice (chars ks) l u = chars ((ks.drop a).take (b - a)) := by
  have hl := chars_len ks
  unfold PySem.Txt.slice
  rw [hl, e, sliceRange_one]
  have hf : ((List.range (b - a)).map (a + ·)).filterMap ((chars ks).cps[·]?) = ((ks.drop a).take (b - a)).map Int.toNat := by
    have h1 : (fun i : Nat => (chars ks).cps[i]?) = fun i : Nat => (ks.map Int.toNat)[i]? := by
      funext i
      show ((ks.map Int.toNat).toArray)[i]? = _
      simp
    rw [show ((List.range (b - a)).map (a + ·)).filterMap ((chars ks).cps[·]?) = ((List.range (b - a)).map (a + ·)).filterMap ((ks.map Int.toNat)[·]?) from congrArg (fun f => List.filterMap f _) h1, filt_range, List.map_take, List.map_drop]
  rw [hf]
  split
  · rename_i h
    simp only [List.length_map, List.length_range, beq_self_eq_true, Bool.true_and, beq_iff_eq] at h
    have ha : a = 0 ∨ ks.length = 0 := by omega
    rcases ha with ha | ha
    · subst ha
      rw [List.drop_zero, List.take_of_length_le (by omega)]
    · have : ks = [] := List.length_eq_zero_iff.mp ha
      subst this; simp
  · rfl
theorem slice_chars_ss (ks : List Int) (a b : Nat) (ha : a ≤ ks.length) : PySem.Txt.slice (chars ks) (some (a : Int)) (some (b : Int)) = chars ((ks.drop a).take (b - a)) := by
  rcases Nat.le_total b ks.length with h | h
  · refine slice_chars ks _ _ a b h ?_
    unfold Builtin.Str.strSliceIndices
    simp only [show (1 : Int) > 0 by decide, if_true]
    congr 1
    · rw [if_neg (by omega)]; omega
    · rw [if_neg (by omega)]; omega
  · rw [slice_chars ks (some (a : Int)) (some (b : Int)) a ks.length (Nat.le_refl _) ?_, List.take_of_length_le (by rw [List.length_drop]; omega), List.take_of_length_le (by rw [List.length_drop]; omega)]
    unfold Builtin.Str.strSliceIndices
    simp only [show (1 : Int) > 0 by decide, if_true]
    congr 1
    · rw [if_neg (by omega)]; omega
    · rw [if_neg (by omega)]; omega
theorem slice_chars_ns (ks : List Int) (b : Nat) (hb : b ≤ ks.length) : PySem.Txt.slice (chars ks) none (some (b : Int)) = chars (ks.take b) := by
  rw [slice_chars ks none (some (b : Int)) 0 b hb ?_]
  · rw [List.drop_zero]; rfl
  · unfold Builtin.Str.strSliceIndices
    simp only [show (1 : Int) > 0 by decide, if_true]
    congr 1
    rw [if_neg (by omega)]; omega
section
variable {prog : Program} {w : World} {A : Around} {E : Value → Shared → Prop} {s : Shared}
theorem len_chars {ks : List Int} {t : Tok} {Q : Value → Shared → Prop} (hl : ks.length ≤ 1000000) (h : Q (.int (ks.length : Int) (s.toks + 1)) { s with toks := s.toks + 1 + 1 }) : wpAny (model prog w) A (call (.builtin "len") [.str (chars ks) t]) Q E s := by
  have e := chars_len ks
  refine PyProof.Rows.len_str (by rw [e]; omega) ?_
  rw [e]; exact h
theorem add_chars {a b : List Int} {t u : Tok} {Q : Value → Shared → Prop} (hl : a.length + b.length ≤ 1000000) (h : ∀ t' tk, Q (.str (chars (a ++ b)) t') { s with toks := tk }) : wpAny (model prog w) A (binaryOp .Add (.str (chars a) t) (.str (chars b) u)) Q E s := by
  refine PyProof.Rows.add_str (fun t' tk => ?_) (by rw [chars_len, chars_len, sizeLine_eq]; omega)
  rw [chars_append]; exact h t' tk
theorem mul_pad {n : Int} {t u : Tok} {Q : Value → Shared → Prop} (h0 : 0 ≤ n) (h1 : n ≤ 3) (h : ∀ t' tk, Q (.str (chars (List.replicate n.toNat 61)) t') { s with toks := tk }) : wpAny (model prog w) A (binaryOp .Mult (.str (Str.ofString "=") t) (.int n u)) Q E s := by
  have H : ∀ k : Fin 4, PySem.Txt.mul (Str.ofString "=") ((k.val : Nat) : Int) = chars (List.replicate k.val 61) := by decide +kernel
  refine KXi.mul (n := 1) (by decide +kernel) (by decide) (by omega) (by omega) fun t' k _ _ => ?_
  have := H ⟨n.toNat, by omega⟩
  simp only [Int.toNat_of_nonneg h0] at this
  rw [this]; exact h t' k
end
end
section -- LW
set_option autoImplicit false
def InB (os : List Int) : Prop := ∀ x ∈ os, 0 ≤ x ∧ x < 256
theorem InB.snoc {os : List Int} {d : Int} (h : InB os) (h0 : 0 ≤ d) (h1 : d < 256) : InB (os ++ [d]) := fun x hx => by
  rcases List.mem_append.mp hx with hx | hx
  · exact h x hx
  · rw [List.mem_singleton.mp hx]; exact ⟨h0, h1⟩
theorem enc_many (os : List Int) (h : InB os) : (enc os).length = many os.length := by
  rw [← row_enc _ os (Nat.le_refl _) h, List.length_map]
  unfold rowL
  rw [List.length_map, List.length_range]
theorem pad_n : ∀ n : Nat, ((-(many n : Int)) % 4).toNat = (3 - n % 3) % 3
  | 0 => by decide
  | 1 => by decide
  | 2 => by decide
  | n + 3 => by
    have ih := pad_n n
    have e : (-((many n + 1 + 1 + 1 + 1 : Nat) : Int)) = -(many n : Int) + (-1) * 4 := by omega
    rw [many_3, e, Int.add_mul_emod_self_right, ih, Nat.add_mod_right]
theorem pad_eq (os : List Int) (h : InB os) : ((-((enc os).length : Int)).fmod 4).toNat = (3 - os.length % 3) % 3 := by
  rw [Int.fmod_eq_emod_of_nonneg _ (by decide), enc_many os h, pad_n]
theorem bytes_inj {b c : Array UInt8} (h : KBw.bInts b = KBw.bInts c) : b = c := by
  obtain ⟨l⟩ := b
  obtain ⟨r⟩ := c
  congr 1
  have h' : l.map (fun c => (c.toNat : Int)) = r.map (fun c => (c.toNat : Int)) := h
  exact (List.map_inj_right (fun a b (e : (a.toNat : Int) = (b.toNat : Int)) => UInt8.toNat_inj.mp (Int.ofNat.inj e))).mp h'
section
variable {prog : Program} {w : World} {A : Around} {E : Value → Shared → Prop} {s : Shared}
theorem ne_same {b c : Array UInt8} {ks : List Int} {t u : Tok} {Q : Value → Shared → Prop} (hb : KBw.bInts b = ks) (hc : KBw.bInts c = ks) (h : Q (.bool false) s) : wpAny (model prog w) A (compareOp .NotEq (.bytes b t) (.bytes c u)) Q E s := by
  have e : b = c := bytes_inj (hb.trans hc.symm)
  subst e
  refine ne_bytes ?_
  rw [show (b.toList != b.toList) = false by simp]
  exact h
theorem eq_same {b c : Array UInt8} {ks : List Int} {t u : Tok} {Q : Value → Shared → Prop} (hb : KBw.bInts b = ks) (hc : KBw.bInts c = ks) (h : Q (.bool true) s) : wpAny (model prog w) A (compareOp .Eq (.bytes b t) (.bytes c u)) Q E s := by
  have e : b = c := bytes_inj (hb.trans hc.symm)
  subst e
  refine eq_bytes ?_
  rw [show (b.toList == b.toList) = true by simp]
  exact h
theorem mul_pad' {l : Nat} {t u : Tok} {Q : Value → Shared → Prop} (h : ∀ t' tk, Q (.str (chars (List.replicate ((-(l : Int)).fmod 4).toNat 61)) t') { s with toks := tk }) : wpAny (model prog w) A (binaryOp .Mult (.str (Str.ofString "=") t) (.int ((-(l : Int)).fmod 4) u)) Q E s :=
  mul_pad (fmod_lo _ (by decide)) (by have := fmod_hi (-(l : Int)) (show (0 : Int) < 4 by decide); omega) h
theorem add_whole {os : List Int} {t u : Tok} {Q : Value → Shared → Prop} (ho : InB os) (hl : os.length ≤ 10) (h : ∀ t' tk, Q (.str (chars (line os)) t') { s with toks := tk }) : wpAny (model prog w) A (binaryOp .Add (.str (chars (enc os)) t) (.str (chars (List.replicate ((-((enc os).length : Int)).fmod 4).toNat 61)) u)) Q E s := by
  have h1 := enc_many os ho
  refine add_chars ?_ fun t' tk => ?_
  · rw [List.length_replicate, pad_eq os ho, h1]; unfold many; omega
  · rw [pad_eq os ho]; exact h t' tk
end
theorem sg_ascii (i : Int) : 0 ≤ sg i ∧ sg i < 128 := by
  have H : ∀ x ∈ SG, (0 : Int) ≤ x ∧ x < 128 := by decide
  unfold sg
  rcases Nat.lt_or_ge i.toNat SG.length with h | h
  · rw [List.getD_eq_getElem?_getD, List.getElem?_eq_getElem h]
    exact H _ (List.getElem_mem h)
  · rw [List.getD_eq_getElem?_getD, List.getElem?_eq_none h]
    decide
theorem enc_ascii (os : List Int) (h : InB os) : ∀ k ∈ enc os, 0 ≤ k ∧ k < 128 := by
  rw [← row_enc _ os (Nat.le_refl _) h]
  intro k hk
  obtain ⟨i, _, rfl⟩ := List.mem_map.mp hk
  exact sg_ascii i
theorem line_ascii (os : List Int) (h : InB os) : ∀ k ∈ line os, 0 ≤ k ∧ k < 128 := by
  intro k hk
  rcases List.mem_append.mp hk with hk | hk
  · exact enc_ascii os h k hk
  · rw [(List.mem_replicate.mp hk).2]; decide
theorem line_small (os : List Int) (h : InB os) (hl : os.length ≤ 10) : (line os).length ≤ 16 := by
  unfold line
  rw [List.length_append, List.length_replicate, enc_many os h]
  unfold many; omega
end
section -- LW2
set_option autoImplicit false
def wrap (w : Nat) (ks : List Int) : List Int := if w = 0 then ks else jn [13, 10] (chunks w ks)
theorem encoded_any (b : Array UInt8) (tb tw : Tok) (ks : List Int) (n : Nat) (hb : KBw.bInts b = ks) (hs : ks.length ≤ 100) (hn2 : n ≤ 1000) :
   Claim 4 103 [.bytes b tb, .int (n : Int) tw] NoPre (Gives (IsB (wrap n (line ks)))) := by
  unfold wrap
  split
  · rename_i h; subst h; exact encoded_0 b tb tw ks hb hs
  · exact encoded_w b tb tw ks n hb hs (by omega) hn2
theorem in_lines_any (b : Array UInt8) (tb tw : Tok) (ks : List Int) (n : Nat) (hb : KBw.bInts b = ks) (hs : ks.length ≤ 1000) (hn2 : n ≤ 1000) :
   Claim 1 95 [.bytes b tb, .int (n : Int) tw] NoPre (Gives (IsB (wrap n ks))) := by
  unfold wrap
  split
  · rename_i h; subst h; exact in_lines_0 b tb tw ks hb
  · exact in_lines_w b tb tw ks n hb hs (by omega) hn2 (Nat.le_trans (jn_chunks_len n ks (by omega) hs hn2) (by decide))
theorem jn_mem (sep : List Int) (P : Int → Prop) (hs : ∀ k ∈ sep, P k) : ∀ (Ls : List (List Int)), (∀ l ∈ Ls, ∀ k ∈ l, P k) → ∀ k ∈ jn sep Ls, P k
  | [], _, k, h => by cases h
  | p :: r, hL, k, h => by
    have h' : k ∈ p ++ r.flatMap (sep ++ ·) := h
    rcases List.mem_append.mp h' with h' | h'
    · exact hL p (.head _) k h'
    · obtain ⟨q, hq, hk⟩ := List.mem_flatMap.mp h'
      rcases List.mem_append.mp hk with hk | hk
      · exact hs k hk
      · exact hL q (.tail _ hq) k hk
theorem wrap_mem (P : Int → Prop) (h13 : P 13) (h10 : P 10) (w : Nat) (ks : List Int) (h : ∀ k ∈ ks, P k) : ∀ k ∈ wrap w ks, P k := by
  unfold wrap
  split
  · exact h
  · refine jn_mem _ P (fun k hk => by simp only [List.mem_cons, List.not_mem_nil, or_false] at hk; rcases hk with rfl | rfl <;> assumption) _ fun l hl k hk => ?_
    obtain ⟨i, _, rfl⟩ := List.mem_map.mp hl
    exact h k (List.mem_of_mem_drop (List.mem_of_mem_take hk))
theorem wrap_len (w : Nat) (ks : List Int) (hw : w ≤ 1000) (h : ks.length ≤ 1000) : (wrap w ks).length ≤ 100000 := by
  unfold wrap
  split
  · omega
  · exact jn_chunks_len w ks (by omega) h hw
theorem strs_snoc {vs : List Value} {L : List Str} (h : StrsAre vs L) (y : Str) (t : Tok) : StrsAre (vs ++ [.str y t]) (L ++ [y]) := by
  induction h with
  | nil => exact .cons y t .nil
  | cons z u _ ih => exact .cons z u ih
section
variable {prog : Program} {w : World} {A : Around} {E : Value → Shared → Prop} {s : Shared}
theorem join_crlf {D : Addr} {ys : List Value} {Ls : List (List Int)} {t : Tok} {Q : Value → Shared → Prop} (hl : s.heap.IsList D ys.toArray) (hi : StrsAre ys (Ls.map chars)) (hz : (jn [13, 10] Ls).length ≤ 1000000)
    (h : ∀ t' k, Q (.str (chars (jn [13, 10] Ls)) t') { s with toks := k }) : wpAny (model prog w) A (call (.builtin "str.join") [.str (Str.ofString "\r\n") t, .ref D]) Q E s := by
  have e : Str.ofString "\r\n" = chars [13, 10] := by decide +kernel
  rw [e]
  have hm : ((Ls.map chars).map (·.length)) = Ls.map List.length := by
    rw [List.map_map]
    exact List.map_congr_left fun l _ => chars_len l
  refine join_list hl hi ?_ fun t' k => ?_
  · rw [hm, List.length_map, chars_len]
    match Ls, hz with
    | [], _ => decide
    | p :: r, hz =>
      rw [jn_length] at hz
      simp only [List.length_cons, List.length_nil] at hz ⊢
      omega
  · rw [txt_join]; exact h t' k
end
def LinesOut (g : Heap) (L : Addr) (m : Str → Option Value) (news : List (Addr × Obj)) (W : List Int) (s : Shared) (v : Value) (s' : Shared) : Prop :=
  ∃ D Ls ys n h' tk', v = .ref D ∧ s' = { s with heap := h', toks := tk' } ∧ Fr g L h' m ∧ News g L h' ((D, listOf (List.toArray ys) n) :: news) ∧ StrsAre ys (List.map chars Ls) ∧ jn [13, 10] Ls = W ∧ LCg.Off1 D news
theorem LinesOut.intro {g : Heap} {L : Addr} {m : Str → Option Value} {news : List (Addr × Obj)} {W : List Int} {s : Shared} {D : Addr} {ys : List Value} {n : Nat} {h' : Heap} {tk' : Nat} (Ls : List (List Int)) (F : Fr g L h' m) (N : News g L h' ((D, listOf (List.toArray ys) n) :: news)) (hi : StrsAre ys (List.map chars Ls)) (hj : jn [13, 10] Ls = W) (ho : LCg.Off1 D news) :
    LinesOut g L m news W s (.ref D) { s with heap := h', toks := tk' } := ⟨D, Ls, ys, n, h', tk', rfl, rfl, F, N, hi, hj, ho⟩
theorem cut_lines {M : Model} {A : Around} {E : Value → Shared → Prop} {t : Sem Value} {Q : Value → Shared → Prop} {g : Heap} {L : Addr} {m : Str → Option Value} {news : List (Addr × Obj)} {s : Shared} (W : List Int)
    (_F : Fr g L s.heap m) (_N : News g L s.heap news)
    (h1 : wpAny M A t (LinesOut g L m news W s) E s)
    (h2 : ∀ D Ls ys n h' tk', Fr g L h' m → News g L h' ((D, listOf (List.toArray ys) n) :: news) → StrsAre ys (List.map chars Ls) → jn [13, 10] Ls = W → LCg.Off1 D news → Q (.ref D) { s with heap := h', toks := tk' }) : wpAny M A t Q E s :=
  wpAny_mono h1 (fun v s' ⟨D, Ls, ys, n, h', tk', e, es, F, N, hi, hj, ho⟩ => by subst e es; exact h2 D Ls ys n h' tk' F N hi hj ho) fun _ _ e => e
theorem wrap_pos {w : Nat} (ks : List Int) (h : 0 < w) : jn [13, 10] (chunks w ks) = wrap w ks := by unfold wrap; rw [if_neg (by omega)]
theorem wrap_zero (ks : List Int) : jn [13, 10] [ks] = wrap 0 ks := by unfold wrap; show ks ++ [] = _; simp
end
section -- Draw2
set_option autoImplicit false
theorem useD {pn cl : Addr} {vs : List Value} {ns : List Int} {k z many : Int} {t1 t2 tm : Tok} {n : Nat} {gf : Obj → List (Addr × Obj)}
    {w : World} {p : Program} {loose : List Str} {mean : ExcName → Option Value} {mg mb : Str → Option Value} {dp un : Nat} {gd : Option (List Code)} {fr : Option (List Env)} {h₀ : Heap} {L : Addr} {m : Str → Option Value} {news : List (Addr × Obj)} {s : Shared} {Q E : Value → Shared → Prop}
    (F : Fr h₀ L s.heap m) (X : (hd.heap_39 w.params).In h₀) (N : News h₀ L s.heap news) (T : Top p loose mean mg mb h₀)
    (U : UpdF pn (penObj cl k z t1 t2 n) news gf) (hcl : s.heap.IsList cl vs.toArray) (hi : IntsAre vs ns) (hlen : ns.length ≤ 100) (hk0 : 0 ≤ k) (hk1 : k ≤ 1000) (hz0 : 0 ≤ z) (hz1 : z < 1000) (hm0 : 0 < many) (hm1 : many ≤ 1000) (hne : pn ≠ cl)
    (hdp : dp + 10 * 1 < recursionLimit) (hun : un + 100 * 1 < cLine)
    (ret : ∀ d td h' tk' t1' t2' n', 0 ≤ d → d < many → Fr h₀ L h' m → News h₀ L h' (gf (penObj cl (k + 1) z t1' t2' n')) → Q (.int d td) { s with heap := h', toks := tk' }) :
    wpAny (model PySem.Challenge.rw_nz0279_01.row.prog w) (ar dp un gd fr) (call (.ref 148) [.ref pn, .int many tm]) Q E s := by
  obtain ⟨pre, post, rfl, hgf, h1, h2⟩ := U.split
  have hp := N (pn, penObj cl k z t1 t2 n) (List.mem_append_right _ (.head _))
  refine draw_spec pn cl vs ns k z many t1 t2 tm n hi hlen hk0 hk1 hz0 hz1 hm0 hm1 hne w p loose mean mg mb dp un gd fr s Q E h₀ X T F.keep hp.2.2 hp.1 hcl hdp hun ?_
  rintro v s' ⟨h', tk', t1', t2', n', rfl, ⟨d, td, rfl, hd0, hd1⟩, keep, hpn'⟩
  have kept : ∀ b o, b ∉ [pn] → s.heap.get? b = some o → h'.get? b = some o := fun b o hb e => keep b o (hideAll_get _ e hb)
  refine ret d td h' tk' t1' t2' n' hd0 hd1 (LCg.fr_but F kept (fun e => hp.2.1 e.symm) hp.2.2) fun q hq => ?_
  rw [hgf] at hq
  rcases List.mem_append.mp hq with hq | hq
  · have z := N q (List.mem_append_left _ hq)
    exact ⟨kept _ _ (by simpa using h1 q hq) z.1, z.2⟩
  · rcases List.mem_cons.mp hq with rfl | hq
    · exact ⟨hpn', hp.2⟩
    · have z := N q (List.mem_append_right _ (.tail _ hq))
      exact ⟨kept _ _ (by simpa using h2 q hq) z.1, z.2⟩
end
section -- Pure4
set_option autoImplicit false
def dig : List Int → List Int
  | x :: y :: z :: r => x / 4 :: (x % 4 * 16 + y / 16) :: (y % 16 * 4 + z / 64) :: z % 64 :: dig r
  | [x, y] => [x / 4, x % 4 * 16 + y / 16, y % 16 * 4]
  | [x] => [x / 4, x % 4 * 16]
  | [] => []
theorem InB.tail3 {x y z : Int} {r : List Int} (h : InB (x :: y :: z :: r)) : InB r := fun k hk => h k (.tail _ (.tail _ (.tail _ hk)))
theorem enc_dig : ∀ (n : Nat) (os : List Int), os.length ≤ n → enc os = (dig os).map sg := by
  intro n
  induction n with
  | zero =>
    intro os h
    rw [len0 h]; rfl
  | succ n ih =>
    intro os h
    match os, h with
    | x :: y :: z :: r, h =>
      simp only [enc, dig, List.map_cons]
      rw [ih r (len3 h)]
    | [x, y], _ => rfl
    | [x], _ => rfl
    | [], _ => rfl
theorem dig_in : ∀ (n : Nat) (os : List Int), os.length ≤ n → InB os → ∀ k ∈ dig os, 0 ≤ k ∧ k < 64 := by
  intro n
  induction n with
  | zero =>
    intro os h _
    rw [len0 h]
    intro k hk; cases hk
  | succ n ih =>
    intro os h ho k hk
    match os, h, ho with
    | x :: y :: z :: r, h, ho =>
      simp only [dig, List.mem_cons] at hk
      rcases hk with rfl | rfl | rfl | rfl | hk
      · exact d4 (h0 ho)
      · exact s2 x (h1 ho)
      · exact s3 y (h2 ho)
      · exact r64 z
      · exact ih r (len3 h) ho.tail3 k hk
    | [x, y], _, ho =>
      simp only [dig, List.mem_cons, List.not_mem_nil, or_false] at hk
      rcases hk with rfl | rfl | rfl
      · exact d4 (h0 ho)
      · exact s2 x (h1 ho)
      · exact s3' y
    | [x], _, ho =>
      simp only [dig, List.mem_cons, List.not_mem_nil, or_false] at hk
      rcases hk with rfl | rfl
      · exact d4 (h0 ho)
      · exact s2' x
    | [], _, _ => simp [dig] at hk
theorem rowOf_sg : ∀ (l b : List Int), (∀ k ∈ l, 0 ≤ k ∧ k < 64) → rowOf (l.map sg ++ b) = l ++ rowOf b := by
  intro l
  induction l with
  | nil => intro b _; rfl
  | cons k r ih =>
    intro b h
    have hk := h k (.head _)
    rw [List.map_cons, List.cons_append, List.cons_append, ← ih b fun x hx => h x (.tail _ hx)]
    conv => lhs; unfold rowOf
    rw [if_neg (sg_ne k hk.1 hk.2), worth_sg hk.1 hk.2]
theorem dig_cut : ∀ (n : Nat) (os : List Int), os.length ≤ n → InB os → ∀ c, c ≤ (dig os).length → dec ((dig os).take c) = os.take (6 * c / 8) := by
  intro n
  induction n with
  | zero =>
    intro os h _ c hc
    rw [len0 h]
    simp [dig, dec]
  | succ n ih =>
    intro os h ho c hc
    match os, h, ho, hc with
    | x :: y :: z :: r, h, ho, hc =>
      have hx := h0 ho
      have hy := h1 ho
      have hz := h2 ho
      have e1 := q1 x hy
      have e2 := q2 x y hy hz
      have e3 := q3 y hz
      match c, hc with
      | 0, _ => rfl
      | 1, _ => rfl
      | 2, _ => show [_] = [_]; rw [e1]
      | 3, _ => show [_, _] = [_, _]; rw [e1, e2]
      | c + 4, hc =>
        have hc' : c ≤ (dig r).length := by simp only [dig, List.length_cons] at hc; omega
        have := ih r (len3 h) ho.tail3 c hc'
        simp only [dig, List.take_succ_cons, dec]
        rw [e1, e2, e3, this, show 6 * (c + 4) / 8 = 6 * c / 8 + 1 + 1 + 1 by omega]
        simp only [List.take_succ_cons]
    | [x, y], _, ho, hc =>
      have hx := h0 ho
      have hy := h1 ho
      have e1 := q1 x hy
      have e2 := q2' x y hy
      match c, hc with
      | 0, _ => rfl
      | 1, _ => rfl
      | 2, _ => show [_] = [_]; rw [e1]
      | 3, _ => show [_, _] = [_, _]; rw [e1, e2]
      | c + 4, hc => simp only [dig, List.length_cons, List.length_nil] at hc; omega
    | [x], _, ho, hc =>
      have hx := h0 ho
      have e1 := q1' x
      match c, hc with
      | 0, _ => rfl
      | 1, _ => rfl
      | 2, _ => show [_] = [_]; rw [e1]
      | c + 3, hc => simp only [dig, List.length_cons, List.length_nil] at hc; omega
    | [], _, _, hc => simp [dig, dec]
theorem dig_len (os : List Int) (h : InB os) : (dig os).length = many os.length := by
  rw [← enc_many os h, enc_dig _ os (Nat.le_refl _), List.length_map]
theorem rowOf_take (os : List Int) (h : InB os) (c : Nat) : rowOf ((enc os).take c) = (dig os).take c := by
  have := rowOf_sg ((dig os).take c) [] fun k hk => dig_in _ os (Nat.le_refl _) h k (List.mem_of_mem_take hk)
  rw [List.append_nil, List.map_take, ← enc_dig _ os (Nat.le_refl _)] at this
  rw [this]
  show _ ++ [] = _
  rw [List.append_nil]
theorem dec_cut (os : List Int) (h : InB os) (c : Nat) (hc : c ≤ (enc os).length) : dec (rowOf ((enc os).take c)) = os.take (6 * c / 8) := by
  rw [rowOf_take os h, dig_cut _ os (Nat.le_refl _) h c (by rw [dig_len os h, ← enc_many os h]; exact hc)]
theorem dig_dec (os : List Int) (h : InB os) : dec (dig os) = os := by
  have := dig_cut _ os (Nat.le_refl _) h _ (Nat.le_refl _)
  rw [List.take_length, dig_len os h, List.take_of_length_le (by unfold many; omega)] at this
  exact this
theorem dec_enc (os : List Int) (h : InB os) : dec (rowOf (enc os)) = os := by
  have := rowOf_take os h (enc os).length
  rw [List.take_length, enc_many os h, ← dig_len os h, List.take_length] at this
  rw [this, dig_dec os h]
theorem enc_ne (os : List Int) (h : InB os) : ∀ k ∈ enc os, k ≠ 61 := by
  intro k hk
  rw [enc_dig _ os (Nat.le_refl _)] at hk
  obtain ⟨i, hi, rfl⟩ := List.mem_map.mp hk
  have := dig_in _ os (Nat.le_refl _) h i hi
  exact sg_ne i this.1 this.2
theorem rowOf_pads : ∀ (m : Nat), rowOf (List.replicate m 61) = []
  | 0 => rfl
  | m + 1 => by rw [List.replicate_succ]; unfold rowOf; rw [if_pos rfl]
theorem dec_two (fs os : List Int) (hf : InB fs) (h : InB os) (n : Nat) (hn : fs.length = 3 * n) : dec (rowOf (line fs ++ [13, 10] ++ line os)) = fs ++ os := by
  have e1 : line fs = (dig fs).map sg := by
    unfold line
    rw [hn, show (3 - 3 * n % 3) % 3 = 0 by omega, List.replicate_zero, List.append_nil, enc_dig _ fs (Nat.le_refl _)]
  have e2 : rowOf (line os) = dig os := by
    unfold line
    rw [enc_dig _ os (Nat.le_refl _), rowOf_sg _ _ (dig_in _ os (Nat.le_refl _) h), rowOf_pads, List.append_nil]
  have e3 : rowOf ([13, 10] ++ line os) = rowOf (line os) := by
    show rowOf (13 :: 10 :: line os) = _
    have w1 : worth 13 = none := by decide
    have w2 : worth 10 = none := by decide
    conv => lhs; unfold rowOf
    rw [if_neg (by decide), w1]
    show rowOf (10 :: line os) = _
    conv => lhs; unfold rowOf
    rw [if_neg (by decide), w2]
  have hl : (dig fs).length = 4 * n := by rw [dig_len fs hf, hn]; unfold many; omega
  rw [List.append_assoc, e1, rowOf_sg _ _ (dig_in _ fs (Nat.le_refl _) hf), e3, e2, dec_append n _ _ hl, dig_dec fs hf, dig_dec os h]
theorem StrictOk.shift {a b c d : Int} {l R : List Int} {p : Nat} (h : StrictOk l p R) : StrictOk (a :: b :: c :: d :: l) (p + 4) R := by
  rcases h with ⟨x, y, z, u, rfl, h1, h2⟩ | ⟨x, y, z, rfl, h1, h2⟩ | ⟨x, y, rfl, h1, h2⟩
  · exact .inl ⟨x, y, z, u, rfl, Nat.add_le_add_right h1 4, h2⟩
  · exact .inr (.inl ⟨x, y, z, rfl, congrArg (· + 4) h1, h2⟩)
  · exact .inr (.inr ⟨x, y, rfl, congrArg (· + 4) h1, h2⟩)
theorem strict_any : ∀ (m : Nat) (os : List Int), os.length ≤ m → InB os → ∃ (n : Nat) (Rf : Nat → List Int), (line os).length = 4 * n ∧ (∀ i, i < n → StrictOk (line os) (4 * i) (Rf i)) ∧ ((List.range n).map fun i => dec (Rf i)).flatten = os := by
  intro m
  induction m with
  | zero =>
    intro os h _
    rw [len0 h]
    exact ⟨0, fun _ => [], rfl, fun i hi => absurd hi (Nat.not_lt_zero i), rfl⟩
  | succ m ih =>
    intro os h ho
    match os, h, ho with
    | x :: y :: z :: r, h, ho =>
      have hx := h0 ho
      have hy := h1 ho
      have hz := h2 ho
      obtain ⟨n, Rf, hl, hok, hfl⟩ := ih r (len3 h) ho.tail3
      have e : line (x :: y :: z :: r) = sg (x / 4) :: sg (x % 4 * 16 + y / 16) :: sg (y % 16 * 4 + z / 64) :: sg (z % 64) :: line r := by
        unfold line
        simp only [enc, List.cons_append, List.length_cons]
        rw [show (r.length + 1 + 1 + 1) % 3 = r.length % 3 by omega]
      refine ⟨n + 1, fun i => match i with | 0 => [x / 4, x % 4 * 16 + y / 16, y % 16 * 4 + z / 64, z % 64] | i + 1 => Rf i, ?_, ?_, ?_⟩
      · rw [e]; simp only [List.length_cons, hl]; omega
      · intro i hi
        rw [e]
        match i, hi with
        | 0, _ =>
          have b1 := d4 hx
          have b2 := s2 x hy
          have b3 := s3 y hz
          have b4 := r64 z
          exact .inl ⟨_, _, _, _, rfl, Nat.le_add_left _ _, worth_sg b1.1 b1.2, worth_sg b2.1 b2.2, worth_sg b3.1 b3.2, worth_sg b4.1 b4.2, sg_ne _ b3.1 b3.2, sg_ne _ b4.1 b4.2⟩
        | i + 1, hi => exact (hok i (by omega)).shift
      · rw [List.range_succ_eq_map, List.map_cons, List.map_map, List.flatten_cons]
        have e1 := q1 x hy
        have e2 := q2 x y hy hz
        have e3 := q3 y hz
        show ([x / 4 * 4 + (x % 4 * 16 + y / 16) / 16, (x % 4 * 16 + y / 16) % 16 * 16 + (y % 16 * 4 + z / 64) / 4, (y % 16 * 4 + z / 64) % 4 * 64 + z % 64] ++ ((List.range n).map fun i => dec (Rf i)).flatten) = _
        rw [hfl, e1, e2, e3]; rfl
    | [x, y], _, ho =>
      have hx := h0 ho
      have hy := h1 ho
      refine ⟨1, fun _ => [x / 4, x % 4 * 16 + y / 16, y % 16 * 4], rfl, fun i hi => ?_, ?_⟩
      · rw [show i = 0 from Nat.lt_one_iff.mp hi]
        have b1 := d4 hx
        have b2 := s2 x hy
        have b3 := s3' y
        exact .inr (.inl ⟨_, _, _, rfl, rfl, worth_sg b1.1 b1.2, worth_sg b2.1 b2.2, worth_sg b3.1 b3.2, sg_ne _ b3.1 b3.2, rfl, Int.mul_emod_left _ _⟩)
      · show [x / 4 * 4 + (x % 4 * 16 + y / 16) / 16, (x % 4 * 16 + y / 16) % 16 * 16 + (y % 16 * 4) / 4] = _
        rw [q1 x hy, q2' x y hy]
    | [x], _, ho =>
      have hx := h0 ho
      refine ⟨1, fun _ => [x / 4, x % 4 * 16], rfl, fun i hi => ?_, ?_⟩
      · rw [show i = 0 from Nat.lt_one_iff.mp hi]
        have b1 := d4 hx
        have b2 := s2' x
        exact .inr (.inr ⟨_, _, rfl, rfl, worth_sg b1.1 b1.2, worth_sg b2.1 b2.2, rfl, rfl, Int.mul_emod_left _ _⟩)
      · show [x / 4 * 4 + (x % 4 * 16) / 16] = _
        rw [q1' x]
    | [], _, _ => exact ⟨0, fun _ => [], rfl, fun i hi => absurd hi (Nat.not_lt_zero i), rfl⟩
theorem strict_ok (os : List Int) (h : InB os) : ∃ (n : Nat) (Rf : Nat → List Int), (line os).length = 4 * n ∧ (∀ i, i < n → StrictOk (line os) (4 * i) (Rf i)) ∧ ((List.range n).map fun i => dec (Rf i)).flatten = os := strict_any _ os (Nat.le_refl _) h
end
section -- LW3
set_option autoImplicit false
theorem sign_at {ks : List Int} {i : Nat} {v : Value} (hk : ∀ k ∈ ks, 0 ≤ k ∧ k < 128) (h : SignAt (chars ks) i v) : ∃ k t, ks[i]? = some k ∧ 0 ≤ k ∧ k < 128 ∧ v = .str (chars [k]) t := by
  obtain ⟨c, u, hc, rfl⟩ := h
  have hc' : ((ks.map Int.toNat).toArray)[i]? = some c := hc
  rw [List.getElem?_toArray, List.getElem?_map] at hc'
  cases hi : ks[i]? with
  | none => rw [hi] at hc'; cases hc'
  | some k =>
    rw [hi] at hc'
    have e : k.toNat = c := Option.some.inj hc'
    have := hk k (List.mem_of_getElem? hi)
    refine ⟨k, u, rfl, this.1, this.2, ?_⟩
    subst e
    rfl
theorem chunk_slice {w i : Nat} {ks : List Int} (hw : 0 < w) (hi : i < (ks.length + w - 1) / w) : PySem.Txt.slice (chars ks) (some ((w * i : Nat) : Int)) (some (((w * i : Nat) : Int) + (w : Int))) = chars ((ks.drop (w * i)).take w) := by
  have h1 : (i + 1) * w ≤ ks.length + w - 1 := (Nat.le_div_iff_mul_le hw).mp hi
  rw [Nat.add_mul, Nat.one_mul, Nat.mul_comm] at h1
  rw [show ((w * i : Nat) : Int) + (w : Int) = ((w * i + w : Nat) : Int) by norm_cast, slice_chars_ss ks (w * i) (w * i + w) (by omega), Nat.add_sub_cancel_left]
theorem chunk_snoc {w i : Nat} {ks : List Int} {ys : List Value} {t : Tok} (hi : i < (ks.length + w - 1) / w) (h : StrsAre ys (((chunks w ks).take i).map chars)) :
    StrsAre (ys ++ [.str (chars ((ks.drop (w * i)).take w)) t]) (((chunks w ks).take (i + 1)).map chars) := by
  rw [chunks_take w ks i hi, List.map_append]
  exact strs_snoc h _ t
def Blank (m : Nat) (v : Value) : Prop := ∃ b t ks, v = .bytes b t ∧ KBw.bInts b = ks ∧ ks.length ≤ m ∧ ∀ x ∈ ks, x ≠ 61 ∧ worth x = none
def Tail (m : Nat) (v : Value) : Prop := ∃ b t ks, v = .bytes b t ∧ KBw.bInts b = ks ∧ ks.length ≤ m ∧ rowOf ks = []
theorem rowOf_blank : ∀ (m : List Int), (∀ x ∈ m, x ≠ 61 ∧ worth x = none) → rowOf m = []
  | [], _ => rfl
  | k :: r, h => by
    have hk := h k (.head _)
    unfold rowOf
    rw [if_neg hk.1, hk.2]
    exact rowOf_blank r fun x hx => h x (.tail _ hx)
theorem mix_step {os : List Int} (h : InB os) {i : Nat} {ks m : List Int} {sk : Int} (hrow : rowOf ks = rowOf ((enc os).take i)) (h61 : ∀ x ∈ ks, x ≠ 61) (hm : ∀ x ∈ m, x ≠ 61 ∧ worth x = none) (hsk : (enc os)[i]? = some sk) :
    rowOf (ks ++ m ++ [sk]) = rowOf ((enc os).take (i + 1)) ∧ ∀ x ∈ ks ++ m ++ [sk], x ≠ 61 := by
  have hne := enc_ne os h
  have h1 : ∀ x ∈ ks ++ m, x ≠ 61 := fun x hx => by
    rcases List.mem_append.mp hx with hx | hx
    · exact h61 x hx
    · exact (hm x hx).1
  have ht : (enc os).take (i + 1) = (enc os).take i ++ [sk] := by rw [List.take_add_one, hsk]; rfl
  refine ⟨?_, fun x hx => ?_⟩
  · rw [rowOf_append _ _ h1, rowOf_append _ _ h61, rowOf_blank m hm, List.append_nil, hrow, ht, rowOf_append _ _ fun x hx => hne x (List.mem_of_mem_take hx)]
  · rcases List.mem_append.mp hx with hx | hx
    · exact h1 x hx
    · rw [List.mem_singleton.mp hx]; exact hne sk (List.mem_of_getElem? hsk)
theorem mix_end {os ks m : List Int} (h : InB os) (hrow : rowOf ks = rowOf (enc os)) (h61 : ∀ x ∈ ks, x ≠ 61) (hm : rowOf m = []) : dec (rowOf (ks ++ m)) = os := by
  rw [rowOf_append _ _ h61, hm, List.append_nil, hrow, dec_enc os h]
theorem mem_cons_all {P : Addr × Obj → Prop} {p : Addr × Obj} {r : List (Addr × Obj)} (h : P p) (hr : ∀ q ∈ r, P q) : ∀ q ∈ p :: r, P q := fun q hq => by
  rcases List.mem_cons.mp hq with rfl | hq
  · exact h
  · exact hr q hq
section
variable {prog : Program} {w : World} {A : Around} {E : Value → Shared → Prop} {s : Shared}
theorem menu_any {P : Value → Prop} {value slice : PySem.Expr} {l : Addr} {vs : List Value} {k : Int} {u : Tok} {Q : Value → Shared → Prop} (hl : s.heap.IsList l vs.toArray) {n : Nat} (h0 : 0 ≤ k) (hn : vs.length = n) (h1 : k < (n : Int)) (hm : n ≤ 1000) (hP : ∀ v ∈ vs, P v) (h : ∀ v, P v → Q v s)
    (hs : subscripted slice false (.ref l) (.int k u) = operate [.ref l, .int k u] (getItem (.ref l) (.int k u)) := by with_unfolding_all rfl) :
    wpAny (model prog w) A (subscriptTail value slice (.ref l) (.int k u)) Q E s := by
  have hlt : k.toNat < vs.length := by omega
  have hx : vs[k.toNat]? = some (vs[k.toNat]) := List.getElem?_eq_getElem hlt
  exact tail_any hl.typeIs slot_list_getitem.lookup (wpAny_getItem_list hl h0 (by omega) (by simp) (h _ (hP _ (List.getElem_mem hlt)))) hs
end
theorem mix_start {p q p' q' : Addr × Obj} {R R' : List (Addr × Obj)} {pn DC : Addr} {k z : Int} {s1 s2 : Tok} {n : Nat} {os : List Int} {x : Option Value} {t : Tok} (hp : p = p') (hq : q = q') (hR : R = R') (h0 : 0 ≤ k) (h1 : k ≤ 20 + ((0 : Nat) : Int)) (hx : x = some (.bytes (List.toArray []) t)) :
    ∃ v, x = some v ∧ ∃ (k' : Int) (t1 t2 : Tok) (n' : Nat) (b : Array UInt8) (t' : Tok) (ks : List Int), p' :: q' :: (pn, listOf #[.ref DC, .int k s1, .int z s2] n) :: R' = p :: q :: (pn, listOf #[.ref DC, .int k' t1, .int z t2] n') :: R ∧ 0 ≤ k' ∧ k' ≤ 20 + ((0 : Nat) : Int) ∧ v = .bytes b t' ∧ KBw.bInts b = ks ∧ rowOf ks = rowOf ((enc os).take 0) ∧ (∀ x ∈ ks, x ≠ 61) ∧ ks.length ≤ 3 * 0 := by
  subst hp hq hR
  exact ⟨_, hx, k, s1, s2, n, _, t, [], rfl, h0, h1, rfl, rfl, rfl, (fun _ h => nomatch h), Nat.le_refl _⟩
theorem blank_lit {m : Nat} (b : Array UInt8) (t : Tok) (h : (((KBw.bInts b).all fun k => k != 61 && (worth k).isNone) && decide ((KBw.bInts b).length ≤ m)) = true) : Blank m (.bytes b t) := by
  rw [Bool.and_eq_true, decide_eq_true_eq, List.all_eq_true] at h
  refine ⟨b, t, _, rfl, rfl, h.2, fun x hx => ?_⟩
  have := h.1 x hx
  rw [Bool.and_eq_true, bne_iff_ne, Option.isNone_iff_eq_none] at this
  exact this
theorem tail_lit {m : Nat} (b : Array UInt8) (t : Tok) (h : (decide (rowOf (KBw.bInts b) = []) && decide ((KBw.bInts b).length ≤ m)) = true) : Tail m (.bytes b t) := by
  rw [Bool.and_eq_true, decide_eq_true_eq, decide_eq_true_eq] at h
  exact ⟨b, t, _, rfl, rfl, h.2, h.1⟩
theorem clip_take (ks : List Int) (n : Nat) : ks.take (clipAt ks.length (n : Int)) = ks.take n := by
  rw [clipAt_nat, List.take_eq_take_iff]; omega
theorem cut_eq (os : List Int) (c : Nat) : os.take (clipAt os.length ((6 * (c : Int)).fdiv 8)) = os.take (6 * c / 8) := by
  rw [show (6 * (c : Int)).fdiv 8 = ((6 * c / 8 : Nat) : Int) by rw [Int.fdiv_eq_ediv_of_nonneg _ (by decide)]; omega, clip_take]
theorem front_eq (os : List Int) : os.take (clipAt os.length (((os.length : Int)).fdiv 3 * 3)) = os.take (3 * (os.length / 3)) := by
  rw [show ((os.length : Int)).fdiv 3 * 3 = ((3 * (os.length / 3) : Nat) : Int) by rw [Int.fdiv_eq_ediv_of_nonneg _ (by decide)]; omega, clip_take]
theorem front_len (os : List Int) : (os.take (3 * (os.length / 3))).length = 3 * (os.length / 3) := by rw [List.length_take]; omega
theorem InB.take {os : List Int} (h : InB os) (n : Nat) : InB (os.take n) := fun k hk => h k (List.mem_of_mem_take hk)
theorem updF4 {pn : Addr} {o : Obj} {m p q : Addr × Obj} {R : List (Addr × Obj)} (h1 : m.1 ≠ pn) (h2 : p.1 ≠ pn) (h3 : q.1 ≠ pn) (h4 : ∀ x ∈ R, x.1 ≠ pn) : UpdF pn o (m :: p :: q :: (pn, o) :: R) (fun o' => m :: p :: q :: (pn, o') :: R) := .tail h1 (.tail h2 (.tail h3 (.head h4)))
theorem updF7 {pn : Addr} {o : Obj} {I C D : Addr} {oI oC oD : Obj} {m p q : Addr × Obj} {R : List (Addr × Obj)} (off : LCg.Off3 I C D (m :: p :: q :: (pn, o) :: R)) (h1 : m.1 ≠ pn) (h2 : p.1 ≠ pn) (h3 : q.1 ≠ pn) (h4 : ∀ x ∈ R, x.1 ≠ pn) : UpdF pn o ((I, oI) :: (C, oC) :: (D, oD) :: m :: p :: q :: (pn, o) :: R) (fun o' => (I, oI) :: (C, oC) :: (D, oD) :: m :: p :: q :: (pn, o') :: R) :=
  have h := off.mem (pn, o) (.tail _ (.tail _ (.tail _ (.head _))))
  .tail (Ne.symm h.1) (.tail (Ne.symm h.2.1) (.tail (Ne.symm h.2.2) (updF4 h1 h2 h3 h4)))
theorem all_app {P : Addr × Obj → Prop} {a b : List (Addr × Obj)} (h1 : ∀ x ∈ a, P x) (h2 : ∀ x ∈ b, P x) : ∀ x ∈ a ++ b, P x := fun x hx => by
  rcases List.mem_append.mp hx with hx | hx
  · exact h1 x hx
  · exact h2 x hx
theorem updF3 {pn : Addr} {o : Obj} {I C D : Addr} {oI oC oD : Obj} {R : List (Addr × Obj)} (off : LCg.Off3 I C D ((pn, o) :: R)) (h4 : ∀ x ∈ R, x.1 ≠ pn) : UpdF pn o ((I, oI) :: (C, oC) :: (D, oD) :: (pn, o) :: R) (fun o' => (I, oI) :: (C, oC) :: (D, oD) :: (pn, o') :: R) :=
  have h := off.mem (pn, o) (.head _)
  .tail (Ne.symm h.1) (.tail (Ne.symm h.2.1) (.tail (Ne.symm h.2.2) (.head h4)))
theorem all_same {pn : Addr} {R R' : List (Addr × Obj)} (h : ∀ x ∈ R, x.1 ≠ pn) (e : R'.map (·.1) = R.map (·.1)) : ∀ x ∈ R', x.1 ≠ pn := fun x hx => by
  have h1 : x.1 ∈ R'.map (·.1) := List.mem_map_of_mem hx
  rw [e] at h1
  obtain ⟨y, hy, e'⟩ := List.mem_map.mp h1
  rw [← e']; exact h y hy
theorem len_1000 {l : List Int} (h : l.length ≤ 14) : (l.length : Int) + 1 ≤ 1000 := by omega
theorem turn_1000 {k : Int} {i n : Nat} (h : k ≤ 60 + (i : Int)) (hi : i < n) (hn : (n : Int) < 4) : k ≤ 1000 := by omega
theorem turn_up {k : Int} {i : Nat} (h : k ≤ 60 + (i : Int)) : k + 1 ≤ 60 + ((i + 1 : Nat) : Int) := by omega
theorem len_app {a b : List Int} {m n r : Nat} (h1 : a.length ≤ m) (h2 : b.length ≤ n) (hr : m + n ≤ r) : (a ++ b).length ≤ r := by
  rw [List.length_append]; exact Nat.le_trans (Nat.add_le_add h1 h2) hr
theorem add_16M {a b : List Int} {m n : Nat} (h1 : a.length ≤ m) (h2 : b.length ≤ n) (hr : m + n ≤ 16777216) : a.length + b.length ≤ 16777216 := Nat.le_trans (Nat.add_le_add h1 h2) hr
theorem turn_a {k : Int} {i n : Nat} (h : k ≤ 1 + (i : Int)) (hi : i < n) (hn : (n : Int) < 11) : k ≤ 1000 := by omega
theorem turn_b {k : Int} {i : Nat} (h : k ≤ 1 + (i : Int)) : k + 1 ≤ 1 + ((i + 1 : Nat) : Int) := by omega
theorem turn_c {k : Int} {i n : Nat} (h : k ≤ 20 + (i : Int)) (hi : i < n) (hn : n ≤ 14) : k ≤ 1000 := by omega
theorem turn_d {k : Int} {i : Nat} (h : k ≤ 20 + (i : Int)) : k + 1 ≤ 20 + ((i + 1 : Nat) : Int) := by omega
theorem len_42 {a i n : Nat} (h : a ≤ 3 * i) (hi : i < n) (hn : n ≤ 14) : a ≤ 42 := by omega
theorem len_turn {a b : List Int} {x : Int} {i : Nat} (h : a.length ≤ 3 * i) (h2 : b.length ≤ 2) : (a ++ b ++ [x]).length ≤ 3 * (i + 1) := by
  rw [List.length_append, List.length_append, List.length_singleton, Nat.mul_succ]
  omega
end
section -- LAW
local macro_rules | `(tactic| walk_at "mine dummy") => `(tactic| skip)
local macro_rules | `(tactic| walk_at "mine dummy") => `(tactic| skip)
local macro_rules | `(tactic| walk_at "mine dummy") => `(tactic| skip)
theorem freshLAW : True := by
  w_top off
  exact True.intro
theorem grab {h₀ h : Heap} {L : Addr} {p : Addr × Obj} {rest : List (Addr × Obj)} (_N : News h₀ L h (p :: rest)) : ∃ r, r = rest := ⟨_, rfl⟩
local macro_rules | `(tactic| walk_at "call ref") => `(tactic| (k_here; (with_reducible show wpAny _ _ (call (Value.ref _) _) _ _ _); refine Hold.go ?_))
theorem grabZ {h₀ h : Heap} {L pn cl : Addr} {k z : Int} {t1 t2 : Tok} {n : Nat} {rest : List (Addr × Obj)} (_N : News h₀ L h ((pn, penObj cl k z t1 t2 n) :: rest)) : ∃ z' r, z' = z ∧ r = rest := ⟨_, _, rfl, rfl⟩
theorem ns_of {ys : List Value} {l : List Int} (_h : IntsAre ys (List.map (fun k' : Int => k'.fmod 1000003) (List.take 60 l))) : (List.map (fun k' : Int => k'.fmod 1000003) (List.take 60 l)).length ≤ 100 := by
  rw [List.length_map, List.length_take]; omega
local macro_rules | `(tactic| walk_at "call builtin:len") => `(tactic| (k_here; (with_reducible show wpAny _ _ (call (Value.builtin "len") [Value.str (chars _) _]) _ _ _); (with_reducible refine len_chars (by omega) ?_)))
local macro_rules | `(tactic| walk_at "binaryOp Mult str int") => `(tactic| (k_here; (refine mul_pad' ?_); intro _ _))
local macro_rules | `(tactic| walk_at "binaryOp Add str str") => `(tactic| (k_here; (refine add_whole (by assumption) (by omega) ?_); intro _ _))
local macro_rules | `(tactic| walk_at "getMethod str") => `(tactic| (k_here; with_reducible refine getm_encode ?_))
theorem grab3 {h₀ h : Heap} {L : Addr} {p q r : Addr × Obj} {rest : List (Addr × Obj)} (_N : News h₀ L h (p :: q :: r :: rest)) : ∃ P Q R, P = p ∧ Q = q ∧ R = rest := ⟨_, _, _, rfl, rfl, rfl⟩
local macro_rules | `(tactic| walk_at "mine all") => `(tactic| first | (refine mem_cons_all ?a ?b; (case a => k_ne); (case b => walk_at "mine all")) | (intro p hp; exact nomatch hp))
local macro_rules | `(tactic| walk_at "subscriptTail") => `(tactic| (k_here; (with_reducible show wpAny _ _ (subscriptTail (Expr.List _ _) _ (Value.ref _) (Value.int _ _)) _ _ _); refine Hold.go ?_))
theorem grab4 {h₀ h : Heap} {L : Addr} {p q r x : Addr × Obj} {rest : List (Addr × Obj)} (_N : News h₀ L h (p :: q :: r :: x :: rest)) : ∃ P Q R S, P = p ∧ Q = q ∧ R = r ∧ S = rest := ⟨_, _, _, _, rfl, rfl, rfl, rfl⟩
local macro_rules
  | `(tactic| walk_at "call type:bytes") => `(tactic| (k_here; refine Hold.go ?_))
  | `(tactic| walk_at "call builtin:str.encode") => `(tactic| (k_here; refine Hold.go ?_))
  | `(tactic| walk_at "call builtin:str.join") => `(tactic| (k_here; refine Hold.go ?_))
  | `(tactic| walk_at "compareOp NotEq bytes bytes") => `(tactic| (k_here; refine Hold.go ?_))
  | `(tactic| walk_at "compareOp Eq bytes bytes") => `(tactic| (k_here; refine Hold.go ?_))
  | `(tactic| walk_at "eval IfExp") => `(tactic| (k_here; refine Hold.go ?_))
  | `(tactic| walk_at "binaryOp Add bytes bytes") => `(tactic| (k_here; refine Hold.go ?_))
theorem law_holds : PySem.Challenge.rw_nz0279_01.Holds := by
  refine hd ?_
  k_go0
  all_goals (try k_fold)
  k_steps
  unfold Hold
  rename_i hq1 tkq wWhole wWidth wPen dWhole dWidth dPen X0 DA wsA hA1 hIA hCA hLA lA hk1A hk2A gA hI8 hL8 DC hA2 tkA oA hA3 tkB tB pn hA4 lB hA5 oP F1 N1 dP
  k_dflt (refine useD (by k_asm) (by k_asm) (by k_asm) (by k_asm) (by k_updF) (News.isList (by k_asm) (by k_mem)) hI8 (by rw [List.length_map, List.length_take]; omega) (by decide) (by decide) (fmod_lo _ (by decide)) (Int.lt_of_lt_of_le (fmod_hi _ (by decide)) (by decide)) (by decide) (by decide) (by k_ne) (by ktr_room) (by ktr_units) ?_)
  intro d td h2 tk2 t1 t2 n1 hd0 hd1 F2 N2
  try dsimp only at N2
  obtain ⟨dn, rfl⟩ := Int.eq_ofNat_of_zero_le hd0
  k_steps
  rename_i h3 tk3 u1 u2 u3 hR F3 N3 hk3
  obtain ⟨z, rest, hz, hrest⟩ := grabZ N3
  have hz0 : 0 ≤ z := by rw [hz]; exact fmod_lo _ (by decide)
  have hz1 : z < 1000 := by rw [hz]; exact Int.lt_of_lt_of_le (fmod_hi _ (by decide)) (by decide)
  have hns := ns_of hI8
  have e4 : ∀ x ∈ rest, x.1 ≠ pn := by rw [hrest]; walk_at "mine all"
  have hPD : pn ≠ DC := by k_ne
  k_dflt (refine SrcM.range0 (c := 1) (by rfl) F3 N3 hR (by decide) (by omega) (by decide) ?_)
  intro g4
  rw [show (dn + 1 - 1) / 1 = dn by rw [Nat.add_sub_cancel, Nat.div_one]]
  refine comp_ind (fun i ys nw => ∃ (k : Int) (t1 t2 : Tok) (n : Nat) (os : List Int), nw = (pn, penObj DC k z t1 t2 n) :: rest ∧ 0 ≤ k ∧ k ≤ 1 + (i : Int) ∧ IntsAre ys os ∧ os.length = i ∧ InB os) ⟨0 + 1, t1, t2, n1, [], by rw [hz, hrest], by decide, by decide, .nil, rfl, fun _ h => nomatch h⟩ ?_ ?_
  · rintro i ys' nw v I oI C oC D m₂ h tk E' hi ⟨k, t1, t2, n, os, rfl, hk0, hk1, hos, hol, hob⟩ ⟨t9, rfl⟩ hC hx hF hN off ne
    subst hrest
    k_steps
    unfold Hold
    k_dflt (refine useD (by k_asm) (by k_asm) (by k_asm) (by k_asm) (updF3 off e4) (News.isList (by k_asm) (by k_mem)) hI8 hns hk0 (turn_a hk1 hi hd1) hz0 hz1 (by decide) (by decide) hPD (by ktr_room) (by ktr_units) ?_)
    intro d td h5 tk5 s1 s2 n5 hd0 hd1 F5 N5
    try dsimp only at N5
    refine LCg.CompEnd.intro F5 N5 ((pn, penObj DC (k + 1) z s1 s2 n5) :: _) (fun p hp => hp) ?_ trivial ⟨k + 1, s1, s2, n5, os ++ [d], rfl, Int.add_nonneg hk0 (by decide), turn_b hk1, hos.append (.cons d td .nil), by rw [List.length_append, hol]; rfl, hob.snoc hd0 hd1⟩
    exact off
  · rintro ys' nw ⟨k, t1, t2, n, os, rfl, hk0, hk1, hos, hol, hob⟩
    have hO : os.length ≤ 10 := by omega
    have hO2 : os.length ≤ 100 := Nat.le_trans hO (by decide)
    subst hrest
    intro D2 h6 tk6 F6 N6 o6
    have o6' := o6
    simp only [LCg.Off1, and_true] at o6'
    obtain ⟨oa, ob, oc, od, oe, of⟩ := o6'
    try dsimp only
    k_steps
    unfold Hold
    k_dflt (refine KBa.make_K F6 N6 (by rfl) (N6.isList (.head _)) hos hob (Nat.le_trans hO (by decide)) ?_)
    intro h7 t7 k7 F7 N7 in7
    have hoct := KBa.ints_make in7
    try dsimp only
    k_steps
    unfold Hold
    k_dflt (refine useD (by k_asm) (by k_asm) (by k_asm) (by k_asm) (.tail (Ne.symm o6.1) (.head e4)) (News.isList (by k_asm) (by k_mem)) hI8 hns hk0 (by omega) hz0 hz1 (by decide) (by decide) hPD (by ktr_room) (by ktr_units) ?_)
    intro wd twd h8 tk8 s1 s2 n8 hw0 hw1 F8 N8
    try dsimp only at N8
    obtain ⟨wn, rfl⟩ := Int.eq_ofNat_of_zero_le hw0
    have hW7 : wn < 7 := Int.ofNat_lt.mp hw1
    have hW : wn ≤ 1000 := Nat.le_trans (Nat.le_of_lt hW7) (by decide)
    try dsimp only
    k_steps
    unfold Hold
    k_dflt (refine use (by k_asm) (by k_asm) (by k_asm) (by k_asm) (law_row_spec _ _ os hoct hO) (by ktr_room) (by ktr_units) True.intro ?_)
    rintro v own9 h9 tk9 ⟨rfl, trow, rfl⟩ F9 N9 hne9
    dsimp only [List.nil_append] at N9
    have hel := enc_many os hob
    have hel2 : (enc os).length ≤ 14 := by rw [hel]; unfold many; omega
    have hll := line_small os hob hO
    have hl3 : (line os).length ≤ 1000 := Nat.le_trans hll (by decide)
    have hl4 : (line os).length ≤ 16777216 := Nat.le_trans hll (by decide)
    try dsimp only
    k_steps
    unfold Hold
    k_dflt (refine use (by k_asm) (by k_asm) (by k_asm) (by k_asm) (one_line_spec _ _ os hoct hO2) (by ktr_room) (by ktr_units) True.intro ?_)
    rintro v own10 h10 tk10 ⟨rfl, ob, otk, rfl, hob1⟩ F10 N10 hne10
    dsimp only [List.nil_append] at N10
    try dsimp only
    k_steps
    unfold Hold
    refine encode_ascii (line_ascii os hob) hl4 ?_
    intro eb et ek1 heb
    try dsimp only
    k_steps
    unfold Hold
    refine ne_same hob1 heb ?_
    try dsimp only
    k_steps
    unfold Hold
    refine encode_ascii (line_ascii os hob) hl4 ?_
    intro eb2 et2 ek2 heb2
    try dsimp only
    k_steps
    unfold Hold
    obtain ⟨sn, Rf, hsn, hsok, hsfl⟩ := strict_ok os hob
    k_dflt (refine use (by k_asm) (by k_asm) (by k_asm) (by k_asm) (strict_decoded_spec _ _ (line os) heb2 sn hsn hl3 Rf hsok) (by ktr_room) (by ktr_units) True.intro ?_)
    rw [hsfl]
    rintro v own11 h11 tk11 ⟨rfl, sb, stk, rfl, hsb⟩ F11 N11 hne11
    dsimp only [List.nil_append] at N11
    try dsimp only
    k_steps
    unfold Hold
    refine ne_same hsb hoct ?_
    try dsimp only
    k_steps
    unfold Hold
    k_dflt (refine cut_lines (wrap wn (line os)) F11 N11 ?_ ?_)
    · refine IfExp_ ?_
      k_steps
      · rename_i hwpos h31 tk31 v1 v2 v3 hR1 F31 N31 hk31
        have hwp : 0 < wn := by omega
        obtain ⟨rest1, hrest1⟩ : ∃ r : List (Addr × Obj), r = _ := ⟨_, rfl⟩
        k_dflt (refine SrcM.range0 (c := wn) (by rfl) F31 N31 hR1 hwp (Nat.le_trans hl3 (by decide)) (Nat.le_trans hW (by decide)) ?_)
        intro g31
        refine comp_ind (fun i ys nw => nw = rest1 ∧ StrsAre ys (((chunks wn (line os)).take i).map chars)) ⟨hrest1.symm, .nil⟩ ?_ ?_
        · rintro i ys9 nw v I oI C oC D m₂ h tk E' hi ⟨rfl, hys⟩ ⟨t9, rfl⟩ hC hx hF hN off ne
          subst hrest1
          k_steps
          k_dflt (refine slice_strN_ss (hsz := by rw [chars_len, sizeLine_eq]; omega) (s := ⟨_, _, _, _, _⟩) (by k_asm) (by k_asm) ?_)
          intro h5 t5 k5 F5 N5
          rw [chunk_slice hwp hi]
          exact LCg.CompEnd.intro F5 N5 _ (fun p hp => hp) off trivial ⟨rfl, chunk_snoc hi hys⟩
        · rintro ys9 nw ⟨rfl, hys⟩
          rw [List.take_of_length_le (by rw [chunks_len]; exact Nat.le_refl _)] at hys
          subst hrest1
          intro D9 h9 tk9 F9 N9 o9
          exact LinesOut.intro _ F9 N9 hys (wrap_pos _ hwp) o9
      · have hw00 : wn = 0 := by omega
        rw [hw00]
        exact LinesOut.intro [line os] (by k_asm) (by k_asm) (.cons _ _ .nil) (wrap_zero _) (by refine ⟨?_, ?_, ?_, ?_, ?_, ?_, ?_, trivial⟩ <;> k_ne)
    · intro DL Ls ysL nL h12 tk12 F12 N12 hiL hjL hoDL
      try dsimp only
      k_steps
      unfold Hold
      k_dflt (refine use (by k_asm) (by k_asm) (by k_asm) (by k_asm) (encoded_any _ _ _ os wn hoct hO2 hW) (by ktr_room) (by ktr_units) True.intro ?_)
      rintro v own13 h13 tk13 ⟨rfl, cb, ctk, rfl, hcb⟩ F13 N13 hne13
      dsimp only [List.nil_append] at N13
      try dsimp only
      k_steps
      unfold Hold
      have hwl := wrap_len wn (line os) hW hl3
      refine join_crlf (News.isList N13 (.head _)) hiL (by rw [hjL]; exact Nat.le_trans hwl (by decide)) ?_
      intro tj kj
      rw [hjL]
      try dsimp only
      k_steps
      unfold Hold
      refine encode_ascii (wrap_mem (fun k => 0 ≤ k ∧ k < 128) (by decide) (by decide) wn _ (line_ascii os hob)) (Nat.le_trans hwl (by decide)) ?_
      intro eb3 et3 ek3 heb3
      try dsimp only
      k_steps
      unfold Hold
      refine ne_same hcb heb3 ?_
      try dsimp only
      k_steps
      unfold Hold
      k_dflt (refine use (by k_asm) (by k_asm) (by k_asm) (by k_asm) (one_line_spec _ _ os hoct hO2) (by ktr_room) (by ktr_units) True.intro ?_)
      rintro v own14 h14 tk14 ⟨rfl, ob4, otk4, rfl, hob4⟩ F14 N14 hne14
      dsimp only [List.nil_append] at N14
      try dsimp only
      k_steps
      unfold Hold
      k_dflt (refine use (by k_asm) (by k_asm) (by k_asm) (by k_asm) (in_lines_any _ _ _ (line os) wn hob4 hl3 hW) (by ktr_room) (by ktr_units) True.intro ?_)
      rintro v own15 h15 tk15 ⟨rfl, ib, itk, rfl, hib⟩ F15 N15 hne15
      dsimp only [List.nil_append] at N15
      try dsimp only
      k_steps
      unfold Hold
      k_dflt (refine use (by k_asm) (by k_asm) (by k_asm) (by k_asm) (encoded_any _ _ _ os wn hoct hO2 hW) (by ktr_room) (by ktr_units) True.intro ?_)
      rintro v own16 h16 tk16 ⟨rfl, cb6, ctk6, rfl, hcb6⟩ F16 N16 hne16
      dsimp only [List.nil_append] at N16
      try dsimp only
      k_steps
      unfold Hold
      refine ne_same hib hcb6 ?_
      try dsimp only
      k_steps
      unfold Hold
      rename_i hm1 Fm Nm
      obtain ⟨p17, q17, R17, hp17, hq17, hR17⟩ := grab3 Nm
      have hea := enc_ascii os hob
      have e2 : p17.1 ≠ pn := by rw [hp17]; exact Ne.symm hoDL.2.1
      have e3 : q17.1 ≠ pn := by rw [hq17]; exact Ne.symm o6.1
      have e4 : ∀ x ∈ R17, x.1 ≠ pn := by rw [hR17]; exact all_same e4 rfl
      k_dflt (refine loopV (y := Str.ofString "mixed") (str_src (by rfl)) Fm Nm (by decide) (fun i a nw => ∃ (k : Int) (t1 t2 : Tok) (n : Nat) (b : Array UInt8) (t : Tok) (ks : List Int), nw = p17 :: q17 :: (pn, penObj DC k z t1 t2 n) :: R17 ∧ 0 ≤ k ∧ k ≤ 20 + (i : Int) ∧ a = .bytes b t ∧ KBw.bInts b = ks ∧ rowOf ks = rowOf ((enc os).take i) ∧ (∀ x ∈ ks, x ≠ 61) ∧ ks.length ≤ 3 * i) ?_ ?_ ?_)
      · have hk0' : 0 ≤ k + 1 := Int.add_nonneg hk0 (by decide)
        have hk1' : k + 1 ≤ 20 + ((0 : Nat) : Int) := by omega
        exact mix_start hp17 hq17 hR17 hk0' hk1' (if_pos rfl)
      · rintro i v a nw h tk own hi hv hadr hoff ⟨k, t1, t2, n, b, t, ks, rfl, hk0, hk1, rfl, hks, hrow, h61, hlen⟩ hF hN
        k_fold
        obtain ⟨sk, st, hsk, hsk0, hsk1, rfl⟩ := sign_at hea hv
        have hi' : i < (enc os).length := by rw [← chars_len]; exact hi
        have hL : ks.length ≤ 42 := len_42 hlen hi' hel2
        have hown : ∀ p ∈ own, p.1 ≠ pn := hoff.ne (.tail _ (.tail _ (.head _)))
        subst hp17 hq17 hR17
        simp only [List.cons_append, List.nil_append] at hN
        k_steps
        unfold Hold
        k_dflt (refine useD (by k_asm) (by k_asm) (by k_asm) (by k_asm) (.tail (by k_ne) (.tail e2 (.tail e3 (.head (all_app e4 hown))))) (News.isList (by k_asm) (by walk_at "mine mem")) hI8 hns hk0 (turn_c hk1 hi' hel2) hz0 hz1 (by decide) (by decide) hPD (by ktr_room) (by ktr_units) ?_)
        intro d td h5 tk5 s1' s2' n5 hd0 hd1 F5 N5
        try dsimp only at N5
        try dsimp only
        k_steps
        unfold Hold
        refine menu_any (P := Blank 2) (n := 5) (News.isList (by k_asm) (.head _)) hd0 rfl (by omega) (by decide) ?_ ?_
        · intro v hv
          simp only [List.mem_cons, List.not_mem_nil, or_false] at hv
          rcases hv with rfl | rfl | rfl | rfl | rfl
          all_goals exact blank_lit _ _ (by decide +kernel)
        · rintro v ⟨mb, mt, ms, rfl, hmb, hml, hms⟩
          try dsimp only
          k_steps
          unfold Hold
          refine KBa.add_K hks hmb (add_16M hL hml (by decide)) ?_
          intro t7 k7 hadd
          try dsimp only
          k_steps
          unfold Hold
          refine encode_ascii (ks := [sk]) (fun k hk => by rw [List.mem_singleton.mp hk]; exact ⟨hsk0, hsk1⟩) (by rw [List.length_singleton]; decide) ?_
          intro eb7 et7 ek7 heb7
          try dsimp only
          k_steps
          unfold Hold
          have hlm : (ks ++ ms).length ≤ 60 := len_app hL hml (by decide)
          refine KBa.add_K hadd heb7 (add_16M hlm (Nat.le_refl 1) (by decide)) ?_
          intro t8 k8 hadd8
          try dsimp only
          k_steps
          with_reducible rename Fr _ _ _ _ => F9
          with_reducible rename News _ _ _ _ => N9
          have hms2 := mix_step hob hrow h61 hms hsk
          refine InvEndN.intro F9 N9 ⟨⟨_, if_pos rfl, k + 1, s1', s2', n5, _, t8, _, rfl, Int.add_nonneg hk0 (by decide), turn_d hk1, rfl, hadd8, hms2.1, hms2.2, ?_⟩, fun z hz hz2 => ?_⟩ rfl (fun q hq => ?_) (fun q hq => ?_)
          · exact len_turn hlen hml
          · first | exact (if_neg hz2).trans (if_neg hz) | exact (if_neg hz2).trans ((if_neg hz).trans (if_neg hz2))
          · exact .tail _ (List.mem_append_left own hq)
          · repeat (first | exact hq | refine List.Mem.tail _ ?_)
      · rintro u a nw h tk ⟨k, t1, t2, n, b, t, ks, rfl, hk0, hk1, rfl, hks, hrow, h61, hlen⟩ hF hN
        have hsz : (chars (enc os)).cps.size = (enc os).length := chars_len _
        rw [hsz] at hk1 hrow hlen
        rw [List.take_length] at hrow
        have hK : k ≤ 34 := by omega
        have hL : ks.length ≤ 42 := by omega
        have hE : (enc os).length ≤ 14 := hel2
        clear hk1 hlen
        subst hp17 hq17 hR17
        try dsimp only
        k_steps
        unfold Hold
        k_dflt (refine useD (by k_asm) (by k_asm) (by k_asm) (by k_asm) (updF4 (by k_ne) e2 e3 e4) (News.isList (by k_asm) (by walk_at "mine mem")) hI8 hns hk0 (Int.le_trans hK (by decide)) hz0 hz1 (by decide) (by decide) hPD (by ktr_room) (by ktr_units) ?_)
        intro d td h5 tk5 s1' s2' n5 hd0 hd1 F5 N5
        try dsimp only at N5
        try dsimp only
        k_steps
        unfold Hold
        refine menu_any (P := Tail 10) (n := 4) (News.isList (by k_asm) (.head _)) hd0 rfl (by omega) (by decide) ?_ ?_
        · intro v hv
          simp only [List.mem_cons, List.not_mem_nil, or_false] at hv
          rcases hv with rfl | rfl | rfl | rfl
          all_goals exact tail_lit _ _ (by decide +kernel)
        · rintro v ⟨mb, mt, ms, rfl, hmb, hml, hms⟩
          try dsimp only
          k_steps
          unfold Hold
          refine KBa.add_K hks hmb (add_16M hL hml (by decide)) ?_
          intro t7 k7 hadd
          have hmix := mix_end hob hrow h61 hms
          have hmixl : (ks ++ ms).length ≤ 60 := len_app hL hml (by decide)
          try dsimp only
          k_steps
          unfold Hold
          k_dflt (refine use (by k_asm) (by k_asm) (by k_asm) (by k_asm) (decoded_spec _ _ (ks ++ ms) hadd (Nat.le_trans hmixl (by decide))) (by ktr_room) (by ktr_units) True.intro ?_)
          rw [hmix]
          rintro v own17 h17 tk17 ⟨rfl, db, dtk, rfl, hdb⟩ F17 N17 hne17
          dsimp only [List.nil_append] at N17
          try dsimp only
          k_steps
          unfold Hold
          refine ne_same hdb hoct ?_
          try dsimp only
          k_steps
          unfold Hold
          k_dflt (refine useD (by k_asm) (by k_asm) (by k_asm) (by k_asm) (updF4 (by k_ne) e2 e3 e4) (News.isList (by k_asm) (by walk_at "mine mem")) hI8 hns (Int.add_nonneg hk0 (by decide)) (Int.le_trans (Int.add_le_add_right hK 1) (by decide)) hz0 hz1 (Int.natCast_nonneg _ |> Int.lt_add_one_of_le) (len_1000 hE) hPD (by ktr_room) (by ktr_units) ?_)
          intro cd tcd h18 tk18 s3 s4 n18 hcd0 hcd1 F18 N18
          obtain ⟨cn, rfl⟩ := Int.eq_ofNat_of_zero_le hcd0
          try dsimp only at N18
          try dsimp only
          k_steps
          unfold Hold
          have hcn : cn ≤ (enc os).length := Int.ofNat_le.mp (Int.le_of_lt_add_one hcd1)
          rw [slice_chars_ns (enc os) cn hcn]
          refine encode_ascii (fun k hk => hea k (List.mem_of_mem_take hk)) (Nat.le_trans (List.length_take_le' _ _) (Nat.le_trans hE (by decide))) ?_
          intro eb19 et19 ek19 heb19
          have hct : ((enc os).take cn).length ≤ 60 := Nat.le_trans (List.length_take_le' _ _) (Nat.le_trans hE (by decide))
          have hcd := dec_cut os hob cn hcn
          try dsimp only
          k_steps
          unfold Hold
          k_dflt (refine use (by k_asm) (by k_asm) (by k_asm) (by k_asm) (decoded_spec _ _ ((enc os).take cn) heb19 (Nat.le_trans hct (by decide))) (by ktr_room) (by ktr_units) True.intro ?_)
          rw [hcd]
          rintro v own20 h20 tk20 ⟨rfl, db20, dtk20, rfl, hdb20⟩ F20 N20 hne20
          dsimp only [List.nil_append] at N20
          try dsimp only
          k_steps
          unfold Hold
          with_reducible rename KBw.bInts _ = _ => hcut
          rw [cut_eq] at hcut
          refine ne_same hdb20 hcut ?_
          try dsimp only
          k_steps
          unfold Hold
          k_dflt (refine useD (by k_asm) (by k_asm) (by k_asm) (by k_asm) (updF4 (by k_ne) e2 e3 e4) (News.isList (by k_asm) (by walk_at "mine mem")) hI8 hns (Int.add_nonneg (Int.add_nonneg hk0 (by decide)) (by decide)) (Int.le_trans (Int.add_le_add_right (Int.add_le_add_right hK 1) 1) (by decide)) hz0 hz1 (by decide) (by decide) hPD (by ktr_room) (by ktr_units) ?_)
          intro od tod h21 tk21 s5 s6 n21 hod0 hod1 F21 N21
          obtain ⟨on, rfl⟩ := Int.eq_ofNat_of_zero_le hod0
          try dsimp only at N21
          try dsimp only
          k_steps
          rename_i h22 tk22 v1 v2 v3 hR22 F22 N22 hk22
          obtain ⟨m22, p22, q22, R22, hm22, hp22, hq22, hRR⟩ := grab4 N22
          have e1 : m22.1 ≠ pn := by rw [hm22]; k_ne
          k_dflt (refine SrcM.range0 (c := 1) (by rfl) F22 N22 hR22 (by decide) (by omega) (by decide) ?_)
          intro g22
          rw [show (on + 1 - 1) / 1 = on by rw [Nat.add_sub_cancel, Nat.div_one]]
          refine comp_ind (fun i ys nw => ∃ (k' : Int) (t1 t2 : Tok) (n : Nat) (os2 : List Int), nw = m22 :: p22 :: q22 :: (pn, penObj DC k' z t1 t2 n) :: R22 ∧ 0 ≤ k' ∧ k' ≤ 60 + (i : Int) ∧ IntsAre ys os2 ∧ os2.length = i ∧ InB os2) ⟨k + 1 + 1 + 1, s5, s6, n21, [], by rw [hm22, hp22, hq22, hRR], Int.add_nonneg (Int.add_nonneg (Int.add_nonneg hk0 (by decide)) (by decide)) (by decide), Int.le_trans (Int.add_le_add_right (Int.add_le_add_right (Int.add_le_add_right hK 1) 1) 1) (by decide), .nil, rfl, fun _ h => nomatch h⟩ ?_ ?_
          · rintro i ys2 nw v I oI C oC D m₂ h tk E' hi ⟨k', t1, t2, n, os2, rfl, hk0', hk1', hos2, hol2, hob2⟩ ⟨t9, rfl⟩ hC hx hF hN off ne
            subst hm22 hp22 hq22 hRR
            k_steps
            unfold Hold
            k_dflt (refine useD (by k_asm) (by k_asm) (by k_asm) (by k_asm) (updF7 off e1 e2 e3 e4) (News.isList (by k_asm) (by k_mem)) hI8 hns hk0' (turn_1000 hk1' hi hod1) hz0 hz1 (by decide) (by decide) hPD (by ktr_room) (by ktr_units) ?_)
            intro d td h23 tk23 s7 s8 n23 hd0 hd1 F23 N23
            try dsimp only at N23
            refine LCg.CompEnd.intro F23 N23 (_ :: _ :: _ :: (pn, penObj DC (k' + 1) z s7 s8 n23) :: _) (fun p hp => hp) ?_ trivial ⟨k' + 1, s7, s8, n23, os2 ++ [d], rfl, Int.add_nonneg hk0' (by decide), turn_up hk1', hos2.append (.cons d td .nil), by rw [List.length_append, hol2]; rfl, hob2.snoc hd0 hd1⟩
            exact off
          · rintro ys2 nw ⟨k', t1, t2, n, os2, rfl, hk0', hk1', hos2, hol2, hob2⟩
            have hO3 : os2.length ≤ 10 := by rw [hol2]; exact Nat.le_trans (Nat.le_of_lt (Int.ofNat_lt.mp hod1)) (by decide)
            subst hm22 hp22 hq22 hRR
            intro D2' h24 tk24 F24 N24 o24
            try dsimp only
            k_steps
            unfold Hold
            simp only [LCg.Off1, and_true] at o24
            k_dflt (refine KBa.make_K F24 N24 (by rfl) (N24.isList (.head _)) hos2 hob2 (Nat.le_trans hO3 (by decide)) ?_)
            intro h25 t25 k25 F25 N25 in25
            have hoct2 := KBa.ints_make in25
            try dsimp only
            k_steps
            unfold Hold
            with_reducible rename KBw.bInts _ = _ => hfr
            rw [front_eq] at hfr
            have hfl := front_len os
            have hfb := hob.take (3 * (os.length / 3))
            obtain ⟨fs, hfs⟩ : ∃ fs, fs = os.take (3 * (os.length / 3)) := ⟨_, rfl⟩
            rw [← hfs] at hfr hfl hfb
            have hd2 := dec_two fs os2 hfb hob2 _ hfl
            have hf10 : fs.length ≤ 10 := by rw [hfs]; exact Nat.le_trans (List.length_take_le' _ _) hO
            have hl1 := line_small fs hfb hf10
            have hl2 := line_small os2 hob2 hO3
            k_dflt (refine use (by k_asm) (by k_asm) (by k_asm) (by k_asm) (encoded_0 _ _ _ fs hfr (Nat.le_trans hf10 (by decide))) (by ktr_room) (by ktr_units) True.intro ?_)
            rintro v own26 h26 tk26 ⟨rfl, eb26, etk26, rfl, heb26⟩ F26 N26 hne26
            dsimp only [List.nil_append] at N26
            try dsimp only
            k_steps
            unfold Hold
            have hcr : KBw.bInts (List.toArray [13, 10]) = [13, 10] := by decide +kernel
            refine KBa.add_K heb26 hcr (add_16M hl1 (Nat.le_refl 2) (by decide)) ?_
            intro t27 k27 hadd27
            try dsimp only
            k_steps
            unfold Hold
            k_dflt (refine use (by k_asm) (by k_asm) (by k_asm) (by k_asm) (encoded_0 _ _ _ os2 hoct2 (Nat.le_trans hO3 (by decide))) (by ktr_room) (by ktr_units) True.intro ?_)
            rintro v own28 h28 tk28 ⟨rfl, eb28, etk28, rfl, heb28⟩ F28 N28 hne28
            dsimp only [List.nil_append] at N28
            try dsimp only
            k_steps
            unfold Hold
            have hl3 : (line fs ++ [13, 10]).length ≤ 18 := len_app hl1 (Nat.le_refl 2) (by decide)
            have hl4 : (line fs ++ [13, 10] ++ line os2).length ≤ 40 := len_app hl3 hl2 (by decide)
            refine KBa.add_K hadd27 heb28 (add_16M hl3 hl2 (by decide)) ?_
            intro t29 k29 hadd29
            try dsimp only
            k_steps
            unfold Hold
            k_dflt (refine use (by k_asm) (by k_asm) (by k_asm) (by k_asm) (decoded_spec _ _ (line fs ++ [13, 10] ++ line os2) hadd29 (Nat.le_trans hl4 (by decide))) (by ktr_room) (by ktr_units) True.intro ?_)
            rw [hd2]
            rintro v own30 h30 tk30 ⟨rfl, db30, dtk30, rfl, hdb30⟩ F30 N30 hne30
            dsimp only [List.nil_append] at N30
            try dsimp only
            k_steps
            unfold Hold
            refine KBa.add_K hfr hoct2 (add_16M hf10 hO3 (by decide)) ?_
            intro t31 k31 hadd31
            try dsimp only
            k_steps
            unfold Hold
            refine eq_same hdb30 hadd31 ?_
            try dsimp only
            k_steps
end
end
end
end
end
end
end
end Mine
set_option maxRecDepth 100000 in
set_option maxHeartbeats 8000000 in
theorem PySem.Challenge.cw_nz0279_01_holds : PySem.Challenge.rw_nz0279_01.Holds := by
  exact Mine.law_holds
