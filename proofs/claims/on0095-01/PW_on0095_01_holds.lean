import PyProof.Rows.All
import Wide.All
import OpenK.AllK
import Wide.FinOn
import Lean
import PySem.Challenge.RW_on0095_01
open PySem PySem.W PySem.Spec PySem.Calls PyProof.Rows
set_option Elab.async false
set_option linter.all false
namespace Mine
set_option synthInstance.maxSize 1 in
set_option maxRecDepth 100000 in
set_option maxHeartbeats 8000000 in
open_top hd for PySem.Challenge.rw_on0095_01
set_option maxRecDepth 100000
set_option maxHeartbeats 4000000
section
/-! B0 -/
abbrev pg : Program := PySem.Challenge.rw_on0095_01.row.prog
/-- the tokens counted so far are any number -/
theorem tok_free {M : Model} {A : Around} {α : Type} {t : Sem α} {Q : α → Shared → Prop} {E : Value → Shared → Prop} {h : Heap} {g : Array GenState} {d : PySem.Drawn} {o : OsState} {tk : Nat} (H : ∀ tk', wpAny M A t Q E ⟨h, g, d, tk', o⟩) : wpAny M A t Q E ⟨h, g, d, tk, o⟩ := H tk
/-- what a body leaves behind: the base heap kept (by the frame), the value in Out -/
def Post (g : Heap) (L : Addr) (Out : Heap → Heap → Value → Prop) (s₀ : Shared) (fl : Flow) (s' : Shared) : Prop :=
  ∃ h' tk' m', s' = { s₀ with heap := h', toks := tk' } ∧ Fr g L h' m' ∧ Out g h' (match fl with | .ret v => v | _ => .none)
theorem Post.intro {g : Heap} {L : Addr} {Out : Heap → Heap → Value → Prop} {s₀ : Shared} {fl : Flow} {h' : Heap} {tk' : Nat} {m' : Str → Option Value}
    (F : Fr g L h' m') (o : Out g h' (match fl with | .ret v => v | _ => .none)) : Post g L Out s₀ fl { s₀ with heap := h', toks := tk' } := ⟨h', tk', m', rfl, F, o⟩
/-- a def that only reads: its value is in Out, and every object that stood still stands -/
def PCon (w : World) (f : Addr) (lim : Nat) (vs : List Value) (Pre : Heap → Prop) (Out : Heap → Heap → Value → Prop) : Prop :=
  ∀ (mean : ExcName → Option Value) (mg mb : Str → Option Value) (dp un : Nat) (gd : Option (List Code)) (env : Env) (outer : List Env) (A₀ : Around) (base h₀ : Heap) (L : Addr) (m : Str → Option Value) (s : Shared) (Q E : Value → Shared → Prop),
    Below A₀ base outer h₀ → Fr h₀ L s.heap m → (hd.heap_39 w.params).In h₀ → Top hd.view_39 (looseW hd.view_39 []) mean mg mb h₀ → env.frame = some L → env.scope.kind = .function → dp + un ≤ lim → Pre s.heap →
    (∀ r h' tk', Fr h₀ L h' m → s.heap.StaysIn h' → Out s.heap h' r → Q r { s with heap := h', toks := tk' }) →
    wpAny (model pg w) { handled := none, depth := dp, frames := some (env :: outer), guards := gd, units := un } (call (.ref f) vs) Q E s
theorem PCon.use {w : World} {f : Addr} {lim : Nat} {vs : List Value} {Pre : Heap → Prop} {Out : Heap → Heap → Value → Prop} (C : PCon w f lim vs Pre Out)
    {mean : ExcName → Option Value} {mg mb : Str → Option Value} {dp un : Nat} {gd : Option (List Code)} {env : Env} {outer : List Env} {A₀ : Around} {base h₀ : Heap} {L : Addr} {m : Str → Option Value} {s : Shared} {Q E : Value → Shared → Prop}
    (B : Below A₀ base outer h₀) (F : Fr h₀ L s.heap m) (X : (hd.heap_39 w.params).In h₀) (T : Top hd.view_39 (looseW hd.view_39 []) mean mg mb h₀) (hf : env.frame = some L) (hk : env.scope.kind = .function) (hd : dp + un ≤ lim) (hp : Pre s.heap)
    (h : ∀ r h' tk', Fr h₀ L h' m → s.heap.StaysIn h' → Out s.heap h' r → Q r { s with heap := h', toks := tk' }) :
    wpAny (model pg w) { handled := none, depth := dp, frames := some (env :: outer), guards := gd, units := un } (call (.ref f) vs) Q E s :=
  C mean mg mb dp un gd env outer A₀ base h₀ L m s Q E B F X T hf hk hd hp h
theorem Fr.name1 {h₀ h : Heap} {L : Addr} {m m₀ : Str → Option Value} {x : Str} {v : Value} (F : Fr h₀ L h (fun y => if y = x then some v else m y)) (e : ∀ z, z ≠ x → m z = m₀ z) : Fr h₀ L h (fun y => if y = x then some v else m₀ y) := by
  have q : (fun y => if y = x then some v else m y) = fun y => if y = x then some v else m₀ y := by
    funext z
    by_cases h1 : z = x
    · simp [h1]
    · simp only [if_neg h1]; exact e z h1
  rw [← q]; exact F
theorem Fr.ext {h₀ h : Heap} {L : Addr} {m m' : Str → Option Value} (F : Fr h₀ L h m) (e : ∀ z, m z = m' z) : Fr h₀ L h m' := (funext e : m = m') ▸ F
theorem Fr.fresh_of {g h : Heap} {L a : Addr} {m : Str → Option Value} (F : Fr g L h m) (e : h.get? a = none) : g.get? a = none := by
  cases q : g.get? a with
  | none => rfl
  | some o => have := F.keep a o q; rw [e] at this; cases this
theorem News.made {g h h' : Heap} {L a : Addr} {o : Obj} {m : Str → Option Value} {news : List (Addr × Obj)} (F : Fr g L h m) (N : News g L h news) (k : h.StaysIn h') (e : h.get? a = none) (e' : h'.get? a = some o) : News g L h' ((a, o) :: news) := fun p hp => by
  rcases List.mem_cons.mp hp with rfl | hp
  · refine ⟨e', fun q => ?_, Fr.fresh_of F e⟩
    obtain ⟨oL, _, _, hL, _⟩ := F.ns
    have q' : a = L := q
    rw [q', hL] at e; cases e
  · exact ⟨k _ _ (N p hp).1, (N p hp).2⟩
theorem News.kept {h₀ h h' : Heap} {L : Addr} {news : List (Addr × Obj)} (N : News h₀ L h news) (k : h.StaysIn h') : News h₀ L h' news :=
  fun p hp => ⟨k _ _ (N p hp).1, (N p hp).2⟩
theorem PCon.intro {w : World} {f : Addr} {lim : Nat} {vs : List Value} {Pre : Heap → Prop} {Out : Heap → Heap → Value → Prop}
    {name qual : Str} {params : Arguments} {body : List Stmt} {scope : Scope} {dV kV doc pm cdv ct oc : Value} {an od : Option Addr} {osl : Array (Option Value)} {binds : List (Str × Value)}
    (ho : (hd.heap_39 w.params).lookup f = some ⟨oc, od, .func (fnOf name qual params body scope dV kV doc pm an cdv ct), osl⟩) (hcd : codeIn (hd.heap_39 w.params) cdv qual = true) (hlim : lim ≤ 990)
    (hbind : bindArgs (fnOf name qual params body scope dV kV doc pm an cdv ct) ⟨vs, []⟩ = pure binds) (hloc : ∀ y ∈ binds, scope.names.lookup y.1 = some .local)
    (hco : scope.isCoroutine = false) (hgen : scope.isGenerator = false) (hk : scope.kind = .function) (hcell : ∀ x ∈ scope.names, x.2 ≠ .cell)
    (h : ∀ (mean : ExcName → Option Value) (mg mb : Str → Option Value) (dp un : Nat) (gd : Option (List Code)) (env : Env) (outer : List Env) (A : Around) (base g : Heap) (L' : Addr) (h₁ : Heap) (s : Shared),
      Below A base (env :: outer) g → Fr g L' h₁ (fun y => binds.reverse.lookup y) → News g L' h₁ [] → (hd.heap_39 w.params).In g → Top hd.view_39 (looseW hd.view_39 []) mean mg mb g → dp + un ≤ lim → Pre g →
      wpAny (model pg w) { handled := none, depth := dp + 1, frames := some (envOf qual scope L' f cdv :: env :: outer), guards := gd, units := un + 3 } (execs body (envOf qual scope L' f cdv)) (Post g L' Out s) (fun _ _ => False)
        { s with heap := h₁ }) : PCon w f lim vs Pre Out := by
  intro mean mg mb dp un gd env outer A₀ base h₀ L m s Q E B F X T hf hke hd hp ret
  have N : News h₀ L s.heap [] := News.nil
  let R : Result → Shared → Prop := fun r s' => match r with | .ok (.ret v) => Q v s' | .ok _ => False | .error e => E e s'
  obtain ⟨FG, BG, st, lv⟩ := groundX (R := R) (A := { handled := none, depth := dp, frames := some (env :: outer), guards := gd, units := un }) B F N rfl hf hke
  refine wpAny_call ?_
  refine codeAny_call_def (fd := fnOf name qual params body scope dV kV doc pm an cdv ct) (body := body) (binds := binds) (by show dp < 1000; omega) (X.keeps F.keep _ _ ho) rfl (T.nolimit.keeps F.keep) (codeRec_of (X.keeps F.keep) hcd) rfl
    (BindsTo.of_eq hbind) hcell hloc (fun h₁ hns hk₁ => ?_) hco hgen hk
  have W := h mean mg mb dp un gd env outer _ base s.heap s.heap.objs.size h₁ { s with toks := s.toks + binds.length } BG ⟨hns, hk₁, Nat.le_refl _⟩ News.nil (X.keeps st) (T.keeps st) hd hp
  refine wpAny_mono W (fun fl s' hl => ?_) fun _ _ y => y.elim
  obtain ⟨h', tk', m', rfl, F', o⟩ := hl
  refine lv _ _ ⟨s.heap.objs.size, m', [], F', News.nil, fun F'' _ => ?_⟩
  exact ret _ h' tk' F'' F'.keep o
end
section
/-! B1 -/
/-- how a turn of a loop ends: the iterator I stands as it stood, J holds of the frame's map and the ledger -/
def Turn (h₀ : Heap) (L I : Addr) (io : Obj) (J : (Str → Option Value) → List (Addr × Obj) → Prop) (Q : Flow → Shared → Prop) (s : Shared) (fl : Flow) (s₂ : Shared) : Prop :=
  match fl with
  | .ret v => Q (.ret v) s₂
  | .brk => Q .next s₂
  | _ => ∃ h' tk m' news', s₂ = { s with heap := h', toks := tk } ∧ Fr h₀ L h' m' ∧ News h₀ L h' ((I, io) :: news') ∧ (∀ p ∈ news', p.1 ≠ I) ∧ J m' news'
theorem Turn.next {h₀ : Heap} {L I : Addr} {io : Obj} {J : (Str → Option Value) → List (Addr × Obj) → Prop} {Q : Flow → Shared → Prop} {s : Shared} {h' : Heap} {tk : Nat} {m' : Str → Option Value} {news' : List (Addr × Obj)}
    (F : Fr h₀ L h' m') (N : News h₀ L h' ((I, io) :: news')) (off : ∀ p ∈ news', p.1 ≠ I) (j : J m' news') : Turn h₀ L I io J Q s .next { s with heap := h', toks := tk } := ⟨h', tk, m', news', rfl, F, N, off, j⟩
theorem Turn.cont {h₀ : Heap} {L I : Addr} {io : Obj} {J : (Str → Option Value) → List (Addr × Obj) → Prop} {Q : Flow → Shared → Prop} {s : Shared} {h' : Heap} {tk : Nat} {m' : Str → Option Value} {news' : List (Addr × Obj)}
    (F : Fr h₀ L h' m') (N : News h₀ L h' ((I, io) :: news')) (off : ∀ p ∈ news', p.1 ≠ I) (j : J m' news') : Turn h₀ L I io J Q s .cont { s with heap := h', toks := tk } := ⟨h', tk, m', news', rfl, F, N, off, j⟩
theorem Turn.ret {h₀ : Heap} {L I : Addr} {io : Obj} {J : (Str → Option Value) → List (Addr × Obj) → Prop} {Q : Flow → Shared → Prop} {s s₂ : Shared} {v : Value} (h : Q (.ret v) s₂) : Turn h₀ L I io J Q s (.ret v) s₂ := h
def LoopM (w : World) (A : Around) (env : Env) (target : Expr) (body : List Stmt) (Q : Flow → Shared → Prop) (it : Value) (s₂ : Shared) : Prop :=
  codeAny (model pg w) A (.forLoop target it body [] env) (fun r s' => match r with | .ok f => Q f s' | .error _ => False) s₂
section
variable {w : World} {A : Around} {s : Shared} {env : Env} {h₀ : Heap}
theorem For_m {target iter : Expr} {body : List Stmt} {pos : Pos} {Q : Flow → Shared → Prop}
    (h : wpAny (model pg w) A (eval iter env) (fun xv s₁ => wpAny (model pg w) A (pyIter xv) (fun it s₂ => LoopM w A env target body Q it s₂) (fun _ _ => False) s₁) (fun _ _ => False) s)
    (hs : ∀ x, foldedSetIterable iter env x = pure x := by intro _; rfl) :
    wpAny (model pg w) A (exec (.For target iter body [] pos) env) Q (fun _ _ => False) s :=
  wpAny_For (wpAny_mono h (fun _ _ h₁ => wpAny_mono h₁ (fun _ _ h₂ => codeAny_mono h₂ fun r s' q => by
    cases r with
    | ok f => exact q
    | error e => exact q.elim) fun _ _ e => e) fun _ _ e => e) hs
theorem loop_any {target : Expr} {body : List Stmt} {I : Addr} {fp : List Addr} {n : Nat} {P : Nat → Value → Prop} {St : Nat → Heap → Prop} {m : Str → Option Value} {news : List (Addr × Obj)} {Q : Flow → Shared → Prop}
    (W : Walks pg w A I fp [I] n P St) (hI₀ : h₀.get? I = none) (hIL : env.locals ≠ I) (hlive : ∀ i h, St i h → ∃ o, h.get? I = some o)
    (hgo : ∀ i v (s : Shared) (q : Unit → Shared → Prop), St i s.heap → q () s → wpAny (model pg w) A (letOwnedTupleGo target (.ref I) v) q (fun _ _ => False) s)
    (J : Nat → (Str → Option Value) → List (Addr × Obj) → Prop) (hfp : ∀ b ∈ fp, b = I ∨ (∃ o, h₀.get? b = some o) ∨ ∃ o, ∀ i m nw, J i m nw → (b, o) ∈ nw) (hst : St 0 s.heap) (F : Fr h₀ env.locals s.heap m) (N : News h₀ env.locals s.heap news) (off : ∀ p ∈ news, p.1 ≠ I) (h0 : J 0 m news)
    (step : ∀ i v m₁ news₁ io h tk, i < n → P i v → J i m₁ news₁ → (∀ p ∈ news₁, p.1 ≠ I) → Fr h₀ env.locals h m₁ → News h₀ env.locals h ((I, io) :: news₁) →
      wpAny (model pg w) A (assign target env v) (fun _ s₁ => wpAny (model pg w) A (execs body env) (Turn h₀ env.locals I io (J (i + 1)) Q s) (fun _ _ => False) s₁) (fun _ _ => False) { s with heap := h, toks := tk })
    (done : ∀ h tk m₁ news₁, J n m₁ news₁ → Fr h₀ env.locals h m₁ → News h₀ env.locals h news₁ → Q .next { s with heap := h, toks := tk }) :
    LoopM w A env target body Q (.ref I) s := by
  unfold LoopM
  have keep1 : ∀ {h h' : Heap} {m' : Str → Option Value} {news' : List (Addr × Obj)}, Fr h₀ env.locals h m' → News h₀ env.locals h news' → (∀ p ∈ news', p.1 ≠ I) → (∀ b o, b ∉ [I] → h.get? b = some o → h'.get? b = some o) →
      Fr h₀ env.locals h' m' ∧ News h₀ env.locals h' news' := fun {h h' m' news'} F N off k =>
    ⟨⟨F.ns.at' fun o e => k _ o (fun q => hIL (List.mem_singleton.mp q)) e, fun b o e => k b o (fun q => by rw [List.mem_singleton.mp q, hI₀] at e; cases e) (F.keep b o e), F.above⟩,
      fun p hp => ⟨k _ _ (fun q => off p hp (List.mem_singleton.mp q)) (N p hp).1, (N p hp).2⟩⟩
  refine codeAny_loop' rfl (fun k s' => ∃ h' tk m' news' i, s' = { s with heap := h', toks := tk } ∧ St i h' ∧ Fr h₀ env.locals h' m' ∧ News h₀ env.locals h' news' ∧ (∀ p ∈ news', p.1 ≠ I) ∧ J i m' news' ∧ i ≤ n ∧ k = n + 1 - i) ?_ (n + 1)
    ⟨s.heap, s.toks, m, news, 0, rfl, hst, F, N, off, h0, Nat.zero_le _, rfl⟩
  rintro k s' ⟨h', tk, m', news', i, rfl, hst', F', N', off', hJ, hi, rfl⟩
  show wpAny _ _ ((forTurn target (.ref I) body [] env).onRaise (fun x => do noteFrame x env; theTreesLotGoes x)) _ _ _
  refine wpAny_noted (wpAny_noRaise ?_)
  simp only [forTurn]
  refine wpAny_bind (wpAny_standAt (wpAny_bind (wpAny_onRaise ?_)))
  show wpAny (model pg w) A _ _ _ _
  by_cases hlt : i < n
  · refine W.item i _ _ _ hlt hst' fun v h₁ tk₁ hP hst₁ hk₁ => ?_
    obtain ⟨F₁, N₁⟩ := keep1 F' N' off' hk₁
    obtain ⟨io, hio⟩ := hlive _ _ hst₁
    dsimp only
    refine wpAny_bind (hgo _ v _ _ hst₁ ?_)
    have N₁' : News h₀ env.locals h₁ ((I, io) :: news') := fun p hp => by
      rcases List.mem_cons.mp hp with rfl | hp
      · exact ⟨hio, Ne.symm hIL, hI₀⟩
      · exact N₁ p hp
    refine wpAny_bind (wpAny_mono (step i v m' news' io h₁ tk₁ hlt hP hJ off' F₁ N₁') (fun _ s₂ h₂ => wpAny_bind (wpAny_mono h₂ (fun f s₃ h₃ => ?_) fun _ _ e => e)) fun _ _ e => e)
    have again : (∃ h' tk m' news', s₃ = { s with heap := h', toks := tk } ∧ Fr h₀ env.locals h' m' ∧ News h₀ env.locals h' ((I, io) :: news') ∧ (∀ p ∈ news', p.1 ≠ I) ∧ J (i + 1) m' news') →
        ∃ m_1, m_1 < n + 1 - i ∧ ∃ h' tk m' news' i, s₃ = { s with heap := h', toks := tk } ∧ St i h' ∧ Fr h₀ env.locals h' m' ∧ News h₀ env.locals h' news' ∧ (∀ p ∈ news', p.1 ≠ I) ∧ J i m' news' ∧ i ≤ n ∧ m_1 = n + 1 - i := by
      rintro ⟨hz, tk₃, m₃, news₃, rfl, F₃, N₃, off₃, hJ₃⟩
      refine ⟨n + 1 - (i + 1), by omega, hz, tk₃, m₃, news₃, i + 1, rfl, ?_, F₃, fun p hp => N₃ p (List.mem_cons_of_mem _ hp), off₃, hJ₃, hlt, rfl⟩
      refine W.frame _ _ _ hst₁ fun b hb o e => ?_
      rcases hfp b hb with rfl | ⟨o', e'⟩ | ⟨o', e'⟩
      · rw [hio] at e; cases e
        exact (N₃ _ List.mem_cons_self).1
      · have : h₁.get? b = some o' := F₁.keep b o' e'
        rw [e] at this; cases this
        exact F₃.keep b o e'
      · have z₁ := (N₁ _ (e' _ _ _ hJ)).1
        have z₃ := (N₃ _ (List.mem_cons_of_mem _ (e' _ _ _ hJ₃))).1
        dsimp only at z₁ z₃
        rw [z₁] at e; cases e
        exact z₃
    cases f with
    | ret v => exact wpAny_pure h₃
    | brk => exact wpAny_pure h₃
    | next => exact wpAny_pure (.inl ⟨rfl, again h₃⟩)
    | cont => exact wpAny_pure (.inl ⟨rfl, again h₃⟩)
  · have hin : i = n := by omega
    subst hin
    refine W.done _ _ _ hst' fun h₁ tk₁ hk₁ => ?_
    obtain ⟨F₁, N₁⟩ := keep1 F' N' off' hk₁
    dsimp only
    exact wpAny_pure (.inr ⟨rfl, codeAny_block (wpAny_execs_nil (done h₁ tk₁ m' news' hJ F₁ N₁))⟩)
theorem go_name {x : Str} {px : Pos} {I : Addr} {v : Value} {s : Shared} {q : Unit → Shared → Prop} (h : q () s) : wpAny (model pg w) A (letOwnedTupleGo (.Name x px) (.ref I) v) q (fun _ _ => False) s := wpAny_of_eq (a := ()) rfl h
theorem go_tuple {elts : List Expr} {k : Nat} {pos : Pos} {I a : Addr} {i : Nat} {v : Value} {s : Shared} {q : Unit → Shared → Prop} (hi : s.heap.IsTupleIter I a i) (h : q () s) :
    wpAny (model pg w) A (letOwnedTupleGo (.Tuple elts k pos) (.ref I) v) q (fun _ _ => False) s := by
  obtain ⟨o, ho, hc, hd⟩ := hi
  unfold letOwnedTupleGo
  cases v with
  | ref T =>
    refine wpAny_bind (wpAny_load ho ?_)
    rw [hc, hd]
    show wpAny _ A (if (["enumerate", "zip", "dict_itemiterator", "dict_reverseitemiterator", "odict_iterator", "itertools.zip_longest", "itertools.pairwise"].contains "tuple_iterator" && _) = true then _ else _) _ _ s
    rw [show (["enumerate", "zip", "dict_itemiterator", "dict_reverseitemiterator", "odict_iterator", "itertools.zip_longest", "itertools.pairwise"].contains "tuple_iterator") = false from by decide, Bool.false_and]
    exact wpAny_pure h
  | _ => exact wpAny_pure h
/-- a loop over a range by ones -/
theorem range_m {x : Str} {px : Pos} {body : List Stmt} {r : Addr} {a b : Int} {t u v : Tok} {n : Nat} {m : Str → Option Value} {news : List (Addr × Obj)} {Q : Flow → Shared → Prop}
    (hr : IsRange s.heap r a b 1 t u v) (hsm : Builtin.Range.small a b 1 = true) (hn : Builtin.Range.rangeSize a b 1 = (n : Int)) (F : Fr h₀ env.locals s.heap m) (N : News h₀ env.locals s.heap news)
    (J : Nat → (Str → Option Value) → List (Addr × Obj) → Prop) (h0 : J 0 m news) (hh : A.handled = none := by rfl)
    (step : ∀ i I t m₁ news₁ io h tk, i < n → J i m₁ news₁ → (∀ p ∈ news₁, p.1 ≠ I) → Fr h₀ env.locals h m₁ → News h₀ env.locals h ((I, io) :: news₁) →
      wpAny (model pg w) A (storeName env x (.int (a + (i : Int)) t)) (fun _ s₁ => wpAny (model pg w) A (execs body env) (Turn h₀ env.locals I io (J (i + 1)) Q s) (fun _ _ => False) s₁) (fun _ _ => False) { s with heap := h, toks := tk })
    (done : ∀ h tk m₁ news₁, J n m₁ news₁ → Fr h₀ env.locals h m₁ → News h₀ env.locals h news₁ → Q .next { s with heap := h, toks := tk }) :
    wpAny (model pg w) A (pyIter (.ref r)) (fun it s₂ => LoopM w A env (.Name x px) body Q it s₂) (fun _ _ => False) s := by
  refine wpAny_pyIter_range hr hsm ?_
  refine loop_any (s := { s with heap := _ }) (LCg.range_walks hh a n) (next_is_new F) (Nat.ne_of_lt F.ns.lt) (fun i h st => ⟨_, st⟩) (fun _ _ _ _ _ hq => go_name hq)
    J (fun b hb => .inl (List.mem_singleton.mp hb)) (by show IsRangeIter _ _ _ _ _; rw [hn]; simpa using Heap.get?_push_size _ rfl) (F.keeps fun _ _ e => Heap.get?_push_of_some _ e) (N.grown fun _ _ e => Heap.get?_push_of_some _ e) (fun p hp => Nat.ne_of_lt (Heap.lt_size (N p hp).1)) h0 ?_ done
  rintro i v m₁ news₁ io h tk hi ⟨t, rfl⟩ hJ off F₁ N₁
  exact wpAny_assign_Name (step i _ t m₁ news₁ io h tk hi hJ off F₁ N₁)
/-- a loop over a tuple that stood before the frame -/
theorem tup_m {target : Expr} {elts : List Expr} {k : Nat} {pos : Pos} {body : List Stmt} {ax : Addr} {vs : List Value} {m : Str → Option Value} {news : List (Addr × Obj)} {Q : Flow → Shared → Prop}
    (ht : IsTup h₀ ax vs.toArray) (F : Fr h₀ env.locals s.heap m) (N : News h₀ env.locals s.heap news)
    (J : Nat → (Str → Option Value) → List (Addr × Obj) → Prop) (h0 : J 0 m news) (htg : target = .Tuple elts k pos := by rfl) (hh : A.handled = none := by rfl)
    (step : ∀ i I v m₁ news₁ io h tk, vs[i]? = some v → J i m₁ news₁ → (∀ p ∈ news₁, p.1 ≠ I) → Fr h₀ env.locals h m₁ → News h₀ env.locals h ((I, io) :: news₁) →
      wpAny (model pg w) A (assign (.Tuple elts k pos) env v) (fun _ s₁ => wpAny (model pg w) A (execs body env) (Turn h₀ env.locals I io (J (i + 1)) Q s) (fun _ _ => False) s₁) (fun _ _ => False) { s with heap := h, toks := tk })
    (done : ∀ h tk m₁ news₁, J vs.length m₁ news₁ → Fr h₀ env.locals h m₁ → News h₀ env.locals h news₁ → Q .next { s with heap := h, toks := tk }) :
    wpAny (model pg w) A (pyIter (.ref ax)) (fun it s₂ => LoopM w A env target body Q it s₂) (fun _ _ => False) s := by
  subst htg
  have hts : s.heap.IsTuple ax vs.toArray := ht.keeps F.keep
  obtain ⟨o, ho, _⟩ := id ht
  have hlt : ax < s.heap.objs.size := Heap.lt_size (F.keep _ _ ho)
  refine wpAny_pyIter_tuple hts ?_
  refine loop_any (s := { s with heap := _ }) (Walks.tuple hh s.heap.objs.size ax (Nat.ne_of_lt hlt) vs.toArray) (next_is_new F) (Nat.ne_of_lt F.ns.lt) (fun i h st => by obtain ⟨o, e, _⟩ := st.1; exact ⟨o, e⟩) (fun _ _ _ _ st hq => go_tuple st.1 hq)
    J (fun b hb => ?_) ⟨⟨_, Heap.get?_push_size _ rfl, rfl, rfl⟩, hts.push _⟩ (F.keeps fun _ _ e => Heap.get?_push_of_some _ e) (N.grown fun _ _ e => Heap.get?_push_of_some _ e) (fun p hp => Nat.ne_of_lt (Heap.lt_size (N p hp).1)) h0 ?_ (by simpa using done)
  · rcases List.mem_cons.mp hb with rfl | hb
    · exact .inl rfl
    · rw [List.mem_singleton.mp hb]; exact .inr (.inl ⟨o, ho⟩)
  · intro i v m₁ news₁ io h tk hi hv hJ off F₁ N₁
    exact step i _ v m₁ news₁ io h tk (by simpa using hv) hJ off F₁ N₁
/-- a loop over a list that stood before the frame -/
theorem list_m {x : Str} {px : Pos} {body : List Stmt} {ax : Addr} {vs : List Value} {m : Str → Option Value} {news : List (Addr × Obj)} {Q : Flow → Shared → Prop}
    (ht : h₀.IsList ax vs.toArray) (F : Fr h₀ env.locals s.heap m) (N : News h₀ env.locals s.heap news)
    (J : Nat → (Str → Option Value) → List (Addr × Obj) → Prop) (h0 : J 0 m news) (hh : A.handled = none := by rfl)
    (step : ∀ i I v m₁ news₁ io h tk, vs[i]? = some v → J i m₁ news₁ → (∀ p ∈ news₁, p.1 ≠ I) → Fr h₀ env.locals h m₁ → News h₀ env.locals h ((I, io) :: news₁) →
      wpAny (model pg w) A (storeName env x v) (fun _ s₁ => wpAny (model pg w) A (execs body env) (Turn h₀ env.locals I io (J (i + 1)) Q s) (fun _ _ => False) s₁) (fun _ _ => False) { s with heap := h, toks := tk })
    (done : ∀ h tk m₁ news₁, J vs.length m₁ news₁ → Fr h₀ env.locals h m₁ → News h₀ env.locals h news₁ → Q .next { s with heap := h, toks := tk }) :
    wpAny (model pg w) A (pyIter (.ref ax)) (fun it s₂ => LoopM w A env (.Name x px) body Q it s₂) (fun _ _ => False) s := by
  have hts : s.heap.IsList ax vs.toArray := ht.at fun o e => F.keep ax o e
  obtain ⟨o, ho, _⟩ := id ht
  have hlt : ax < s.heap.objs.size := Heap.lt_size (F.keep _ _ ho)
  refine wpAny_pyIter_list hts ?_
  refine loop_any (s := { s with heap := _ }) (Walks.list hh s.heap.objs.size ax (Nat.ne_of_lt hlt) vs.toArray) (next_is_new F) (Nat.ne_of_lt F.ns.lt) (fun i h st => by obtain ⟨o, e, _⟩ := st.1; exact ⟨o, e⟩) (fun _ _ _ _ _ hq => go_name hq)
    J (fun b hb => ?_) ⟨⟨_, Heap.get?_push_size _ rfl, rfl, rfl⟩, hts.push _⟩ (F.keeps fun _ _ e => Heap.get?_push_of_some _ e) (N.grown fun _ _ e => Heap.get?_push_of_some _ e) (fun p hp => Nat.ne_of_lt (Heap.lt_size (N p hp).1)) h0 ?_ (by simpa using done)
  · rcases List.mem_cons.mp hb with rfl | hb
    · exact .inl rfl
    · rw [List.mem_singleton.mp hb]; exact .inr (.inl ⟨o, ho⟩)
  · intro i v m₁ news₁ io h tk hi hv hJ off F₁ N₁
    exact wpAny_assign_Name (step i _ v m₁ news₁ io h tk (by simpa using hv) hJ off F₁ N₁)
/-- a loop over a tuple of the ledger -/
theorem tupN_m {x : Str} {px : Pos} {body : List Stmt} {ax : Addr} {vs : List Value} {m : Str → Option Value} {news : List (Addr × Obj)} {Q : Flow → Shared → Prop}
    (F : Fr h₀ env.locals s.heap m) (N : News h₀ env.locals s.heap news)
    (J : Nat → (Str → Option Value) → List (Addr × Obj) → Prop) (hJm : ∀ i m nw, J i m nw → (ax, ({ cls := .type "tuple", data := .seq vs.toArray } : Obj)) ∈ nw) (h0 : J 0 m news) (hh : A.handled = none := by rfl)
    (step : ∀ i I v m₁ news₁ io h tk, vs[i]? = some v → J i m₁ news₁ → (∀ p ∈ news₁, p.1 ≠ I) → Fr h₀ env.locals h m₁ → News h₀ env.locals h ((I, io) :: news₁) →
      wpAny (model pg w) A (storeName env x v) (fun _ s₁ => wpAny (model pg w) A (execs body env) (Turn h₀ env.locals I io (J (i + 1)) Q s) (fun _ _ => False) s₁) (fun _ _ => False) { s with heap := h, toks := tk })
    (done : ∀ h tk m₁ news₁, J vs.length m₁ news₁ → Fr h₀ env.locals h m₁ → News h₀ env.locals h news₁ → Q .next { s with heap := h, toks := tk }) :
    wpAny (model pg w) A (pyIter (.ref ax)) (fun it s₂ => LoopM w A env (.Name x px) body Q it s₂) (fun _ _ => False) s := by
  have hm := hJm _ _ _ h0
  have hts : s.heap.IsTuple ax vs.toArray := ⟨_, (N _ hm).1, rfl, _, rfl⟩
  have hlt : ax < s.heap.objs.size := Heap.lt_size (N _ hm).1
  refine wpAny_pyIter_tuple hts ?_
  refine loop_any (s := { s with heap := _ }) (Walks.tuple hh s.heap.objs.size ax (Nat.ne_of_lt hlt) vs.toArray) (next_is_new F) (Nat.ne_of_lt F.ns.lt) (fun i h st => by obtain ⟨o, e, _⟩ := st.1; exact ⟨o, e⟩) (fun _ _ _ _ _ hq => go_name hq)
    J (fun b hb => ?_) ⟨⟨_, Heap.get?_push_size _ rfl, rfl, rfl⟩, hts.push _⟩ (F.keeps fun _ _ e => Heap.get?_push_of_some _ e) (N.grown fun _ _ e => Heap.get?_push_of_some _ e) (fun p hp => Nat.ne_of_lt (Heap.lt_size (N p hp).1)) h0 ?_ (by simpa using done)
  · rcases List.mem_cons.mp hb with rfl | hb
    · exact .inl rfl
    · rw [List.mem_singleton.mp hb]; exact .inr (.inr ⟨_, hJm⟩)
  · intro i v m₁ news₁ io h tk hi hv hJ off F₁ N₁
    exact wpAny_assign_Name (step i _ v m₁ news₁ io h tk (by simpa using hv) hJ off F₁ N₁)
theorem tupN_L {x : Str} {px : Pos} {body : List Stmt} {ax L : Addr} {vs : List Value} {m : Str → Option Value} {news : List (Addr × Obj)} {Q : Flow → Shared → Prop} (hL : env.locals = L)
    (F : Fr h₀ L s.heap m) (N : News h₀ L s.heap news)
    (J : Nat → (Str → Option Value) → List (Addr × Obj) → Prop) (hJm : ∀ i m nw, J i m nw → (ax, ({ cls := .type "tuple", data := .seq vs.toArray } : Obj)) ∈ nw) (h0 : J 0 m news) (hh : A.handled = none)
    (step : ∀ i I v m₁ news₁ io h tk, vs[i]? = some v → J i m₁ news₁ → (∀ p ∈ news₁, p.1 ≠ I) → Fr h₀ L h m₁ → News h₀ L h ((I, io) :: news₁) →
      wpAny (model pg w) A (storeName env x v) (fun _ s₁ => wpAny (model pg w) A (execs body env) (Turn h₀ L I io (J (i + 1)) Q s) (fun _ _ => False) s₁) (fun _ _ => False) { s with heap := h, toks := tk })
    (done : ∀ h tk m₁ news₁, J vs.length m₁ news₁ → Fr h₀ L h m₁ → News h₀ L h news₁ → Q .next { s with heap := h, toks := tk }) :
    wpAny (model pg w) A (pyIter (.ref ax)) (fun it s₂ => LoopM w A env (.Name x px) body Q it s₂) (fun _ _ => False) s := by
  subst hL
  exact tupN_m F N J hJm h0 hh step done
end
end
section
/-! C1 -/
inductive Lv where | z | o | x | b | q
  deriving DecidableEq
def Lv.str : Lv → Str
  | .z => Str.ofString "0" | .o => Str.ofString "1" | .x => Str.ofString "x" | .b => Str.ofString "b" | .q => Str.ofString "?"
def Lv.codes : Lv → List Int
  | .z => [0] | .o => [1] | .x => [3] | .b => [0, 1] | .q => [0, 1, 3]
/-- an input's symbol: a level, an edge by a letter, an edge by a tuple of two levels -/
inductive Sym where | l (l : Lv) | r | f | p | n | s | e (a b : Lv)
  deriving DecidableEq
def Sym.isEdge : Sym → Bool
  | .l _ => false | _ => true
def SymAt (h : Heap) (v : Value) : Sym → Prop
  | .l l => ∃ t, v = .str l.str t
  | .r => ∃ t, v = .str (Str.ofString "r") t
  | .f => ∃ t, v = .str (Str.ofString "f") t
  | .p => ∃ t, v = .str (Str.ofString "p") t
  | .n => ∃ t, v = .str (Str.ofString "n") t
  | .s => ∃ t, v = .str (Str.ofString "*") t
  | .e a b => ∃ x t₁ t₂ t₃, v = .ref x ∧ IsTup h x [.str (Str.ofString "edge") t₁, .str a.str t₂, .str b.str t₃].toArray
theorem SymAt.keeps {h h' : Heap} {v : Value} (k : h.StaysIn h') : ∀ {s : Sym}, SymAt h v s → SymAt h' v s
  | .l _, x | .r, x | .f, x | .p, x | .n, x | .s, x => x
  | .e _ _, ⟨x, t₁, t₂, t₃, e, i⟩ => ⟨x, t₁, t₂, t₃, e, i.keeps k⟩
/-- a tuple of ints -/
def IntTup (ns : List Int) (g h : Heap) (v : Value) : Prop := ∃ a vs, v = .ref a ∧ g.get? a = none ∧ h.get? a = some ({ cls := .type "tuple", data := .seq (List.toArray vs) } : Obj) ∧ IntsAre vs ns
theorem IsTup.of {h : Heap} {a : Addr} {vs : List Value} (e : h.get? a = some ({ cls := .type "tuple", data := .seq (List.toArray vs) } : Obj)) : IsTup h a vs.toArray := ⟨_, e, rfl, _, rfl⟩
local macro_rules | `(tactic| walk_at "subscriptTail") => `(tactic| (k_here; (with_reducible show wpAny _ _ (subscriptTail _ _ (Value.ref _) (Value.int _ _)) _ _ _); k_dflt (refine' item_tupleT ?t ?a ?b ?c ?d ?_; (case t => exact IsTup.keeps (by with_reducible assumption) (Fr.keep (by with_reducible assumption))); (case a => decide); (case b => decide); (case c => rfl); (case d => rfl); k_whole)))
local macro_rules | `(tactic| walk_at "subscriptTail") => `(tactic| (k_here; (with_reducible show wpAny _ _ (subscriptTail _ _ (Value.ref _) (Value.int _ _)) _ _ _); k_dflt (refine' item_tupleT ?t ?a ?b ?c ?d ?_; (case t => with_reducible assumption); (case a => decide); (case b => decide); (case c => rfl); (case d => rfl); k_whole)))
local macro_rules | `(tactic| walk_at "Post") => `(tactic| refine Post.intro (by assumption) ?_)
theorem level_codes_ok (w : World) (l : Lv) (t : Tok) : PCon w 42 900 [.str l.str t] (fun _ => True) (IntTup l.codes) := by
  refine' PCon.intro (binds := [(Str.ofString "symbol", .str l.str t)]) ?ho ?hcd ?hlim ?hbind ?hloc ?hco ?hgen ?hk ?hcell ?h
  case ho => k_is
  case hcd => k_is
  case hlim => decide
  case hbind => exact rfl
  case hloc => exact locs rfl
  case hco => exact rfl
  case hgen => exact rfl
  case hk => exact rfl
  case hcell => decide
  intro mean mg mb dp un gd env outer A base g L' h₁ s B F N X T hd hp
  cases l
  all_goals dsimp only [Lv.str, Lv.codes] at *
  all_goals k_steps
  all_goals exact ⟨_, _, rfl, News.fresh (by assumption) (by k_mem), News.get (by assumption) (by k_mem), by repeat constructor⟩
theorem is_edge_ok (w : World) (v : Value) (y : Sym) : PCon w 49 900 [v] (fun h => SymAt h v y) (fun _ _ r => r = .bool y.isEdge) := by
  refine' PCon.intro (binds := [(Str.ofString "symbol", v)]) ?ho ?hcd ?hlim ?hbind ?hloc ?hco ?hgen ?hk ?hcell ?h
  case ho => k_is
  case hcd => k_is
  case hlim => decide
  case hbind => exact rfl
  case hloc => exact locs rfl
  case hco => exact rfl
  case hgen => exact rfl
  case hk => exact rfl
  case hcell => decide
  intro mean mg mb dp un gd env outer A base g L' h₁ s B F N X T hd hp
  rcases y with l | _ | _ | _ | _ | _ | ⟨a, b⟩
  case e =>
    obtain ⟨x, t₁, t₂, t₃, rfl, I⟩ := hp
    k_steps
  case l =>
    obtain ⟨t, rfl⟩ := hp
    cases l
    all_goals dsimp only [Lv.str] at *
    all_goals k_steps
  all_goals
    obtain ⟨t, rfl⟩ := hp
    k_steps
/-- an output's symbol -/
inductive Out where | z | o | x | k
  deriving DecidableEq
def Out.str : Out → Str
  | .z => Str.ofString "0" | .o => Str.ofString "1" | .x => Str.ofString "x" | .k => Str.ofString "-"
def Out.code (y : Out) (c : Int) : Int := match y with
  | .z => 0 | .o => 1 | .x => 3 | .k => c
def IsInt (i : Int) (v : Value) : Prop := ∃ t, v = .int i t
theorem isInt_of {i j : Int} {t : Tok} (e : j = i) : IsInt i (.int j t) := ⟨t, by rw [e]⟩
theorem out_code_ok (w : World) (y : Out) (t : Tok) (c : Int) (u : Tok) : PCon w 63 880 [.str y.str t, .int c u] (fun _ => True) (fun _ _ r => IsInt (y.code c) r) := by
  refine' PCon.intro (binds := [(Str.ofString "out", .str y.str t), (Str.ofString "state", .int c u)]) ?ho ?hcd ?hlim ?hbind ?hloc ?hco ?hgen ?hk ?hcell ?h
  case ho => k_is
  case hcd => k_is
  case hlim => decide
  case hbind => exact rfl
  case hloc => exact locs rfl
  case hco => exact rfl
  case hgen => exact rfl
  case hk => exact rfl
  case hcell => decide
  intro mean mg mb dp un gd env outer A base g L' h₁ s B F N X T hd hp
  have use : ∀ l : Lv, PCon w 42 900 [.str l.str t] (fun _ => True) (IntTup l.codes) := fun l => level_codes_ok w l t
  cases y
  all_goals dsimp only [Out.str, Out.code] at *
  all_goals k_steps
  rotate_left 3
  · exact ⟨_, rfl⟩
  all_goals
    first | refine' PCon.use (use .z) (by assumption) (by assumption) (by assumption) (by assumption) rfl rfl (by omega) trivial ?_ | refine' PCon.use (use .o) (by assumption) (by assumption) (by assumption) (by assumption) rfl rfl (by omega) trivial ?_ | refine' PCon.use (use .x) (by assumption) (by assumption) (by assumption) (by assumption) rfl rfl (by omega) trivial ?_
    rintro r h' tk' F' K' ⟨a, vs, rfl, e, e', V⟩
    cases V; rename_i V; cases V
    have I := IsTup.of e'
    try dsimp only at K' ⊢
    k_steps
    all_goals exact ⟨_, rfl⟩
theorem plain_ok (w : World) (c : Int) (u : Tok) : PCon w 70 900 [.int c u] (fun _ => True) (fun _ _ r => IsInt (if c = 2 then 3 else c) r) := by
  refine' PCon.intro (binds := [(Str.ofString "code", .int c u)]) ?ho ?hcd ?hlim ?hbind ?hloc ?hco ?hgen ?hk ?hcell ?h
  case ho => k_is
  case hcd => k_is
  case hlim => decide
  case hbind => exact rfl
  case hloc => exact locs rfl
  case hco => exact rfl
  case hgen => exact rfl
  case hk => exact rfl
  case hcell => decide
  intro mean mg mb dp un gd env outer A base g L' h₁ s B F N X T hd hp
  k_steps
  all_goals exact isInt_of (by simp only [*]; simp)
end
section
/-! B2 -/
/-- item by item -/
def Each {α : Type} (R : Value → α → Prop) (vs : List Value) (ys : List α) : Prop := vs.length = ys.length ∧ ∀ (i : Nat) (y : α), ys[i]? = some y → ∃ v, vs[i]? = some v ∧ R v y
theorem Each.nil {α : Type} {R : Value → α → Prop} : Each R [] [] := ⟨rfl, fun i y e => by simp at e⟩
theorem Each.snoc {α : Type} {R : Value → α → Prop} {vs : List Value} {ys : List α} {v : Value} {y : α} (x : Each R vs ys) (r : R v y) : Each R (vs ++ [v]) (ys ++ [y]) := by
  refine ⟨by simp [x.1], fun i z e => ?_⟩
  by_cases hi : i < ys.length
  · rw [List.getElem?_append_left hi] at e
    obtain ⟨u, hu, ru⟩ := x.2 i z e
    exact ⟨u, by rw [List.getElem?_append_left (by rw [x.1]; exact hi)]; exact hu, ru⟩
  · rw [List.getElem?_append_right (Nat.le_of_not_lt hi)] at e
    have hj : i - ys.length = 0 := by
      cases q : i - ys.length with
      | zero => rfl
      | succ j => rw [q] at e; simp at e
    rw [hj] at e
    simp only [List.getElem?_cons_zero, Option.some.injEq] at e
    subst e
    refine ⟨v, ?_, r⟩
    rw [List.getElem?_append_right (by rw [x.1]; exact Nat.le_of_not_lt hi), x.1, hj]
    rfl
theorem Each.cons {α : Type} {R : Value → α → Prop} {vs : List Value} {ys : List α} {v : Value} {y : α} (r : R v y) (x : Each R vs ys) : Each R (v :: vs) (y :: ys) := by
  refine ⟨by simp [x.1], fun i z e => ?_⟩
  cases i with
  | zero => simp only [List.getElem?_cons_zero, Option.some.injEq] at e; subst e; exact ⟨v, rfl, r⟩
  | succ i => exact x.2 i z e
theorem Each.mono {α : Type} {R R' : Value → α → Prop} {vs : List Value} {ys : List α} (x : Each R vs ys) (k : ∀ v y, R v y → R' v y) : Each R' vs ys := ⟨x.1, fun i y e => let ⟨v, hv, r⟩ := x.2 i y e; ⟨v, hv, k v y r⟩⟩
/-- the other way: what an item is -/
theorem Each.at {α : Type} {R : Value → α → Prop} {vs : List Value} {ys : List α} (x : Each R vs ys) {i : Nat} {v : Value} (e : vs[i]? = some v) : ∃ y, ys[i]? = some y ∧ R v y := by
  have hi : i < ys.length := by rw [← x.1]; exact (List.getElem?_eq_some_iff.mp e).1
  obtain ⟨u, hu, r⟩ := x.2 i _ (List.getElem?_eq_getElem hi)
  rw [e] at hu; cases hu
  exact ⟨_, List.getElem?_eq_getElem hi, r⟩
theorem range_facts (n : Nat) (h : n ≤ 100) : Builtin.Range.small 0 (n : Int) 1 = true ∧ Builtin.Range.rangeSize 0 (n : Int) 1 = (n : Int) := by
  have q : ∀ n : Fin 101, Builtin.Range.small 0 ((n.val : Nat) : Int) 1 = true ∧ Builtin.Range.rangeSize 0 ((n.val : Nat) : Int) 1 = ((n.val : Nat) : Int) := by decide +kernel
  exact q ⟨n, by omega⟩
/-- a turn's end where only the names of tmp are stored and the ledger stands -/
def TurnS (h₀ : Heap) (L I : Addr) (io : Obj) (tmp : Str → Bool) (m : Str → Option Value) (news : List (Addr × Obj)) (J : Prop) (R : Value → Shared → Prop) (s : Shared) (fl : Flow) (s₂ : Shared) : Prop :=
  match fl with
  | .ret v => R v s₂
  | .brk => False
  | _ => ∃ h' tk m' nw, s₂ = { s with heap := h', toks := tk } ∧ Fr h₀ L h' m' ∧ News h₀ L h' nw ∧ (∀ p ∈ (I, io) :: news, p ∈ nw) ∧ (∀ z, tmp z = false → m' z = m z) ∧ J
section
variable {h₀ : Heap} {L I : Addr} {io : Obj} {tmp : Str → Bool} {m : Str → Option Value} {news : List (Addr × Obj)} {J : Prop} {R : Value → Shared → Prop} {s : Shared} {h' : Heap} {tk : Nat} {m' : Str → Option Value} {nw : List (Addr × Obj)}
theorem TurnS.next (F : Fr h₀ L h' m') (N : News h₀ L h' nw) (sub : ∀ p ∈ (I, io) :: news, p ∈ nw) (e : ∀ z, tmp z = false → m' z = m z) (j : J) : TurnS h₀ L I io tmp m news J R s .next { s with heap := h', toks := tk } := ⟨h', tk, m', nw, rfl, F, N, sub, e, j⟩
theorem TurnS.cont (F : Fr h₀ L h' m') (N : News h₀ L h' nw) (sub : ∀ p ∈ (I, io) :: news, p ∈ nw) (e : ∀ z, tmp z = false → m' z = m z) (j : J) : TurnS h₀ L I io tmp m news J R s .cont { s with heap := h', toks := tk } := ⟨h', tk, m', nw, rfl, F, N, sub, e, j⟩
theorem TurnS.ret {s₂ : Shared} {v : Value} (h : R v s₂) : TurnS h₀ L I io tmp m news J R s (.ret v) s₂ := h
end
def tmpM (tmp : Str → Bool) (u m : Str → Option Value) (y : Str) : Option Value := if tmp y = true then u y else m y
theorem tmpM_of {tmp : Str → Bool} {m m' : Str → Option Value} (e : ∀ z, tmp z = false → m' z = m z) : m' = tmpM tmp m' m := by
  funext z
  unfold tmpM
  cases q : tmp z with
  | true => rw [if_pos rfl]
  | false => rw [if_neg Bool.false_ne_true]; exact e z q
theorem tmpM_off {tmp : Str → Bool} {u m : Str → Option Value} : ∀ z, tmp z = false → tmpM tmp u m z = m z := fun z q => by unfold tmpM; rw [q, if_neg Bool.false_ne_true]
theorem store_off {tmp : Str → Bool} {x : Str} {v : Option Value} {m m' : Str → Option Value} (hx : tmp x = true) (e : ∀ z, tmp z = false → m' z = m z) : ∀ z, tmp z = false → (fun y => if y = x then v else m' y) z = m z := fun z q => by
  show (if z = x then v else m' z) = m z
  rw [if_neg (fun h => by rw [h, hx] at q; cases q)]; exact e z q
section
variable {w : World} {A : Around} {s : Shared} {env : Env} {h₀ : Heap} {body : List Stmt} {m : Str → Option Value} {news : List (Addr × Obj)} {Q : Flow → Shared → Prop}
theorem turn_of {I : Addr} {io : Obj} {tmp : Str → Bool} {J : Prop} {R : Value → Shared → Prop} (off : ∀ p ∈ news, p.1 ≠ I) (hR : ∀ v s₂, R v s₂ → Q (.ret v) s₂) (fl : Flow) (s₂ : Shared) (h : TurnS h₀ env.locals I io tmp m news J R s fl s₂) :
    Turn h₀ env.locals I io (fun m' nw => nw = news ∧ (∀ z, tmp z = false → m' z = m z) ∧ J) Q s fl s₂ := by
  have fin : (∃ h' tk m' nw, s₂ = { s with heap := h', toks := tk } ∧ Fr h₀ env.locals h' m' ∧ News h₀ env.locals h' nw ∧ (∀ p ∈ (I, io) :: news, p ∈ nw) ∧ (∀ z, tmp z = false → m' z = m z) ∧ J) →
      ∃ h' tk m' news', s₂ = { s with heap := h', toks := tk } ∧ Fr h₀ env.locals h' m' ∧ News h₀ env.locals h' ((I, io) :: news') ∧ (∀ p ∈ news', p.1 ≠ I) ∧ (news' = news ∧ (∀ z, tmp z = false → m' z = m z) ∧ J) := by
    rintro ⟨h', tk, m', nw, e, F, N, sub, em, j⟩
    exact ⟨h', tk, m', news, e, F, fun p hp => N p (sub p hp), off, rfl, em, j⟩
  cases fl with
  | ret v => exact hR _ _ h
  | brk => exact h.elim
  | next => exact fin h
  | cont => exact fin h
theorem range_call {L : Addr} {n : Int} {t : Tok} {E q : Value → Shared → Prop} (F : Fr h₀ L s.heap m) (N : News h₀ L s.heap news)
    (h : ∀ r h' tk t u v, IsRange h' r 0 n 1 t u v → Fr h₀ L h' m → News h₀ L h' news → q (.ref r) { s with heap := h', toks := tk }) : wpAny (model pg w) A (call (.type "range") [.int n t]) q E s :=
  range1_rows F N fun h' tk t u v hr F' N' _ => h _ h' tk t u v hr F' N'
theorem range_L {x : Str} {px : Pos} {r L : Addr} {t u v : Tok} {n : Nat} (J : Nat → (Str → Option Value) → List (Addr × Obj) → Prop)
    (hr : IsRange s.heap r 0 (n : Int) 1 t u v) (hb : n ≤ 100) (hL : env.locals = L) (F : Fr h₀ L s.heap m) (N : News h₀ L s.heap news) (h0 : J 0 m news) (hh : A.handled = none)
    (step : ∀ i I t m₁ news₁ io h tk, i < n → J i m₁ news₁ → (∀ p ∈ news₁, p.1 ≠ I) → Fr h₀ L h m₁ → News h₀ L h ((I, io) :: news₁) →
      wpAny (model pg w) A (storeName env x (.int (i : Int) t)) (fun _ s₁ => wpAny (model pg w) A (execs body env) (Turn h₀ L I io (J (i + 1)) Q s) (fun _ _ => False) s₁) (fun _ _ => False) { s with heap := h, toks := tk })
    (done : ∀ h tk m₁ news₁, J n m₁ news₁ → Fr h₀ L h m₁ → News h₀ L h news₁ → Q .next { s with heap := h, toks := tk }) :
    wpAny (model pg w) A (pyIter (.ref r)) (fun it s₂ => LoopM w A env (.Name x px) body Q it s₂) (fun _ _ => False) s := by
  subst hL
  refine range_m hr (range_facts n hb).1 (range_facts n hb).2 F N J h0 hh ?_ done
  intro i I t m₁ news₁ io h tk hi hJ off F₁ N₁
  rw [Int.zero_add]
  exact step i I t m₁ news₁ io h tk hi hJ off F₁ N₁
theorem range_s {x : Str} {px : Pos} {r L : Addr} {t u v : Tok} {n : Nat} (tmp : Str → Bool) (J : Nat → Prop) (R : Value → Shared → Prop)
    (hr : IsRange s.heap r 0 (n : Int) 1 t u v) (hb : n ≤ 100) (hL : env.locals = L) (F : Fr h₀ L s.heap m) (N : News h₀ L s.heap news) (h0 : J 0) (hh : A.handled = none) (hR : ∀ v s₂, R v s₂ → Q (.ret v) s₂)
    (step : ∀ i I t u io h tk, i < n → J i → (∀ p ∈ news, p.1 ≠ I) → Fr h₀ L h (tmpM tmp u m) → News h₀ L h ((I, io) :: news) →
      wpAny (model pg w) A (storeName env x (.int (i : Int) t)) (fun _ s₁ => wpAny (model pg w) A (execs body env) (TurnS h₀ L I io tmp m news (J (i + 1)) R s) (fun _ _ => False) s₁) (fun _ _ => False) { s with heap := h, toks := tk })
    (done : ∀ h tk u, J n → Fr h₀ L h (tmpM tmp u m) → News h₀ L h news → Q .next { s with heap := h, toks := tk }) :
    wpAny (model pg w) A (pyIter (.ref r)) (fun it s₂ => LoopM w A env (.Name x px) body Q it s₂) (fun _ _ => False) s := by
  subst hL
  refine range_m hr (range_facts n hb).1 (range_facts n hb).2 F N (fun i m' nw => nw = news ∧ (∀ z, tmp z = false → m' z = m z) ∧ J i) ⟨rfl, fun _ _ => rfl, h0⟩ hh ?_ ?_
  · rintro i I t m₁ news₁ io h tk hi ⟨rfl, em, hj⟩ off F₁ N₁
    rw [tmpM_of em] at F₁
    rw [Int.zero_add]
    exact wpAny_mono (step i I t m₁ io h tk hi hj off F₁ N₁) (fun _ _ q => wpAny_mono q (fun fl s₂ z => turn_of off hR fl s₂ z) fun _ _ e => e) fun _ _ e => e
  · rintro h tk m₁ news₁ ⟨rfl, em, hj⟩ F₁ N₁
    rw [tmpM_of em] at F₁
    exact done h tk m₁ hj F₁ N₁
theorem tup_s {target : Expr} {elts : List Expr} {k : Nat} {pos : Pos} {ax L : Addr} {vs : List Value} (tmp : Str → Bool) (J : Nat → Prop) (R : Value → Shared → Prop)
    (ht : IsTup h₀ ax vs.toArray) (htg : target = .Tuple elts k pos) (hL : env.locals = L) (F : Fr h₀ L s.heap m) (N : News h₀ L s.heap news) (h0 : J 0) (hh : A.handled = none) (hR : ∀ v s₂, R v s₂ → Q (.ret v) s₂)
    (step : ∀ i I v u io h tk, vs[i]? = some v → J i → (∀ p ∈ news, p.1 ≠ I) → Fr h₀ L h (tmpM tmp u m) → News h₀ L h ((I, io) :: news) →
      wpAny (model pg w) A (assign (.Tuple elts k pos) env v) (fun _ s₁ => wpAny (model pg w) A (execs body env) (TurnS h₀ L I io tmp m news (J (i + 1)) R s) (fun _ _ => False) s₁) (fun _ _ => False) { s with heap := h, toks := tk })
    (done : ∀ h tk u, J vs.length → Fr h₀ L h (tmpM tmp u m) → News h₀ L h news → Q .next { s with heap := h, toks := tk }) :
    wpAny (model pg w) A (pyIter (.ref ax)) (fun it s₂ => LoopM w A env target body Q it s₂) (fun _ _ => False) s := by
  subst hL
  refine tup_m ht F N (fun i m' nw => nw = news ∧ (∀ z, tmp z = false → m' z = m z) ∧ J i) ⟨rfl, fun _ _ => rfl, h0⟩ htg hh ?_ ?_
  · rintro i I v m₁ news₁ io h tk hi ⟨rfl, em, hj⟩ off F₁ N₁
    rw [tmpM_of em] at F₁
    exact wpAny_mono (step i I v m₁ io h tk hi hj off F₁ N₁) (fun _ _ q => wpAny_mono q (fun fl s₂ z => turn_of off hR fl s₂ z) fun _ _ e => e) fun _ _ e => e
  · rintro h tk m₁ news₁ ⟨rfl, em, hj⟩ F₁ N₁
    rw [tmpM_of em] at F₁
    exact done h tk m₁ hj F₁ N₁
/-- three names out of a tuple of three -/
theorem assign3 {a b c : Str} {pa pb pc pos : Pos} {k : Nat} {ax L : Addr} {x y z : Value} {q : Unit → Shared → Prop} (hL : env.locals = L) (hh : A.handled = none) (ht : IsTup s.heap ax [x, y, z].toArray) (F : Fr h₀ L s.heap m) (N : News h₀ L s.heap news)
    (ha : env.kindOf a = some .local) (hb : env.kindOf b = some .local) (hc : env.kindOf c = some .local) (hk : env.scope.kind = .function)
    (h : ∀ h' tk, Fr h₀ L h' (fun v => if v = c then some z else if v = b then some y else if v = a then some x else m v) → News h₀ L h' news → q () { s with heap := h', toks := tk }) :
    wpAny (model pg w) A (assign (.Tuple [.Name a pa, .Name b pb, .Name c pc] k pos) env (.ref ax)) q (fun _ _ => False) s := by
  subst hL
  have hp : (env.scope.kind == .class || (env.scope.kind == .module && env.locals != env.globals)) = false := by rw [hk]; rfl
  refine assign_Tuple_tuple hh ht rfl rfl fun h₁ hs₁ => ?_
  have F₁ := F.extBut hs₁ (Nat.le_refl _)
  have N₁ := N.extBut hs₁ (Nat.le_refl _)
  show wpAny _ A (do holding [y, z] (assign (.Name a pa) env x); holding [z] (assign (.Name b pb) env y); holding [] (assign (.Name c pc) env z); pure ()) _ _ _
  refine wpAny_bind (wpAny_holding (wpAny_assign_Name (wpAny_storeName_local ha F₁.ns (fun h₂ hn₂ hs₂ => ?_) hp)))
  have F₂ := F₁.set hn₂ hs₂
  have N₂ := N₁.set hs₂
  refine wpAny_bind (wpAny_holding (wpAny_assign_Name (wpAny_storeName_local hb F₂.ns (fun h₃ hn₃ hs₃ => ?_) hp)))
  have F₃ := F₂.set hn₃ hs₃
  have N₃ := N₂.set hs₃
  refine wpAny_bind (wpAny_holding (wpAny_assign_Name (wpAny_storeName_local hc F₃.ns (fun h₄ hn₄ hs₄ => ?_) hp)))
  exact wpAny_pure (h h₄ _ (F₃.set hn₄ hs₄) (N₃.set hs₄))
theorem tup_at {a L : Addr} {vs : List Value} {i : Nat} {v : Value} {t : Tok} {E : Value → Shared → Prop} {value slice : Expr} {q : Value → Shared → Prop} (I : IsTup h₀ a vs.toArray) (F : Fr h₀ L s.heap m) (hx : vs[i]? = some v) (hb : vs.length ≤ 1000) (h : q v s)
    (hs : subscripted slice false (.ref a) (.int (i : Int) t) = operate [.ref a, .int (i : Int) t] (getItem (.ref a) (.int (i : Int) t)) := by with_unfolding_all rfl) :
    wpAny (model pg w) A (subscriptTail value slice (.ref a) (.int (i : Int) t)) q E s := by
  have hi : i < vs.length := (List.getElem?_eq_some_iff.mp hx).1
  refine item_tupleT (j := i) (I.keeps F.keep) (by omega) (by omega) ?_ hx h hs
  have e0 : (if (i : Int) < 0 then (i : Int) + (vs.length : Int) else (i : Int)) = (i : Int) := if_neg (by omega)
  have e1 : (decide (0 ≤ (i : Int)) && decide ((i : Int) < (vs.length : Int))) = true := by simp; omega
  unfold seqIndex?
  simp only [e0, e1, if_true, Int.toNat_natCast]
theorem lst_at {a L : Addr} {vs : List Value} {i : Nat} {v : Value} {t : Tok} {E : Value → Shared → Prop} {value slice : Expr} {q : Value → Shared → Prop} (I : h₀.IsList a vs.toArray) (F : Fr h₀ L s.heap m) (hx : vs[i]? = some v) (hb : vs.length ≤ 1000) (h : q v s)
    (hs : subscripted slice false (.ref a) (.int (i : Int) t) = operate [.ref a, .int (i : Int) t] (getItem (.ref a) (.int (i : Int) t)) := by with_unfolding_all rfl) :
    wpAny (model pg w) A (subscriptTail value slice (.ref a) (.int (i : Int) t)) q E s := by
  have hi : i < vs.length := (List.getElem?_eq_some_iff.mp hx).1
  have hl : s.heap.IsList a vs.toArray := I.at fun o e => F.keep a o e
  exact tail_any hl.typeIs slot_list_getitem.lookup (wpAny_getItem_list hl (by omega) (by omega) (by simpa using hx) h) hs
end
theorem ints_at {vs : List Value} {ns : List Int} (x : IntsAre vs ns) : ∀ {i : Nat} {c : Int}, ns[i]? = some c → ∃ t, vs[i]? = some (.int c t) := by
  induction x with
  | nil => intro i c e; simp at e
  | cons n t _ ih =>
    intro i c e
    cases i with
    | zero => simp only [List.getElem?_cons_zero, Option.some.injEq] at e; subst e; exact ⟨t, rfl⟩
    | succ i => exact ih (by simpa using e)
end
section
/-! C2 -/
local macro_rules | `(tactic| walk_at "subscriptTail") => `(tactic| (k_here; (with_reducible show wpAny _ _ (subscriptTail _ _ (Value.ref _) (Value.int _ _)) _ _ _); k_dflt (refine' item_tupleT ?t ?a ?b ?c ?d ?_; (case t => exact IsTup.keeps (by with_reducible assumption) (Fr.keep (by with_reducible assumption))); (case a => decide); (case b => decide); (case c => rfl); (case d => rfl); k_whole)))
local macro_rules | `(tactic| walk_at "subscriptTail") => `(tactic| (k_here; (with_reducible show wpAny _ _ (subscriptTail _ _ (Value.ref _) (Value.int _ _)) _ _ _); k_dflt (refine' item_tupleT ?t ?a ?b ?c ?d ?_; (case t => with_reducible assumption); (case a => decide); (case b => decide); (case c => rfl); (case d => rfl); k_whole)))
local macro_rules | `(tactic| walk_at "call builtin:len") => `(tactic| (k_here; (with_reducible show wpAny _ _ (call (Value.builtin "len") [Value.ref _]) _ _ _); k_dflt (refine' len_tuple ?t ?a ?_; (case t => exact IsTup.keeps (by with_reducible assumption) (Fr.keep (by with_reducible assumption))); (case a => (rw [List.size_toArray]; omega)); k_whole; (try rw [List.size_toArray]))))
local macro_rules | `(tactic| walk_at "subscriptTail") => `(tactic| (k_here; (with_reducible show wpAny _ _ (subscriptTail _ _ (Value.ref _) (Value.int _ _)) _ _ _); k_dflt (first
  | (refine' tup_at ?t ?f ?x ?b ?_; (case t => with_reducible assumption); (case f => with_reducible assumption); (case x => with_reducible assumption); (case b => with_reducible assumption); k_whole)
  | (refine' lst_at ?t ?f ?x ?b ?_; (case t => with_reducible assumption); (case f => with_reducible assumption); (case x => with_reducible assumption); (case b => with_reducible assumption); k_whole))))
local macro_rules | `(tactic| walk_at "call ref") => `(tactic| ((with_reducible show wpAny _ _ (call (Value.ref 49) [_]) _ _ _); k_dflt (refine' PCon.use (is_edge_ok _ _ _) ?kB ?kF ?kX ?kT ?kf ?kk ?kd ?kp ?_; (case kB => k_asm); (case kF => k_asm); (case kX => k_asm); (case kT => k_asm); (case kf => exact rfl); (case kk => exact rfl); (case kd => omega); (case kp => exact SymAt.keeps (Fr.keep (by assumption)) (by assumption)); k_whole; intro r9 h' tk' F' K' o9; subst o9; have N' := News.kept (by assumption) K'; (try dsimp only at F' N' ⊢); (try k_sweep))))
local macro_rules | `(tactic| walk_at "execs cons") => `(tactic| (refine wpAny_execs_cons ?_; k_fold; (try dsimp only); (try (refine tok_free ?_; intro tk9))))
local macro_rules | `(tactic| walk_at "call type:range") => `(tactic| (k_here; k_dflt (refine' range_call ?F ?N ?_; (case F => k_asm); (case N => k_asm); k_whole); intro r9 h9 tk9 t9 u9 v9 hr9 F9 N9; (try k_sweep)))
local macro_rules | `(tactic| walk_at "Post") => `(tactic| refine Post.intro (by assumption) ?_)
local macro_rules | `(tactic| walk_at "exec For Name Call cons nil") => `(tactic| k_dflt (refine For_m ?_))
def SymTup (h : Heap) (a : Addr) (ys : List Sym) : Prop := ∃ vs, IsTup h a (List.toArray vs) ∧ Each (SymAt h) vs ys
def IntList (h : Heap) (a : Addr) (ns : List Int) : Prop := ∃ vs, h.IsList a (List.toArray vs) ∧ IntsAre vs ns
def Sym.hit (y : Sym) (c : Int) : Bool := match y with
  | .l y => y.codes.any (· == c)
  | _ => false
def okAt (k : Int) (ys : List Sym) (cs : List Int) (j : Nat) : Bool := decide ((j : Int) = k) || match ys[j]?, cs[j]? with
  | some y, some c => y.hit c
  | _, _ => false
def lm (k : Int) (ys : List Sym) (cs : List Int) : Bool := (List.range ys.length).all (okAt k ys cs)
theorem okAt_of (k : Int) {ys : List Sym} {cs : List Int} {j : Nat} {y : Sym} {c : Int} (hy : ys[j]? = some y) (hc : cs[j]? = some c) : okAt k ys cs j = (decide ((j : Int) = k) || y.hit c) := by unfold okAt; rw [hy, hc]
theorem ok_succ {P : Nat → Prop} {i : Nat} (h : ∀ j, j < i → P j) (hi : P i) : ∀ j, j < i + 1 → P j := fun j hj => by
  by_cases q : j = i
  · rw [q]; exact hi
  · exact h j (by omega)
theorem lm_false {k : Int} {ys : List Sym} {cs : List Int} {i : Nat} (hi : i < ys.length) (h : okAt k ys cs i = false) : lm k ys cs = false := by
  unfold lm
  rw [List.all_eq_false]
  exact ⟨i, List.mem_range.mpr hi, by rw [h]; exact Bool.false_ne_true⟩
theorem lm_true {k : Int} {ys : List Sym} {cs : List Int} (h : ∀ i, i < ys.length → okAt k ys cs i = true) : lm k ys cs = true := by
  unfold lm
  rw [List.all_eq_true]
  exact fun i hi => h i (List.mem_range.mp hi)
theorem levels_match_ok (w : World) (a c : Addr) (ys : List Sym) (cs : List Int) (k : Int) (u : Tok) (hl : cs.length = ys.length) (hs : ys.length ≤ 100) :
    PCon w 77 880 [.ref a, .ref c, .int k u] (fun h => SymTup h a ys ∧ IntList h c cs) (fun _ _ r => r = .bool (lm k ys cs)) := by
  refine' PCon.intro (binds := [(Str.ofString "ins", .ref a), (Str.ofString "codes", .ref c), (Str.ofString "skip", .int k u)]) ?ho ?hcd ?hlim ?hbind ?hloc ?hco ?hgen ?hk ?hcell ?h
  case ho => k_is
  case hcd => k_is
  case hlim => decide
  case hbind => exact rfl
  case hloc => exact locs rfl
  case hco => exact rfl
  case hgen => exact rfl
  case hk => exact rfl
  case hcell => decide
  intro mean mg mb dp un gd env outer A base g L' h₁ s B F N X T hd hp
  obtain ⟨⟨vs, I, V⟩, ns, J, W⟩ := hp
  have hv : vs.length = ys.length := V.1
  have hn : ns.length = cs.length := W.length
  k_steps
  rename_i r2 h2 tk2 t2 u2 v2 hr F N
  rw [hv] at hr
  refine range_s (fun y => y == Str.ofString "i") (fun i => ∀ j, j < i → okAt k ys cs j = true) (fun v s₂ => Post g L' (fun _ _ r => r = .bool (lm k ys cs)) s (.ret v) s₂) hr hs (L := L') rfl F N (fun j hj => absurd hj (Nat.not_lt_zero _)) rfl (fun _ _ q => q) ?_ ?_
  · intro i I t um io h tk hi hJ off F N
    try dsimp only
    clear hr
    obtain ⟨yv, hyv, Y⟩ := V.2 i ys[i] (List.getElem?_eq_getElem hi)
    obtain ⟨ct, hcv⟩ := ints_at W (i := i) (List.getElem?_eq_getElem (by omega))
    have b1 : vs.length ≤ 1000 := by omega
    have b2 : ns.length ≤ 1000 := by omega
    generalize hyi : ys[i] = y at Y
    have hY : ys[i]? = some y := by rw [List.getElem?_eq_getElem hi, hyi]
    have hC : cs[i]? = some cs[i] := List.getElem?_eq_getElem (by omega)
    have ok := okAt_of k hY hC
    have bad : okAt k ys cs i = false → Value.bool false = Value.bool (lm k ys cs) := fun q => by rw [lm_false hi q]
    k_steps
    · exact TurnS.cont (by assumption) (by assumption) (fun p hp => hp) (store_off rfl tmpM_off) (ok_succ hJ (by rw [ok, decide_eq_true (by assumption), Bool.true_or]))
    · refine TurnS.ret (Post.intro (by assumption) (bad ?_))
      have e2 : y.isEdge = true := by assumption
      rw [ok, decide_eq_false (by assumption), Bool.false_or]
      cases y <;> first | rfl | cases e2
    · have e2 : y.isEdge = false := by assumption
      rcases y with y | _ | _ | _ | _ | _ | ⟨_, _⟩
      rotate_left
      iterate 6 cases e2
      obtain ⟨t3, rfl⟩ := Y
      refine PCon.use (level_codes_ok w y t3) (by assumption) (by assumption) (by assumption) (by assumption) rfl rfl (by omega) trivial ?_
      rintro r h' tk' F' K' ⟨a2, vs2, rfl, n1, n2, V2⟩
      have N' := News.made (by assumption) (by assumption) K' n1 n2
      have I2 := IsTup.of n2
      try dsimp only at F' N' K' ⊢
      rw [show cs.getD (i : Int).toNat 0 = cs[i] by simp [List.getD_eq_getElem?_getD, hC]]
      refine notin_tuple_ints I2 V2 ?_
      k_steps
      · exact TurnS.next F' N' (fun p hp => List.mem_cons_of_mem _ hp) (store_off rfl tmpM_off) (ok_succ hJ (by rw [ok, show (Sym.l y).hit cs[i] = true by assumption, Bool.or_true]))
      · refine TurnS.ret (Post.intro (by assumption) (bad ?_))
        rw [ok, decide_eq_false (by assumption), Bool.false_or]
        assumption
  · intro h tk um hJ F N
    try dsimp only
    k_steps
    show Value.bool true = _
    rw [lm_true hJ]
end
section
/-! B3 -/
/-- a pair of ints as a tuple -/
def PairAt (h : Heap) (v : Value) (p : Int × Int) : Prop := ∃ b t u, v = .ref b ∧ IsTup h b [.int p.1 t, .int p.2 u].toArray
theorem PairAt.keeps {h h' : Heap} {v : Value} {p : Int × Int} (k : h.StaysIn h') (x : PairAt h v p) : PairAt h' v p := let ⟨b, t, u, e, i⟩ := x; ⟨b, t, u, e, i.keeps k⟩
section
variable {w : World} {A : Around} {s : Shared}
theorem pair_key {b : Addr} {x y : Int} {t u : Tok} (i : IsTup s.heap b [.int x t, .int y u].toArray) : IsTupleKey (intKind pg w) s.heap [x, y] b := by
  obtain ⟨o, ho, hc, n, hd⟩ := i
  exact ⟨o, _, n, ho, hc, hd, .cons (intKind_is _ _ _ _) (.cons (intKind_is _ _ _ _) .nil)⟩
theorem eqBool_pair {v : Value} {p : Int × Int} {b : Addr} {x y : Int} {t u : Tok} {E : Value → Shared → Prop} {Q : Bool → Shared → Prop} (hu : A.units < cLine) (hv : PairAt s.heap v p) (i : IsTup s.heap b [.int x t, .int y u].toArray)
    (h : Q (decide (p = (x, y))) s) : wpAny (model pg w) A (eqBool v (.ref b)) Q E s := by
  obtain ⟨a, t', u', rfl, i'⟩ := hv
  refine wpAny_eqBool_tuple hu (pair_key i') (pair_key i) ?_
  have e : decide ([p.1, p.2] = [x, y]) = decide (p = (x, y)) := by
    obtain ⟨p1, p2⟩ := p
    simp
  rw [e]; exact h
theorem pairs_contains_tree {a b : Addr} {vs : List Value} {ps : List (Int × Int)} {x y : Int} {t u : Tok} {P : Fin → Shared → Prop} (hu : A.units < cLine) (ht : IsTup s.heap a vs.toArray) (hi : Each (PairAt s.heap) vs ps) (i : IsTup s.heap b [.int x t, .int y u].toArray)
    (h : P (.done (.ret (.bool (ps.any fun p => decide (p = (x, y)))))) s) : wpAny (model pg w) A (Builtin.«tuple.__contains__» ⟨[.ref a, .ref b], []⟩) P (fun _ _ => False) s := by
  show wpAny _ _ (Builtin.Tuple.tupleItemsOf (.ref a) >>= _) _ _ s
  refine wpAny_bind (tupleItemsOf_ ht ?_)
  refine wpAny_bind (forIn_array_ _ (fun rest b' s' => b'.1 = none ∧ s' = s ∧ ∃ j, rest = vs.drop j ∧ (ps.drop j).any (fun p => decide (p = (x, y))) = ps.any (fun p => decide (p = (x, y)))) _ ?_ ?_ vs.toArray _ ⟨rfl, rfl, 0, by simp, by simp⟩)
  · rintro v rest b' s' ⟨hb, rfl, j, hr, hp⟩
    have hv : vs[j]? = some v := by
      have := congrArg (fun l => l[0]?) hr
      simpa [List.getElem?_drop] using this.symm
    obtain ⟨p, hpj, hpa⟩ := hi.at hv
    refine wpAny_bind (eqBool_pair hu hpa i ?_)
    have hd : ps.drop j = p :: ps.drop (j + 1) := by
      obtain ⟨hj, e⟩ := List.getElem?_eq_some_iff.mp hpj
      rw [List.drop_eq_getElem_cons hj, e]
    rw [hd, List.any_cons] at hp
    by_cases hq : p = (x, y)
    · rw [decide_eq_true hq] at hp ⊢
      rw [← hp, Bool.true_or] at h
      exact wpAny_bind (wpAny_pure (wpAny_pure (wpAny_pure h)))
    · rw [decide_eq_false hq] at hp ⊢
      rw [Bool.false_or] at hp
      refine wpAny_pure ⟨rfl, rfl, j + 1, ?_, hp⟩
      have := congrArg List.tail hr
      simpa using this
  · rintro ⟨b1, b2⟩ s' ⟨hb, rfl, j, hr, hp⟩
    simp only at hb
    subst hb
    have hj : ps.drop j = [] := by
      have hl := congrArg List.length hr
      rw [List.length_nil, List.length_drop, hi.1] at hl
      exact List.drop_eq_nil_iff.mpr (by omega)
    rw [hj, List.any_nil] at hp
    rw [← hp] at h
    exact wpAny_pure h
theorem in_pairs {a b : Addr} {vs : List Value} {ps : List (Int × Int)} {x y : Int} {t u : Tok} {Q : Value → Shared → Prop} (hu : A.units < 9000) (ht : IsTup s.heap a vs.toArray) (hi : Each (PairAt s.heap) vs ps) (i : IsTup s.heap b [.int x t, .int y u].toArray)
    (h : Q (.bool (ps.any fun p => decide (p = (x, y)))) s) : wpAny (model pg w) A (compareOp .In (.ref b) (.ref a)) Q (fun _ _ => False) s := by
  have hu' : A.in1.units < cLine := by show A.units + 1 < 9900; omega
  show wpAny _ _ (do return .bool (← contains (.ref a) (.ref b))) Q _ s
  refine wpAny_bind ?_
  unfold contains
  refine wpAny_holding ?_
  refine wpAny_bind (wpAny_specialOf ht.typeIs slot_tuple_contains.lookup ?_)
  rw [if_neg (by decide)]
  exact wpAny_bind (wpAny_callSpecialUnlessNone?_slot (name := Str.ofString "__contains__") ht.typeIs slot_tuple_contains
    (wpAny_call_entry slot_tuple_contains ht.typeIs entry_tuple_contains (pairs_contains_tree hu' ht hi i ⟨_, rfl, wpAny_truthy_bool (wpAny_pure h)⟩) (args_tuple_contains _ _)))
end
abbrev tupO (vs : List Value) : Obj := { cls := .type "tuple", data := .seq (List.toArray vs) }
/-- the ledger with the object at q put anew -/
def updL (q : Addr) (o : Obj) (nw : List (Addr × Obj)) : List (Addr × Obj) := nw.map fun p => if p.1 = q then (q, o) else p
theorem mem_updL_self {q : Addr} {o o₀ : Obj} {nw : List (Addr × Obj)} (h : (q, o₀) ∈ nw) : (q, o) ∈ updL q o nw := List.mem_map.mpr ⟨_, h, by simp⟩
theorem mem_updL_ne {q : Addr} {o : Obj} {p : Addr × Obj} {nw : List (Addr × Obj)} (h : p ∈ nw) (hn : p.1 ≠ q) : p ∈ updL q o nw := List.mem_map.mpr ⟨_, h, by rw [if_neg hn]⟩
theorem updL_addr {q : Addr} {o : Obj} {p : Addr × Obj} {nw : List (Addr × Obj)} (h : p ∈ updL q o nw) : ∃ p' ∈ nw, p'.1 = p.1 := by
  obtain ⟨p', hp', e⟩ := List.mem_map.mp h
  refine ⟨p', hp', ?_⟩
  by_cases q' : p'.1 = q
  · rw [if_pos q'] at e; rw [← e]; exact q'
  · rw [if_neg q'] at e; rw [← e]
theorem updL_off {q I : Addr} {o : Obj} {nw : List (Addr × Obj)} (h : ∀ p ∈ nw, p.1 ≠ I) : ∀ p ∈ updL q o nw, p.1 ≠ I := fun _ hp => let ⟨p', hp', e⟩ := updL_addr hp; e ▸ h p' hp'
section
variable {w : World} {A : Around} {s : Shared} {h₀ : Heap} {L : Addr} {m : Str → Option Value} {nw : List (Addr × Obj)}
theorem append_meth {q : Addr} {its : Array Value} {k : Nat} {pl : Sem Bool} {E : Value → Shared → Prop} {Q : Value × List Value → Shared → Prop} (N : News h₀ L s.heap nw) (hm : (q, W.listOf its k) ∈ nw) (h : Q (.builtin "list.append", [.ref q]) s) :
    wpAny (model pg w) A (getMethod (.ref q) "append" pl) Q E s := Calls.getMethod_list_append (N.get hm) rfl rfl h
theorem append_in {q : Addr} {its : Array Value} {k : Nat} {x : Value} {E : Value → Shared → Prop} {Q : Value → Shared → Prop} (F : Fr h₀ L s.heap m) (N : News h₀ L s.heap nw) (hm : (q, W.listOf its k) ∈ nw)
    (h : ∀ h', Fr h₀ L h' m → News h₀ L h' (updL q (W.listOf (its.push x) (k + 1)) nw) → Q .none { s with heap := h' }) (hsz : its.size ≤ sizeLine) : wpAny (model pg w) A (call (.builtin "list.append") [.ref q, x]) Q E s := by
  have z := N _ hm
  exact append_at (hsz := hsz) z.1 fun h' hs ho' => h h' (F.change hs z.2.1 z.2.2) (N.update hm hs ho')
/-- a tuple of the ledger is no list of it -/
theorem tup_ne_list {b q : Addr} {h : Heap} {vs : List Value} {its : Array Value} {k : Nat} (N : News h₀ L h nw) (hb : (b, tupO vs) ∈ nw) (hq : (q, W.listOf its k) ∈ nw) : b ≠ q := fun e => by
  subst e
  have e := (N _ hb).1.symm.trans (N _ hq).1
  simp [tupO, W.listOf] at e
end
end
section
/-! C3 -/
local macro_rules | `(tactic| walk_at "subscriptTail") => `(tactic| (k_here; (with_reducible show wpAny _ _ (subscriptTail _ _ (Value.ref _) (Value.int _ _)) _ _ _); k_dflt (refine' item_tupleT ?t ?a ?b ?c ?d ?_; (case t => exact IsTup.keeps (by with_reducible assumption) (Fr.keep (by with_reducible assumption))); (case a => decide); (case b => decide); (case c => rfl); (case d => rfl); k_whole)))
local macro_rules | `(tactic| walk_at "compareOp Eq ref") => `(tactic| (k_here; (with_reducible show wpAny _ _ (compareOp CmpOp.Eq (Value.ref _) (Value.str _ _)) _ _ _); k_dflt (refine' cmp_ofEq (SeqAt.RcAt.tuple_str _ _ ?t ?u _ _ _ _ ?_); (case t => exact IsTup.keeps (by with_reducible assumption) (Fr.keep (by with_reducible assumption))); (case u => (dsimp only; rw [cLine_is]; omega)); k_whole)))
local macro_rules | `(tactic| walk_at "Post") => `(tactic| refine Post.intro (by assumption) ?_)
local macro_rules | `(tactic| walk_at "exec For Name Name cons nil") => `(tactic| k_dflt (refine For_m ?_))
local macro_rules | `(tactic| walk_at "execs cons") => `(tactic| (refine wpAny_execs_cons ?_; k_fold))
def inn (v : Int) (ws : List Int) : List (Int × Int) := (ws.filter fun w => decide (v ≠ w)).map fun w => (v, w)
def prod (bs ws : List Int) : List (Int × Int) := bs.flatMap fun v => inn v ws
def Sym.pairs : Sym → List (Int × Int)
  | .r => [(0, 1)] | .f => [(1, 0)] | .p => [(0, 1), (0, 3), (3, 1)] | .n => [(1, 0), (1, 3), (3, 0)] | .s => prod [0, 1, 3] [0, 1, 3] | .e x y => prod x.codes y.codes | .l _ => []
def PairTup (ps : List (Int × Int)) (h : Heap) (r : Value) : Prop := ∃ a vs, r = .ref a ∧ IsTup h a (List.toArray vs) ∧ Each (PairAt h) vs ps
theorem cut7 {w : World} {A : Around} {env : Env} {s : Shared} {a b c d e f g : Stmt} {rest : List Stmt} {Q : Flow → Shared → Prop} (Mid : Shared → Prop)
    (h1 : wpAny (model pg w) A (execs [a, b, c, d, e, f, g] env) (fun fl s' => fl = .next ∧ Mid s') (fun _ _ => False) s) (h2 : ∀ s', Mid s' → wpAny (model pg w) A (execs rest env) Q (fun _ _ => False) s') :
    wpAny (model pg w) A (execs (a :: b :: c :: d :: e :: f :: g :: rest) env) Q (fun _ _ => False) s := by
  have app : ∀ (pre : List Stmt) (Γ : PySem.Ctx) (p : Pos) (s : Shared), Γ.In A → Sem.wp (model pg w) Γ (execs pre env) (fun fl _ s' => fl = .next ∧ Mid s') (fun _ _ _ => False) p s →
      Sem.wp (model pg w) Γ (execs (pre ++ rest) env) (fun fl _ s' => Q fl s') (fun _ _ _ => False) p s := by
    intro pre
    induction pre with
    | nil =>
      intro Γ p s hΓ h
      exact h2 s h.2 Γ p hΓ
    | cons st r ih =>
      intro Γ p s hΓ h
      rw [execs_cons, Sem.wp_bind'] at h
      rw [List.cons_append, execs_cons, Sem.wp_bind']
      refine Sem.wp_mono _ Γ _ (fun fl p' s' h' => ?_) (fun _ _ _ e => e) p s h
      cases fl with
      | next => exact ih Γ p' s' hΓ h'
      | ret v => exact absurd h'.1 (by simp)
      | brk => exact absurd h'.1 (by simp)
      | cont => exact absurd h'.1 (by simp)
  exact fun Γ p hΓ => app [a, b, c, d, e, f, g] Γ p s hΓ (h1 Γ p hΓ)
def EMid (g : Heap) (L : Addr) (v : Value) (bs ws : List Int) (s s' : Shared) : Prop := ∃ h tk b₁ b₂ vs ts, s' = { s with heap := h, toks := tk } ∧ Fr g L h (fun y => if y = Str.ofString "behind" then some (.ref b₂) else if y = Str.ofString "before" then some (.ref b₁) else List.lookup y [(Str.ofString "symbol", v)]) ∧
  News g L h [(b₁, tupO vs), (b₂, tupO ts)] ∧ IntsAre vs bs ∧ IntsAre ts ws
def Sym.two : Sym → Bool
  | .s | .e _ _ => true | _ => false
theorem codes_le (l : Lv) : l.codes.length ≤ 3 := by cases l <;> decide
def EMidX (y : Sym) (g : Heap) (L : Addr) (v : Value) (s s' : Shared) : Prop := ∃ bs ws, y.pairs = prod bs ws ∧ bs.length ≤ 3 ∧ ws.length ≤ 3 ∧ EMid g L v bs ws s s'
/-- the pairs' objects stand in the ledger -/
def PL (nw : List (Addr × Obj)) (vl : List Value) (ps : List (Int × Int)) : Prop := Each (fun u p => ∃ b t t', u = .ref b ∧ (b, tupO [.int p.1 t, .int p.2 t']) ∈ nw) vl ps
theorem PL.mono {nw nw' : List (Addr × Obj)} {vl : List Value} {ps : List (Int × Int)} (x : PL nw vl ps) (k : ∀ b vs, (b, tupO vs) ∈ nw → (b, tupO vs) ∈ nw') : PL nw' vl ps := Each.mono x fun _ _ ⟨b, t, t', e, hm⟩ => ⟨b, t, t', e, k b _ hm⟩
theorem PL.at {g h : Heap} {L : Addr} {nw : List (Addr × Obj)} {vl : List Value} {ps : List (Int × Int)} (x : PL nw vl ps) (N : News g L h nw) : Each (PairAt h) vl ps := Each.mono x fun _ _ ⟨b, t, t', e, hm⟩ => ⟨b, t, t', e, News.isTup N hm⟩
structure EJ (q b₁ b₂ : Addr) (vs ts : List Value) (ps : List (Int × Int)) (tmp : Str → Bool) (m₀ m : Str → Option Value) (nw : List (Addr × Obj)) (vl : List Value) (k : Nat) : Prop where
  map : ∀ z, tmp z = false → m z = m₀ z
  lst : (q, W.listOf vl.toArray k) ∈ nw
  bef : (b₁, tupO vs) ∈ nw
  beh : (b₂, tupO ts) ∈ nw
  prs : PL nw vl ps
theorem with_map {h₀ h : Heap} {L : Addr} {m : Str → Option Value} {P : Prop} (_ : Fr h₀ L h m) (k : ∀ m₀, m₀ = m → P) : P := k m rfl
theorem inn_le (v : Int) (ws : List Int) : (inn v ws).length ≤ ws.length := by unfold inn; rw [List.length_map]; exact List.length_filter_le _ _
theorem prod_le (ws : List Int) : ∀ bs : List Int, (prod bs ws).length ≤ bs.length * ws.length
  | [] => by simp [prod]
  | b :: r => by
    have h1 := prod_le ws r
    have h2 := inn_le b ws
    have e : prod (b :: r) ws = inn b ws ++ prod r ws := rfl
    rw [e, List.length_append, List.length_cons, Nat.add_mul, Nat.one_mul]
    omega
theorem prod_succ {bs ws : List Int} {i : Nat} {b : Int} (h : bs[i]? = some b) : prod (bs.take (i + 1)) ws = prod (bs.take i) ws ++ inn b ws := by
  rw [List.take_add_one, h]; simp [prod]
theorem inn_succ {v : Int} {ws : List Int} {j : Nat} {x : Int} (h : ws[j]? = some x) : inn v (ws.take (j + 1)) = inn v (ws.take j) ++ (if v ≠ x then [(v, x)] else []) := by
  rw [List.take_add_one, h]
  unfold inn
  by_cases q : v = x
  · simp [q]
  · simp [q]
theorem edge_pairs_1 (w : World) (v : Value) (y : Sym) (hy : y.isEdge = true) (h2 : ¬ y.two = true) : PCon w 56 860 [v] (fun h => SymAt h v y) (fun _ h r => PairTup y.pairs h r) := by
  refine' PCon.intro (binds := [(Str.ofString "symbol", v)]) ?ho ?hcd ?hlim ?hbind ?hloc ?hco ?hgen ?hk ?hcell ?h
  case ho => k_is
  case hcd => k_is
  case hlim => decide
  case hbind => exact rfl
  case hloc => exact locs rfl
  case hco => exact rfl
  case hgen => exact rfl
  case hk => exact rfl
  case hcell => decide
  intro mean mg mb dp un gd env outer A base g L' h₁ s B F N X T hd hp
  rcases y with l | _ | _ | _ | _ | _ | ⟨a, b⟩
  · cases hy
  rotate_left 4
  iterate 2 exact absurd rfl h2
  all_goals
    obtain ⟨t, rfl⟩ := hp
    k_steps
    refine ⟨_, _, rfl, News.isTup (by assumption) (by k_mem), ?_⟩
    repeat' (first | exact Each.nil | refine Each.cons ⟨_, _, _, rfl, News.isTup (by assumption) (by k_mem)⟩ ?_)
local macro_rules | `(tactic| k_mem) => `(tactic| first | assumption | exact List.mem_cons_of_mem _ (by assumption) | exact List.mem_cons_of_mem _ (List.mem_cons_of_mem _ (by assumption)) | exact List.mem_cons_of_mem _ (List.mem_cons_of_mem _ (List.mem_cons_of_mem _ (by assumption))))
local macro_rules | `(tactic| walk_at "getMethod ref") => `(tactic| (k_here; (with_reducible show wpAny _ _ (getMethod (Value.ref _) (PySem.Str.ofString "append") _) _ _ _); k_dflt (refine' append_meth ?N ?m ?_; (case N => k_asm); (case m => k_mem); k_whole)))
local macro_rules | `(tactic| walk_at "call builtin:list.append") => `(tactic| (k_here; k_dflt (refine' append_in ?F ?N ?m ?_ ?z; (case F => k_asm); (case N => k_asm); (case m => k_mem); (case z => assumption); k_whole); intro h' F' N'; (try k_sweep)))
theorem edge_pairs_2 (w : World) (v : Value) (y : Sym) (h2 : y.two = true) : PCon w 56 860 [v] (fun h => SymAt h v y) (fun _ h r => PairTup y.pairs h r) := by
  refine' PCon.intro (binds := [(Str.ofString "symbol", v)]) ?ho ?hcd ?hlim ?hbind ?hloc ?hco ?hgen ?hk ?hcell ?h
  case ho => k_is
  case hcd => k_is
  case hlim => decide
  case hbind => exact rfl
  case hloc => exact locs rfl
  case hco => exact rfl
  case hgen => exact rfl
  case hk => exact rfl
  case hcell => decide
  intro mean mg mb dp un gd env outer A base g L' h₁ s B F N X T hd hp
  refine cut7 (EMidX y g L' v s) ?_ ?_
  · rcases y with l | _ | _ | _ | _ | _ | ⟨a, b⟩
    iterate 5 cases h2
    · obtain ⟨t, rfl⟩ := hp
      k_steps
      exact ⟨[0, 1, 3], [0, 1, 3], rfl, by decide, by decide, _, _, _, _, _, _, rfl, by assumption, fun p hp => ‹News _ _ _ [_, _]› p (by simp only [List.mem_cons, List.not_mem_nil, or_false] at hp ⊢; exact hp.symm), by repeat constructor, by repeat constructor⟩
    · obtain ⟨x, t₁, t₂, t₃, rfl, I⟩ := hp
      k_steps
      refine PCon.use (level_codes_ok w a t₂) (by assumption) (by assumption) (by assumption) (by assumption) rfl rfl (by omega) trivial ?_
      rintro r h' tk' F' K' ⟨a2, vs2, rfl, n1, n2, V2⟩
      have N' := News.made (by assumption) (by assumption) K' n1 n2
      try dsimp only at F' N' K' ⊢
      k_steps
      refine PCon.use (level_codes_ok w b t₃) (by assumption) (by assumption) (by assumption) (by assumption) rfl rfl (by omega) trivial ?_
      rintro r h' tk' F' K' ⟨a3, vs3, rfl, n1, n2, V3⟩
      have N' := News.made (by assumption) (by assumption) K' n1 n2
      try dsimp only at F' N' K' ⊢
      k_steps
      refine ⟨a.codes, b.codes, rfl, codes_le a, codes_le b, _, _, a2, a3, _, _, rfl, Fr.ext (by assumption) (fun z => ?_), fun p hp => ‹News _ _ _ [_, _, _, _]› p (by simp only [List.mem_cons, List.not_mem_nil, or_false] at hp ⊢; rcases hp with hp | hp <;> simp [hp]), V2, V3⟩
      by_cases z1 : z = Str.ofString "behind"
      · simp [z1]
      · by_cases z2 : z = Str.ofString "before"
        · simp [z2]
        · simp [z1, z2]
  · rintro s' ⟨bs, ws, hp, hbs, hws, h, tk, b₁, b₂, vs, ts, rfl, F, N, V, Wt⟩
    have hvs : vs.length = bs.length := V.length
    have hts : ts.length = ws.length := Wt.length
    have small : ∀ i, (prod (bs.take i) ws).length ≤ 9 := fun i => Nat.le_trans (prod_le ws _) (Nat.mul_le_mul (Nat.le_trans (List.length_take_le' _ _) hbs) hws)
    k_steps
    rename_i q _ l1 _ F N
    try dsimp only
    refine with_map F fun m₀ em => ?_
    refine tupN_L (L := L') (vs := vs) rfl F N (fun i m nw => ∃ vl k, EJ q b₁ b₂ vs ts (prod (bs.take i) ws) (fun y => y == Str.ofString "v" || y == Str.ofString "w") m₀ m nw vl k) (fun i m nw ⟨_, _, e⟩ => e.bef)
      ⟨[], 0, fun _ _ => by rw [em], by simp, by simp, by simp, Each.nil⟩ rfl ?_ ?_
    · rintro i I v₁ m₁ nw₁ io h tk hv ⟨vl, k, e⟩ off F N
      obtain ⟨b, hb, tb, rfl⟩ : ∃ b, bs[i]? = some b ∧ ∃ t, v₁ = .int b t := by
        have hi : i < bs.length := by rw [← hvs]; exact (List.getElem?_eq_some_iff.mp hv).1
        obtain ⟨t, ht⟩ := ints_at V (List.getElem?_eq_getElem hi)
        rw [hv] at ht
        exact ⟨_, List.getElem?_eq_getElem hi, t, Option.some.inj ht⟩
      have F := tmpM_of e.map ▸ F
      rw [em] at F
      k_steps
      rename_i F N
      try dsimp only
      refine with_map F fun m₂ em₂ => ?_
      refine tupN_L (L := L') (vs := ts) rfl F N (fun j m nw => ∃ nw' vl k, nw = (I, io) :: nw' ∧ (∀ p ∈ nw', p.1 ≠ I) ∧ EJ q b₁ b₂ vs ts (prod (bs.take i) ws ++ inn b (ws.take j)) (fun y => y == Str.ofString "w") m₂ m nw' vl k) (fun j m nw ⟨nw', _, _, h1, _, e⟩ => h1 ▸ List.mem_cons_of_mem _ e.beh)
        ⟨nw₁, vl, k, rfl, off, fun _ _ => by rw [em₂], e.lst, e.bef, e.beh, by simpa [inn] using e.prs⟩ rfl ?_ ?_
      · rintro j I₂ x₁ m₃ nw₃ io₂ h tk hx ⟨nw₄, vl₂, k₂, rfl, off₁, e₂⟩ off₂ F N
        obtain ⟨x, hxb, tx, rfl⟩ : ∃ x, ws[j]? = some x ∧ ∃ t, x₁ = .int x t := by
          have hi : j < ws.length := by rw [← hts]; exact (List.getElem?_eq_some_iff.mp hx).1
          obtain ⟨t, ht⟩ := ints_at Wt (List.getElem?_eq_getElem hi)
          rw [hx] at ht
          exact ⟨_, List.getElem?_eq_getElem hi, t, Option.some.inj ht⟩
        have F := tmpM_of e₂.map ▸ F
        rw [em₂] at F
        have hq := e₂.lst
        have hz : vl₂.toArray.size ≤ sizeLine := by
          rw [List.size_toArray, sizeLine_eq, e₂.prs.1, List.length_append]
          have := small i
          have := inn_le b (ws.take j)
          have := List.length_take_le' j ws
          omega
        have ne : ∀ b vs, (b, tupO vs) ∈ nw₄ → b ≠ q := fun b vs hb => tup_ne_list N (List.mem_cons_of_mem _ (List.mem_cons_of_mem _ hb)) (List.mem_cons_of_mem _ (List.mem_cons_of_mem _ hq))
        have qI : q ≠ I := off₁ _ hq
        have qI2 : q ≠ I₂ := off₂ _ (List.mem_cons_of_mem _ hq)
        k_steps
        · rename_i hne D _ l1 _ F N
          obtain ⟨l1, l2, l3⟩ := l1
          have hDq : D ≠ q := Nat.ne_of_gt (ktn_ltOf l3 _ hq)
          refine Turn.next F (news' := (I, io) :: updL q (W.listOf (vl₂.toArray.push (Value.ref D)) (k₂ + 1)) ((D, tupO [.int b tb, .int x tx]) :: nw₄)) (fun p hp => N p ?_) (fun p hp => ?_) ⟨_, vl₂ ++ [.ref D], k₂ + 1, rfl, ?_, ?_⟩
          · rcases List.mem_cons.mp hp with rfl | hp
            · exact mem_updL_ne (List.mem_cons_of_mem _ List.mem_cons_self) (Ne.symm qI2)
            · rcases List.mem_cons.mp hp with rfl | hp
              · exact mem_updL_ne (List.mem_cons_of_mem _ (List.mem_cons_of_mem _ List.mem_cons_self)) (Ne.symm qI)
              · obtain ⟨p', hp', e'⟩ := List.mem_map.mp hp
                refine List.mem_map.mpr ⟨p', ?_, e'⟩
                rcases List.mem_cons.mp hp' with rfl | hp'
                · exact List.mem_cons_self
                · exact List.mem_cons_of_mem _ (List.mem_cons_of_mem _ (List.mem_cons_of_mem _ hp'))
          · rcases List.mem_cons.mp hp with rfl | hp
            · exact off₂ _ List.mem_cons_self
            · obtain ⟨p', hp', e'⟩ := updL_addr hp
              rw [← e']
              rcases List.mem_cons.mp hp' with rfl | hp'
              · exact Nat.ne_of_gt l1
              · exact off₂ _ (List.mem_cons_of_mem _ hp')
          · refine updL_off fun p hp => ?_
            rcases List.mem_cons.mp hp with rfl | hp
            · exact Nat.ne_of_gt l2
            · exact off₁ _ hp
          · have up : ∀ c vs, (c, tupO vs) ∈ nw₄ → (c, tupO vs) ∈ updL q (W.listOf (vl₂.toArray.push (Value.ref D)) (k₂ + 1)) ((D, tupO [.int b tb, .int x tx]) :: nw₄) := fun c vs hc => mem_updL_ne (List.mem_cons_of_mem _ hc) (ne c vs hc)
            refine ⟨?_, ?_, up _ _ e₂.bef, up _ _ e₂.beh, ?_⟩
            · rw [em₂]; exact store_off rfl tmpM_off
            · have := mem_updL_self (o := W.listOf (vl₂.toArray.push (Value.ref D)) (k₂ + 1)) (List.mem_cons_of_mem (D, tupO [.int b tb, .int x tx]) hq)
              rwa [List.push_toArray] at this ⊢
            · rw [inn_succ hxb, if_pos hne, ← List.append_assoc]
              exact Each.snoc (y := (b, x)) (PL.mono e₂.prs up) ⟨D, tb, tx, rfl, mem_updL_ne List.mem_cons_self hDq⟩
        · rename_i hne
          refine Turn.next (by assumption) (by assumption) off₂ ⟨_, vl₂, k₂, rfl, off₁, ?_, e₂.lst, e₂.bef, e₂.beh, ?_⟩
          · rw [em₂]; exact store_off rfl tmpM_off
          · rw [inn_succ hxb, if_neg (fun z => z hne), List.append_nil]
            exact e₂.prs
      · rintro h tk m₃ nw₃ ⟨nw₄, vl₂, k₂, rfl, off₁, e₂⟩ F N
        k_steps
        refine Turn.next F N off₁ ⟨vl₂, k₂, fun z hz => ?_, e₂.lst, e₂.bef, e₂.beh, ?_⟩
        · have z2 : (z == Str.ofString "w") = false := by
            cases q9 : z == Str.ofString "w" with
            | false => rfl
            | true => rw [q9, Bool.or_true] at hz; cases hz
          have z1 : (z == Str.ofString "v" || z == Str.ofString "w") = false := hz
          rw [e₂.map z z2, em₂, em]
          exact store_off (tmp := fun z => z == Str.ofString "v" || z == Str.ofString "w") rfl tmpM_off z z1
        · rw [prod_succ hb]
          have := e₂.prs
          rw [hts, List.take_length] at this
          exact this
    · rintro h tk m₁ nw₁ ⟨vl, k, e⟩ F N
      have F := tmpM_of e.map ▸ F
      rw [em] at F
      k_steps
      refine tuple_ofL (by assumption) (by assumption) (News.isList N e.lst) ?_ (by rw [sizeLine_eq, e.prs.1]; have := small vs.length; omega)
      intro D h' F' N' hk
      k_unfold
      refine Post.intro F' ⟨_, _, rfl, News.isTup N' List.mem_cons_self, ?_⟩
      rw [hp, ← List.take_length (l := bs), ← hvs]
      exact (PL.mono e.prs fun b vs hm => List.mem_cons_of_mem _ hm).at N'
theorem edge_pairs_ok (w : World) (v : Value) (y : Sym) (hy : y.isEdge = true) : PCon w 56 860 [v] (fun h => SymAt h v y) (fun _ h r => PairTup y.pairs h r) := by
  by_cases h2 : y.two = true
  · exact edge_pairs_2 w v y h2
  · exact edge_pairs_1 w v y hy h2
end
section
/-! B4 -/
/-- an attribute of an own object -/
def HasAttr (h : Heap) (x C : Addr) (name : Str) (v : Value) : Prop := ∃ dx sl es n, h.get? x = some (⟨.ref C, some dx, .plain, sl⟩ : Obj) ∧ h.get? dx = some (dictOf es n) ∧ getL name es = some (some v)
theorem HasAttr.keeps {h h' : Heap} {x C : Addr} {name : Str} {v : Value} (k : h.StaysIn h') (a : HasAttr h x C name v) : HasAttr h' x C name v := let ⟨dx, sl, es, n, h1, h2, h3⟩ := a; ⟨dx, sl, es, n, k _ _ h1, k _ _ h2, h3⟩
theorem get_attr {w : World} {A : Around} {s : Shared} {g : Heap} {L x C : Addr} {m : Str → Option Value} {name : Str} {v : Value} {expr : Bool} {E q : Value → Shared → Prop} {attr : Option Value} (I : HasAttr g x C name v) (F : Fr g L s.heap m) (X : (hd.heap_39 w.params).In g)
    (h : q v { s with toks := s.toks + 1 }) (hv : handedIn v = true) (hg : plainGet (hd.heap_39 w.params) C name = true) (hh : hasDictIn (hd.heap_39 w.params) C = true) (ha : findIn (hd.heap_39 w.params) (.ref C) name = some attr) (hn : noGet (hd.heap_39 w.params) attr = true) :
    wpAny (model pg w) A (getAttr (.ref x) name expr) q E s := by
  obtain ⟨dx, sl, es, n, h1, h2, h3⟩ := I.keeps F.keep
  exact get_own F X ⟨h1, rfl, rfl, h2⟩ hg hh ha hn h3 hv h
theorem len_list_at {w : World} {A : Around} {s : Shared} {g : Heap} {L a : Addr} {m : Str → Option Value} {vs : List Value} {E q : Value → Shared → Prop} (I : g.IsList a vs.toArray) (F : Fr g L s.heap m) (hb : vs.length ≤ 1000)
    (h : q (.int (vs.length : Int) (s.toks + 1)) { s with toks := s.toks + 1 + 1 }) : wpAny (model pg w) A (call (.builtin "len") [.ref a]) q E s := by
  refine Calls.call_len_list (I.at fun o e => F.keep a o e) (by rw [List.size_toArray]; omega) ?_
  rw [List.size_toArray]; exact h
/-- a row of a table: inputs' symbols, the state's, the output's -/
structure RowD where
  ins : List Sym
  held : Option Lv
  out : Out
def HeldAt (v : Value) : Option Lv → Prop
  | none => v = .none
  | some l => ∃ t, v = .str l.str t
def RowAt (h : Heap) (v : Value) (r : RowD) : Prop := ∃ a b hv t, v = .ref a ∧ IsTup h a [.ref b, hv, .str r.out.str t].toArray ∧ SymTup h b r.ins ∧ HeldAt hv r.held
theorem SymTup.keeps {h h' : Heap} {a : Addr} {ys : List Sym} (k : h.StaysIn h') (x : SymTup h a ys) : SymTup h' a ys := let ⟨vs, i, e⟩ := x; ⟨vs, i.keeps k, e.mono fun _ _ r => r.keeps k⟩
theorem IntList.keeps {h h' : Heap} {a : Addr} {ns : List Int} (k : h.StaysIn h') (x : IntList h a ns) : IntList h' a ns := let ⟨vs, i, e⟩ := x; ⟨vs, stays_list k i, e⟩
theorem RowAt.keeps {h h' : Heap} {v : Value} {r : RowD} (k : h.StaysIn h') (x : RowAt h v r) : RowAt h' v r := let ⟨a, b, hv, t, e, i, s, z⟩ := x; ⟨a, b, hv, t, e, i.keeps k, s.keeps k, z⟩
def TableAt (h : Heap) (a : Addr) (rows : List RowD) : Prop := ∃ vs, IsTup h a (List.toArray vs) ∧ Each (RowAt h) vs rows
theorem TableAt.keeps {h h' : Heap} {a : Addr} {rows : List RowD} (k : h.StaysIn h') (x : TableAt h a rows) : TableAt h' a rows := let ⟨vs, i, e⟩ := x; ⟨vs, i.keeps k, e.mono fun _ _ r => r.keeps k⟩
/-- an element's end: an int, and all kept -/
def ElP (h₀ : Heap) (L : Addr) (m : Str → Option Value) (h : Heap) (s : Shared) (c : Int) (y : Value) (s' : Shared) : Prop := ∃ h' tk' t', s' = { s with heap := h', toks := tk' } ∧ Fr h₀ L h' m ∧ h.StaysIn h' ∧ y = .int c t'
theorem ElP.intro {h₀ : Heap} {L : Addr} {m : Str → Option Value} {h : Heap} {s : Shared} {c : Int} {h' : Heap} {tk' : Nat} {t' : Tok} (F : Fr h₀ L h' m) (k : h.StaysIn h') : ElP h₀ L m h s c (.int c t') { s with heap := h', toks := tk' } := ⟨h', tk', t', rfl, F, k, rfl⟩
/-- a comprehension over a list of ints that stood before the frame; its element is an int and makes nothing that is kept -/
theorem comp_ints {w : World} {A : Around} {s : Shared} {h₀ : Heap} {L ax : Addr} {m : Str → Option Value} {news : List (Addr × Obj)} {env : Env} {elt : Expr} {x : Str} {scope : Scope} {cl : List (Str × Addr)} {Fin : Shared → List Value → List (Addr × Obj) → Prop} {vs : List Value} {cs : List Int}
    (g : Int → Int) (hl : h₀.IsList ax vs.toArray) (hi : IntsAre vs cs) (hsz : vs.length ≤ 1000) (F : Fr h₀ L s.heap m) (N : News h₀ L s.heap news) (hh : A.handled = none)
    (turn : ∀ c t C oC m₂ h tk, LCg.NsObj oC m₂ → m₂ x = some (.int c t) → Fr h₀ L h m → News h₀ L h [(C, oC)] →
      wpAny (model pg w) A (eval elt (compEnvC scope cl C env)) (ElP h₀ L m h s (g c)) (fun _ _ => False) { s with heap := h, toks := tk })
    (fin : ∀ h ys, IntsAre ys (cs.map g) → Fin { s with heap := h } ys news) : LCg.CompSrc pg w A h₀ L m env elt x scope cl Fin (.ref ax) s := by
  refine LCg.CompSrc.base hh F N hl (by rw [List.size_toArray, sizeLine_eq]; omega) fun g' => ?_
  refine kcf_list g hi (fun c t I oI C oC D m₂ ys h tk E' hc hC hx F N off ne _ => ?_) fun ys hy => fin g' ys hy
  refine wpAny_noRaise (wpAny_mono (turn c t C oC m₂ h tk hC hx F fun p hp => N p ?_) (fun y s' hq => ?_) fun _ _ e => e)
  · rw [List.mem_singleton.mp hp]; exact List.mem_cons_of_mem _ List.mem_cons_self
  · obtain ⟨h', tk', t', rfl, F', k, rfl⟩ := hq
    exact ⟨h', tk', news, rfl, F', News.kept N k, off, .inl hl, rfl, t', rfl⟩
theorem find_at {α : Type} {p : α → Bool} : ∀ {rows : List α} {i : Nat} {r : α}, rows[i]? = some r → p r = true → (∀ j, j < i → ∀ r', rows[j]? = some r' → p r' = false) → rows.find? p = some r
  | [], i, r, e, _, _ => by simp at e
  | x :: l, 0, r, e, h, _ => by
    simp only [List.getElem?_cons_zero, Option.some.injEq] at e
    subst e
    rw [List.find?_cons_of_pos h]
  | x :: l, i + 1, r, e, h, k => by
    have hx := k 0 (Nat.succ_pos _) x rfl
    rw [List.find?_cons_of_neg (by rw [hx]; exact Bool.false_ne_true)]
    exact find_at (by simpa using e) h fun j hj r' e' => k (j + 1) (Nat.succ_lt_succ hj) r' (by simpa using e')
theorem find_no {α : Type} {p : α → Bool} {rows : List α} (k : ∀ j, j < rows.length → ∀ r', rows[j]? = some r' → p r' = false) : rows.find? p = none := by
  rw [List.find?_eq_none]
  intro x hx
  obtain ⟨j, hj, e⟩ := List.getElem_of_mem hx
  rw [k j hj x (by rw [List.getElem?_eq_getElem hj, e])]
  exact Bool.false_ne_true
theorem miss_succ {α : Type} {p : α → Bool} {rows : List α} {i : Nat} {r : α} (h : ∀ j, j < i → ∀ r', rows[j]? = some r' → p r' = false) (e : rows[i]? = some r) (hr : p r = false) : ∀ j, j < i + 1 → ∀ r', rows[j]? = some r' → p r' = false := fun j hj r' e' => by
  by_cases q : j = i
  · subst q
    rw [e] at e'
    cases e'
    exact hr
  · exact h j (by omega) r' e'
end
section
/-! C4 -/
local macro_rules | `(tactic| walk_at "Post") => `(tactic| refine Post.intro (by assumption) ?_)
local macro_rules | `(tactic| walk_at "execs cons") => `(tactic| (refine wpAny_execs_cons ?_; k_fold; (try dsimp only); (try (refine tok_free ?_; intro tk9))))
local macro_rules | `(tactic| walk_at "exec For Tuple Attribute cons nil") => `(tactic| k_dflt (refine For_m ?_))
local macro_rules | `(tactic| walk_at "getAttr ref") => `(tactic| k_dflt (refine get_attr (by with_reducible assumption) (by k_asm) (by k_asm) ?_ (by k_handed) (by k_is) (by k_is) (by k_is) (by k_is)))
local macro_rules | `(tactic| walk_at "exec Assign cons ListComp") => `(tactic| k_dflt (refine LCg.Assign_ListComp_U (F₀ := by k_asm) (by rfl) (by with_unfolding_all rfl) (by with_unfolding_all rfl) (by decide) (by rfl) (by decide) (by rfl) (by rfl) (by rfl) ?_))
def pl (c : Int) : Int := if c = 2 then 3 else c
def flat (rows : List RowD) (cs : List Int) : Int := match rows.find? fun r => lm (-1) r.ins cs with
  | some r => r.out.code 3
  | none => 3
theorem next_level_ok (w : World) (pa ca ta : Addr) (rows : List RowD) (cs : List Int) (hr : ∀ r ∈ rows, r.ins.length = cs.length) (hc : cs.length ≤ 50) :
    PCon w 82 840 [.ref pa, .ref ca] (fun h => HasAttr h pa 31 (Str.ofString "rows") (.ref ta) ∧ TableAt h ta rows ∧ IntList h ca cs) (fun _ _ r => IsInt (flat rows (cs.map pl)) r) := by
  refine' PCon.intro (binds := [(Str.ofString "p", .ref pa), (Str.ofString "codes", .ref ca)]) ?ho ?hcd ?hlim ?hbind ?hloc ?hco ?hgen ?hk ?hcell ?h
  case ho => k_is
  case hcd => k_is
  case hlim => decide
  case hbind => exact rfl
  case hloc => exact locs rfl
  case hco => exact rfl
  case hgen => exact rfl
  case hk => exact rfl
  case hcell => decide
  intro mean mg mb dp un gd env outer A base g L' h₁ s B F N X T hd hp
  obtain ⟨hrows, ⟨vs, I, V⟩, ns, J, Wn⟩ := hp
  have hns : ns.length = cs.length := Wn.length
  k_steps
  refine comp_ints pl J Wn (by omega) (by assumption) (by assumption) rfl ?_ ?_
  · intro c t C oC m₂ h tk hC hx F N
    k_steps
    refine PCon.use (plain_ok w c t) (by assumption) (by assumption) (by assumption) (by assumption) rfl rfl (by omega) trivial ?_
    rintro r h' tk' F' K' ⟨t', rfl⟩
    exact ElP.intro F' K'
  · intro h ys hy D h' tk' F' N' o1
    try dsimp only at *
    k_unfold
    k_steps
    have Jn : IntList h' D (cs.map pl) := ⟨ys, News.isList N' List.mem_cons_self, hy⟩
    have hvs : vs.length = rows.length := V.1
    refine tup_s (L := L') (fun y => y == Str.ofString "ins" || y == Str.ofString "state" || y == Str.ofString "out") (fun i => ∀ j, j < i → ∀ r', rows[j]? = some r' → lm (-1) r'.ins (cs.map pl) = false)
      (fun v s₂ => Post g L' (fun _ _ r => IsInt (flat rows (cs.map pl)) r) s (.ret v) s₂) I rfl rfl F' N' (fun j hj => absurd hj (Nat.not_lt_zero _)) rfl (fun _ _ q => q) ?_ ?_
    · intro i I₁ v u io h₂ tk₂ hv hJ off F N
      obtain ⟨r, hrow, a, b, hv', t, rfl, I3, S3, H3⟩ := V.at hv
      have hmem : r ∈ rows := List.mem_of_getElem? hrow
      try dsimp only
      refine assign3 (L := L') rfl rfl (I3.keeps F.keep) F N rfl rfl rfl rfl fun h₃ tk₃ F N => ?_
      try dsimp only
      k_steps
      refine PCon.use (levels_match_ok w b D r.ins (cs.map pl) (-1) _ (by rw [List.length_map, hr r hmem]) (by rw [hr r hmem]; omega)) (by assumption) (by assumption) (by assumption) (by assumption) rfl rfl (by omega) ⟨S3.keeps F.keep, ys, News.isList N (List.mem_cons_of_mem _ List.mem_cons_self), hy⟩ ?_
      rintro _ h₄ tk₄ F K rfl
      have N := News.kept N K
      k_steps
      · refine PCon.use (out_code_ok w r.out t 3 _) (by assumption) (by assumption) (by assumption) (by assumption) rfl rfl (by omega) trivial ?_
        rintro _ h₅ tk₅ F K ⟨t₅, rfl⟩
        k_unfold
        refine TurnS.ret (Post.intro F ?_)
        rw [flat, find_at hrow (by assumption) hJ]
        exact ⟨_, rfl⟩
      · exact TurnS.next (by assumption) (by assumption) (fun p hp => hp) (store_off rfl (store_off rfl (store_off rfl tmpM_off))) (miss_succ hJ hrow (by assumption))
    · intro h tk u hJ F N
      k_steps
      rw [flat, find_no (fun j hj => hJ j (by omega))]
      exact ⟨_, rfl⟩
end
section
/-! C5 -/
local macro_rules | `(tactic| walk_at "Post") => `(tactic| refine Post.intro (by assumption) ?_)
local macro_rules | `(tactic| walk_at "execs cons") => `(tactic| (refine wpAny_execs_cons ?_; k_fold; (try dsimp only); (try (refine tok_free ?_; intro tk9))))
local macro_rules | `(tactic| walk_at "exec For Tuple Attribute cons nil") => `(tactic| k_dflt (refine For_m ?_))
local macro_rules | `(tactic| walk_at "getAttr ref") => `(tactic| k_dflt (refine get_attr (by with_reducible assumption) (by k_asm) (by k_asm) ?_ (by k_handed) (by k_is) (by k_is) (by k_is) (by k_is)))
local macro_rules | `(tactic| walk_at "subscriptTail") => `(tactic| k_dflt (refine tup_at (by with_reducible assumption) (by with_reducible assumption) (by with_reducible assumption) (by with_reducible assumption) ?_))
def holdsO (y : Option Lv) (c : Int) : Bool := match y with
  | some l => l.codes.any (· == c)
  | none => false
def edgeHit (st : Int) (cs : List Int) (ch : Nat) (bf : Int) (r : RowD) : Bool := (match r.ins[ch]? with | some y => y.isEdge && y.pairs.any (fun p => decide (p = (bf, cs.getD ch 0))) | none => false) && holdsO r.held st && lm ch r.ins cs
def stepS (rows : List RowD) (st : Int) (cs : List Int) (ch : Nat) (bf : Int) : Int := match rows.find? fun r => lm (-1) r.ins cs && holdsO r.held st with
  | some r => r.out.code st
  | none => match rows.find? (edgeHit st cs ch bf) with
    | some r => r.out.code st
    | none => 3
theorem step_state_ok (w : World) (pa na ta : Addr) (rows : List RowD) (cs : List Int) (st bf : Int) (ch : Nat) (u₁ u₂ u₃ : Tok) (hr : ∀ r ∈ rows, r.ins.length = cs.length) (hk : ∀ r ∈ rows, ∃ l, r.held = some l) (hc : cs.length ≤ 50) (hch : ch < cs.length) :
    PCon w 94 820 [.ref pa, .int st u₁, .ref na, .int ch u₂, .int bf u₃] (fun h => HasAttr h pa 31 (Str.ofString "rows") (.ref ta) ∧ TableAt h ta rows ∧ IntList h na cs) (fun _ _ r => IsInt (stepS rows st cs ch bf) r) := by
  refine' PCon.intro (binds := [(Str.ofString "p", .ref pa), (Str.ofString "state", .int st u₁), (Str.ofString "now", .ref na), (Str.ofString "changed", .int ch u₂), (Str.ofString "before", .int bf u₃)]) ?ho ?hcd ?hlim ?hbind ?hloc ?hco ?hgen ?hk ?hcell ?h
  case ho => k_is
  case hcd => k_is
  case hlim => decide
  case hbind => exact rfl
  case hloc => exact locs rfl
  case hco => exact rfl
  case hgen => exact rfl
  case hk => exact rfl
  case hcell => decide
  intro mean mg mb dp un gd env outer A base g L' h₁ s B F N X T hd hp
  obtain ⟨hrows, ⟨vs, I, V⟩, ns, J, Wn⟩ := hp
  have hvs : vs.length = rows.length := V.1
  k_steps
  refine tup_s (L := L') (fun y => y == Str.ofString "ins" || y == Str.ofString "held" || y == Str.ofString "out") (fun i => ∀ j, j < i → ∀ r', rows[j]? = some r' → (lm (-1) r'.ins cs && holdsO r'.held st) = false)
    (fun v s₂ => Post g L' (fun _ _ r => IsInt (stepS rows st cs ch bf) r) s (.ret v) s₂) I rfl rfl (by assumption) (by assumption) (fun j hj => absurd hj (Nat.not_lt_zero _)) rfl (fun _ _ q => q) ?_ ?_
  · intro i I₁ v u io h₂ tk₂ hv hJ off F N
    obtain ⟨r, hrow, a, b, hv', t, rfl, I3, S3, H3⟩ := V.at hv
    have hmem : r ∈ rows := List.mem_of_getElem? hrow
    obtain ⟨l, hl⟩ := hk r hmem
    rw [hl] at H3
    obtain ⟨t', rfl⟩ := H3
    try dsimp only
    refine assign3 (L := L') rfl rfl (I3.keeps F.keep) F N rfl rfl rfl rfl fun h₃ tk₃ F N => ?_
    try dsimp only
    k_steps
    refine PCon.use (levels_match_ok w b na r.ins cs (-1) _ (by rw [hr r hmem]) (by rw [hr r hmem]; omega)) (by assumption) (by assumption) (by assumption) (by assumption) rfl rfl (by omega) ⟨S3.keeps F.keep, IntList.keeps F.keep ⟨ns, J, Wn⟩⟩ ?_
    rintro _ h₄ tk₄ F K rfl
    have N := News.kept N K
    k_steps
    · refine PCon.use (level_codes_ok w l t') (by assumption) (by assumption) (by assumption) (by assumption) rfl rfl (by omega) trivial ?_
      rintro r₅ h₅ tk₅ F K ⟨a₅, vs₅, rfl, n1, n2, V₅⟩
      have N := News.made (by assumption) (by assumption) K n1 n2
      try dsimp only at F N K ⊢
      refine in_tuple_ints (IsTup.of n2) V₅ ?_
      have hO : holdsO r.held st = l.codes.any (· == st) := by rw [hl]; rfl
      k_steps
      · refine PCon.use (out_code_ok w r.out t st _) (by assumption) (by assumption) (by assumption) (by assumption) rfl rfl (by omega) trivial ?_
        rintro _ h₅ tk₅ F K ⟨t₅, rfl⟩
        k_unfold
        refine TurnS.ret (Post.intro F ?_)
        rw [stepS, find_at (p := fun r => lm (-1) r.ins cs && holdsO r.held st) hrow (by rw [hO, ‹lm (-1) r.ins cs = true›, Bool.true_and]; assumption) hJ]
        exact ⟨_, rfl⟩
      · exact TurnS.next (by assumption) (by assumption) (fun p hp => List.mem_cons_of_mem _ hp) (store_off rfl (store_off rfl (store_off rfl tmpM_off))) (miss_succ hJ hrow (by rw [hO, ‹lm (-1) r.ins cs = true›, Bool.true_and]; assumption))
    · exact TurnS.next (by assumption) (by assumption) (fun p hp => hp) (store_off rfl (store_off rfl (store_off rfl tmpM_off))) (miss_succ hJ hrow (by rw [‹lm (-1) r.ins cs = false›, Bool.false_and]))
  · intro h tk u hJ₁ F N
    rw [hvs] at hJ₁
    k_steps
    try dsimp only
    refine tup_s (L := L') (fun y => y == Str.ofString "ins" || y == Str.ofString "held" || y == Str.ofString "out") (fun i => ∀ j, j < i → ∀ r', rows[j]? = some r' → edgeHit st cs ch bf r' = false)
      (fun v s₂ => Post g L' (fun _ _ r => IsInt (stepS rows st cs ch bf) r) s (.ret v) s₂) I rfl rfl (by assumption) (by assumption) (fun j hj => absurd hj (Nat.not_lt_zero _)) rfl (fun _ _ q => q) ?_ ?_
    · intro i I₁ v u io h₂ tk₂ hv hJ off F N
      obtain ⟨r, hrow, a, b, hv', t, rfl, I3, S3, H3⟩ := V.at hv
      have hmem : r ∈ rows := List.mem_of_getElem? hrow
      obtain ⟨l, hl⟩ := hk r hmem
      rw [hl] at H3
      obtain ⟨t', rfl⟩ := H3
      have hO : holdsO r.held st = l.codes.any (· == st) := by rw [hl]; rfl
      try dsimp only
      refine assign3 (L := L') rfl rfl (I3.keeps F.keep) F N rfl rfl rfl rfl fun h₃ tk₃ F N => ?_
      try dsimp only
      obtain ⟨vs₃, I₃, V₃⟩ := id S3
      have hch' : ch < r.ins.length := by rw [hr r hmem]; exact hch
      have hlen : vs₃.length ≤ 1000 := by rw [V₃.1, hr r hmem]; omega
      obtain ⟨yv, hyv, Y⟩ := V₃.2 ch r.ins[ch] (List.getElem?_eq_getElem hch')
      generalize hyi : r.ins[ch] = y at Y
      have hY : r.ins[ch]? = some y := by rw [List.getElem?_eq_getElem hch', hyi]
      have eH : edgeHit st cs ch bf r = (y.isEdge && y.pairs.any (fun p => decide (p = (bf, cs.getD ch 0))) && holdsO r.held st && lm ch r.ins cs) := by rw [edgeHit, hY]
      k_steps
      refine PCon.use (is_edge_ok w yv y) (by assumption) (by assumption) (by assumption) (by assumption) rfl rfl (by omega) (Y.keeps (Fr.keep (by assumption))) ?_
      rintro _ h₄ tk₄ F K rfl
      have N := News.kept N K
      k_steps
      · refine PCon.use (level_codes_ok w l t') (by assumption) (by assumption) (by assumption) (by assumption) rfl rfl (by omega) trivial ?_
        rintro r₅ h₅ tk₅ F K ⟨a₅, vs₅, rfl, n1, n2, V₅⟩
        have N := News.made (by assumption) (by assumption) K n1 n2
        try dsimp only at F N K ⊢
        refine notin_tuple_ints (IsTup.of n2) V₅ ?_
        k_steps
        · refine PCon.use (levels_match_ok w b na r.ins cs ch u₂ (by rw [hr r hmem]) (by rw [hr r hmem]; omega)) (by assumption) (by assumption) (by assumption) (by assumption) rfl rfl (by omega) ⟨S3.keeps (Fr.keep (by assumption)), IntList.keeps (Fr.keep (by assumption)) ⟨ns, J, Wn⟩⟩ ?_
          rintro _ h₆ tk₆ F K rfl
          have N := News.kept N K
          k_steps
          · refine PCon.use (edge_pairs_ok w yv y (by assumption)) (by assumption) (by assumption) (by assumption) (by assumption) rfl rfl (by omega) (Y.keeps (Fr.keep (by assumption))) ?_
            rintro r₇ h₇ tk₇ F K ⟨a₇, vs₇, rfl, I₇, V₇⟩
            have N := News.kept (by assumption) K
            try dsimp only at F N K ⊢
            refine in_pairs (by dsimp only; omega) I₇ V₇ (News.isTup N (by k_mem)) ?_
            k_steps
            · refine PCon.use (out_code_ok w r.out t st _) (by assumption) (by assumption) (by assumption) (by assumption) rfl rfl (by omega) trivial ?_
              rintro _ h₅ tk₅ F K ⟨t₅, rfl⟩
              k_unfold
              refine TurnS.ret (Post.intro F ?_)
              have hP : (y.pairs.any fun p => decide (p = (bf, cs.getD ch 0))) = true := ‹(y.pairs.any fun p => decide (p = (bf, cs.getD (ch : Int).toNat 0))) = true›
              rw [stepS, find_no hJ₁]
              try dsimp only
              rw [find_at hrow (by rw [eH, hO, hP, ‹y.isEdge = true›, ‹(l.codes.any fun x => x == st) = true›, ‹lm (ch : Int) r.ins cs = true›]; rfl) hJ]
              exact ⟨_, rfl⟩
            · have hP : (y.pairs.any fun p => decide (p = (bf, cs.getD ch 0))) = false := ‹(y.pairs.any fun p => decide (p = (bf, cs.getD (ch : Int).toNat 0))) = false›
              exact TurnS.next (by assumption) (by assumption) (fun p hp => List.mem_cons_of_mem _ (List.mem_cons_of_mem _ hp)) (store_off rfl (store_off rfl (store_off rfl tmpM_off))) (miss_succ hJ hrow (by rw [eH, hP, Bool.and_false, Bool.false_and, Bool.false_and]))
          · exact TurnS.next (by assumption) (by assumption) (fun p hp => List.mem_cons_of_mem _ hp) (store_off rfl (store_off rfl (store_off rfl tmpM_off))) (miss_succ hJ hrow (by rw [eH, ‹lm (ch : Int) r.ins cs = false›, Bool.and_false]))
        · exact TurnS.cont (by assumption) (by assumption) (fun p hp => List.mem_cons_of_mem _ hp) (store_off rfl (store_off rfl (store_off rfl tmpM_off))) (miss_succ hJ hrow (by rw [eH, hO, ‹(l.codes.any fun x => x == st) = false›, Bool.and_false, Bool.false_and]))
      · exact TurnS.cont (by assumption) (by assumption) (fun p hp => hp) (store_off rfl (store_off rfl (store_off rfl tmpM_off))) (miss_succ hJ hrow (by rw [eH, ‹y.isEdge = false›]; rfl))
    · intro h tk u hJ F N
      rw [hvs] at hJ
      k_steps
      rw [stepS, find_no hJ₁]
      try dsimp only
      rw [find_no hJ]
      exact ⟨_, rfl⟩
end
section
/-! C6 -/
local macro_rules | `(tactic| walk_at "call ref") => `(tactic| ((with_reducible show wpAny _ _ (call (Value.ref 70) _) _ _ _); k_dflt (refine PCon.use (plain_ok _ _ _) (by k_asm) (by k_asm) (by k_asm) (by k_asm) rfl rfl (by omega) trivial ?_); intro r9 h9 tk9 F9 K9 o9; (refine Exists.elim o9 ?_); intro t9 e9; subst e9; (have N9 := News.kept (by assumption) K9); (try dsimp only at F9 N9 ⊢); (try k_sweep)))
local macro_rules | `(tactic| walk_at "Post") => `(tactic| refine Post.intro (by assumption) ?_)
local macro_rules | `(tactic| walk_at "execs cons") => `(tactic| (refine wpAny_execs_cons ?_; k_fold; (try dsimp only); (try (refine tok_free ?_; intro tk9))))
local macro_rules | `(tactic| walk_at "exec For Name Call cons nil") => `(tactic| k_dflt (refine For_m ?_))
local macro_rules | `(tactic| walk_at "call builtin:len") => `(tactic| (k_here; (with_reducible show wpAny _ _ (call (Value.builtin "len") [Value.ref _]) _ _ _); k_dflt (refine' len_list_at ?t ?f ?a ?_; (case t => with_reducible assumption); (case f => with_reducible assumption); (case a => omega); k_whole)))
local macro_rules | `(tactic| walk_at "call type:range") => `(tactic| (k_here; k_dflt (refine' range_call ?F ?N ?_; (case F => k_asm); (case N => k_asm); k_whole); intro r9 h9 tk9 t9 u9 v9 hr9 F9 N9; (try k_sweep)))
local macro_rules | `(tactic| walk_at "exec Assign cons ListComp") => `(tactic| k_dflt (refine LCg.Assign_ListComp_U (F₀ := by k_asm) (by rfl) (by with_unfolding_all rfl) (by with_unfolding_all rfl) (by decide) (by rfl) (by decide) (by rfl) (by rfl) (by rfl) ?_))
/-- the state and the codes after the first i inputs -/
def mvI (rows : List RowD) (new : List Int) : Nat → Int → List Int → Int × List Int
  | 0, st, cs => (st, cs)
  | i + 1, st, cs => let q := mvI rows new i st cs; (if pl (new.getD i 0) = q.2.getD i 0 then q.1 else stepS rows q.1 (q.2.set i (pl (new.getD i 0))) i (q.2.getD i 0), q.2.set i (pl (new.getD i 0)))
theorem mvI_len (rows : List RowD) (new : List Int) : ∀ (i : Nat) (st : Int) (cs : List Int), (mvI rows new i st cs).2.length = cs.length
  | 0, _, _ => rfl
  | i + 1, st, cs => by
    show ((mvI rows new i st cs).2.set i _).length = _
    rw [List.length_set, mvI_len rows new i]
theorem getD_set_self {l : List Int} {i : Nat} {x : Int} (h : i < l.length) : (l.set i x).getD i 0 = x := by
  rw [List.getD_eq_getElem?_getD, List.getElem?_set_self h]; rfl
theorem mvI_ne {rows : List RowD} {new : List Int} {i : Nat} {st st₁ x : Int} {cs cs₁ cs₂ : List Int} (hq : mvI rows new i st cs = (st₁, cs₁)) (a : cs₂.getD i 0 ≠ cs₁.getD i 0) (hg : cs₂.getD i 0 = x) (e : x = pl (new.getD i 0) := by rfl) :
    mvI rows new (i + 1) st cs = (stepS rows st₁ (cs₁.set i x) i (cs₁.getD i 0), cs₁.set i x) := by
  rw [mvI, hq, if_neg (by rw [← e, ← hg]; exact a), e]
theorem mvI_eq {rows : List RowD} {new : List Int} {i : Nat} {st st₁ x : Int} {cs cs₁ cs₂ : List Int} (hq : mvI rows new i st cs = (st₁, cs₁)) (a : cs₂.getD i 0 = cs₁.getD i 0) (hg : cs₂.getD i 0 = x) (e : x = pl (new.getD i 0) := by rfl) :
    mvI rows new (i + 1) st cs = (st₁, cs₁.set i x) := by
  rw [mvI, hq, if_pos (by rw [← e, ← hg]; exact a), e]
theorem st_map {g h : Heap} {L : Addr} {m m₀ : Str → Option Value} {tmp : Str → Bool} {v : Value} {x : Str} (hm : ∀ z, tmp z = false → m z = m₀ z) (hs : m x = some v) (F : Fr g L h m) : Fr g L h (fun z => if z = x then some v else tmpM tmp m m₀ z) := Fr.ext F fun z => by
  by_cases h1 : z = x
  · rw [if_pos h1, h1, hs]
  · rw [if_neg h1, ← tmpM_of hm]
theorem next_state_ok (w : World) (pa oa na ta : Addr) (rows : List RowD) (old new : List Int) (st : Int) (u₁ : Tok) (hr : ∀ r ∈ rows, r.ins.length = old.length) (hk : ∀ r ∈ rows, ∃ l, r.held = some l) (hn : new.length = old.length) (hc : old.length ≤ 50) :
    PCon w 87 800 [.ref pa, .int st u₁, .ref oa, .ref na] (fun h => HasAttr h pa 31 (Str.ofString "rows") (.ref ta) ∧ TableAt h ta rows ∧ IntList h oa old ∧ IntList h na new) (fun _ _ r => IsInt (mvI rows new old.length (pl st) (old.map pl)).1 r) := by
  refine' PCon.intro (binds := [(Str.ofString "p", .ref pa), (Str.ofString "state", .int st u₁), (Str.ofString "old", .ref oa), (Str.ofString "new", .ref na)]) ?ho ?hcd ?hlim ?hbind ?hloc ?hco ?hgen ?hk ?hcell ?h
  case ho => k_is
  case hcd => k_is
  case hlim => decide
  case hbind => exact rfl
  case hloc => exact locs rfl
  case hco => exact rfl
  case hgen => exact rfl
  case hk => exact rfl
  case hcell => decide
  intro mean mg mb dp un gd env outer A base g L' h₁ s B F N X T hd hp
  obtain ⟨hrows, HT, ⟨os, Jo, Wo⟩, ns, Jn, Wn⟩ := hp
  have hos : os.length = old.length := Wo.length
  have hns : ns.length = new.length := Wn.length
  k_steps
  refine comp_ints pl Jo Wo (by omega) (by assumption) (by assumption) rfl ?_ ?_
  · intro c t C oC m₂ h tk hC hx F N
    k_steps
    exact ElP.intro (by assumption) (by assumption)
  · intro h ys hy D h' tk' F N o1
    try dsimp only at *
    k_unfold
    k_steps
    rename_i r2 h2 tk2 t2 u2 v2 hr2 F N
    try dsimp only
    rw [show ns.length = old.length by omega] at hr2
    refine with_map F fun m₀ em => ?_
    refine range_L (L := L') (fun i m nw => ∃ t vsn k, (∀ z, (z == Str.ofString "i" || z == Str.ofString "before" || z == Str.ofString "state") = false → m z = m₀ z) ∧ m (Str.ofString "state") = some (.int (mvI rows new i (pl st) (old.map pl)).1 t) ∧ nw = [(D, W.listOf (List.toArray vsn) k)] ∧ IntsAre vsn (mvI rows new i (pl st) (old.map pl)).2)
      hr2 (by omega) rfl F N ⟨_, ys, _, fun _ _ => by rw [em], if_pos rfl, rfl, hy⟩ rfl ?_ ?_
    · rintro i I t m₁ _ io h tk hi ⟨ts, vsn, k, hm, hs, rfl, hv⟩ off F N
      have F := st_map hm hs F
      rw [em] at F
      have hDI : @Ne Nat D I := off _ List.mem_cons_self
      have hl := mvI_len rows new i (pl st) (old.map pl)
      generalize hq : mvI rows new i (pl st) (old.map pl) = q at *
      obtain ⟨st₁, cs₁⟩ := q
      try dsimp only at hv hl F ⊢
      rw [List.length_map] at hl
      have hg : (cs₁.set i (pl (new.getD i 0))).getD i 0 = pl (new.getD i 0) := getD_set_self (by omega)
      k_steps
      · refine PCon.use (step_state_ok w pa D ta rows (cs₁.set i (pl (new.getD i 0))) st₁ (cs₁.getD i 0) i _ _ _ (fun r h => by rw [hr r h, List.length_set, hl]) hk (by rw [List.length_set]; omega) (by rw [List.length_set]; omega)) (by assumption) (by assumption) (by assumption) (by assumption) rfl rfl (by omega)
          ⟨hrows.keeps (Fr.keep (by assumption)), HT.keeps (Fr.keep (by assumption)), _, News.isList (by assumption) (List.mem_cons_of_mem _ List.mem_cons_self), by assumption⟩ ?_
        rintro _ h₅ tk₅ F K ⟨t₅, rfl⟩
        have N := News.kept (by assumption) K
        k_steps
        have e1 := mvI_ne (rows := rows) hq ‹(cs₁.set (i : Int).toNat (pl (new.getD (i : Int).toNat 0))).getD (i : Int).toNat 0 ≠ cs₁.getD (i : Int).toNat 0› hg
        refine' Turn.next ?F ?N ?O ?J
        case F => assumption
        case N => assumption
        case O => exact fun p hp => List.mem_singleton.mp hp ▸ hDI
        case J => exact ⟨_, _, _, (by rw [em]; exact store_off rfl (store_off rfl (store_off rfl (store_off rfl tmpM_off)))), (by rw [e1]; exact if_pos rfl), rfl, (by rw [e1]; assumption)⟩
      · have e1 := mvI_eq (rows := rows) hq ‹(cs₁.set (i : Int).toNat (pl (new.getD (i : Int).toNat 0))).getD (i : Int).toNat 0 = cs₁.getD (i : Int).toNat 0› hg
        refine' Turn.next ?F ?N ?O ?J
        case F => assumption
        case N => assumption
        case O => exact fun p hp => List.mem_singleton.mp hp ▸ hDI
        case J => exact ⟨_, _, _, (by rw [em]; exact store_off rfl (store_off rfl (store_off rfl tmpM_off))), (by rw [e1]; rfl), rfl, (by rw [e1]; assumption)⟩
    · rintro h tk m₁ _ ⟨ts, vsn, k, hm, hs, rfl, hv⟩ F N
      have F := st_map hm hs F
      k_steps
      exact ⟨_, rfl⟩
end
section
/-! B5 -/
/-- what stands for an int that may be missing -/
def FV (o : Option Int) (v : Value) : Prop := match o with
  | none => v = .none
  | some c => ∃ t, v = .int c t
/-- a turn's end where a name carries what is found -/
def TurnF (h₀ : Heap) (L I : Addr) (io : Obj) (tmp : Str → Bool) (x : Str) (m : Str → Option Value) (news : List (Addr × Obj)) (o : Option Int) (s : Shared) (fl : Flow) (s₂ : Shared) : Prop :=
  match fl with
  | .ret _ => False
  | .brk => False
  | _ => ∃ h' tk m' nw v, s₂ = { s with heap := h', toks := tk } ∧ Fr h₀ L h' m' ∧ News h₀ L h' nw ∧ (∀ p ∈ (I, io) :: news, p ∈ nw) ∧ (∀ z, tmp z = false → m' z = m z) ∧ m' x = some v ∧ FV o v
theorem TurnF.next {h₀ : Heap} {L I : Addr} {io : Obj} {tmp : Str → Bool} {x : Str} {m : Str → Option Value} {news : List (Addr × Obj)} {o : Option Int} {s : Shared} {h' : Heap} {tk : Nat} {m' : Str → Option Value} {nw : List (Addr × Obj)} {v : Value}
    (F : Fr h₀ L h' m') (N : News h₀ L h' nw) (sub : ∀ p ∈ (I, io) :: news, p ∈ nw) (e : ∀ z, tmp z = false → m' z = m z) (hx : m' x = some v) (f : FV o v) : TurnF h₀ L I io tmp x m news o s .next { s with heap := h', toks := tk } := ⟨h', tk, m', nw, v, rfl, F, N, sub, e, hx, f⟩
theorem tup_f {w : World} {A : Around} {s : Shared} {env : Env} {h₀ : Heap} {body : List Stmt} {m : Str → Option Value} {news : List (Addr × Obj)} {Q : Flow → Shared → Prop} {target : Expr} {elts : List Expr} {k : Nat} {pos : Pos} {ax L : Addr} {vs : List Value} (tmp : Str → Bool) (x : Str) (f : Nat → Option Int)
    (ht : IsTup h₀ ax vs.toArray) (htg : target = .Tuple elts k pos) (hL : env.locals = L) (F : Fr h₀ L s.heap m) (N : News h₀ L s.heap news) (v₀ : Value) (h0 : m x = some v₀) (h1 : FV (f 0) v₀) (hh : A.handled = none)
    (step : ∀ i I v vf u io h tk, vs[i]? = some v → FV (f i) vf → (∀ p ∈ news, p.1 ≠ I) → Fr h₀ L h (fun z => if z = x then some vf else tmpM tmp u m z) → News h₀ L h ((I, io) :: news) →
      wpAny (model pg w) A (assign (.Tuple elts k pos) env v) (fun _ s₁ => wpAny (model pg w) A (execs body env) (TurnF h₀ L I io tmp x m news (f (i + 1)) s) (fun _ _ => False) s₁) (fun _ _ => False) { s with heap := h, toks := tk })
    (done : ∀ h tk vf u, FV (f vs.length) vf → Fr h₀ L h (fun z => if z = x then some vf else tmpM tmp u m z) → News h₀ L h news → Q .next { s with heap := h, toks := tk }) :
    wpAny (model pg w) A (pyIter (.ref ax)) (fun it s₂ => LoopM w A env target body Q it s₂) (fun _ _ => False) s := by
  subst hL
  refine tup_m ht F N (fun i m' nw => nw = news ∧ (∀ z, tmp z = false → m' z = m z) ∧ ∃ v, m' x = some v ∧ FV (f i) v) ⟨rfl, fun _ _ => rfl, v₀, h0, h1⟩ htg hh ?_ ?_
  · rintro i I v m₁ news₁ io h tk hi ⟨rfl, em, vf, hx, hf⟩ off F₁ N₁
    refine wpAny_mono (step i I v vf m₁ io h tk hi hf off (st_map em hx F₁) N₁) (fun _ _ q => wpAny_mono q (fun fl s₂ z => ?_) fun _ _ e => e) fun _ _ e => e
    have fin : (∃ h' tk m' nw v, s₂ = { s with heap := h', toks := tk } ∧ Fr h₀ env.locals h' m' ∧ News h₀ env.locals h' nw ∧ (∀ p ∈ (I, io) :: news₁, p ∈ nw) ∧ (∀ z, tmp z = false → m' z = m z) ∧ m' x = some v ∧ FV (f (i + 1)) v) →
        ∃ h' tk m' news', s₂ = { s with heap := h', toks := tk } ∧ Fr h₀ env.locals h' m' ∧ News h₀ env.locals h' ((I, io) :: news') ∧ (∀ p ∈ news', p.1 ≠ I) ∧ (news' = news₁ ∧ (∀ z, tmp z = false → m' z = m z) ∧ ∃ v, m' x = some v ∧ FV (f (i + 1)) v) := by
      rintro ⟨h', tk, m', nw, v, e, F, N, sub, em, hx, hf⟩
      exact ⟨h', tk, m', news₁, e, F, fun p hp => N p (sub p hp), off, rfl, em, v, hx, hf⟩
    cases fl with
    | ret v => exact z.elim
    | brk => exact z.elim
    | next => exact fin z
    | cont => exact fin z
  · rintro h tk m₁ news₁ ⟨rfl, em, vf, hx, hf⟩ F₁ N₁
    exact done h tk vf m₁ hf (st_map em hx F₁) N₁
/-- what a loop over the rows has found -/
def fnd (p : RowD → Bool) (st : Int) (rows : List RowD) (o : Option Int) (i : Nat) : Option Int := match o with
  | some c => some c
  | none => ((rows.take i).find? p).map fun r => r.out.code st
theorem fnd_zero {p : RowD → Bool} {st : Int} {rows : List RowD} {o : Option Int} : fnd p st rows o 0 = o := by cases o <;> rfl
theorem fnd_all {p : RowD → Bool} {st : Int} {rows : List RowD} : fnd p st rows none rows.length = (rows.find? p).map fun r => r.out.code st := by show ((rows.take rows.length).find? p).map _ = _; rw [List.take_length]
theorem fnd_step {p : RowD → Bool} {st : Int} {rows : List RowD} {o : Option Int} {i : Nat} {r : RowD} (h : rows[i]? = some r) : fnd p st rows o (i + 1) = match fnd p st rows o i with
    | some c => some c
    | none => if p r = true then some (r.out.code st) else none := by
  cases o with
  | some c => rfl
  | none =>
    show ((rows.take (i + 1)).find? p).map _ = _
    obtain ⟨hi, e⟩ := List.getElem?_eq_some_iff.mp h
    rw [List.take_succ_eq_append_getElem hi, List.find?_append, e]
    unfold fnd
    dsimp only
    cases (rows.take i).find? p with
    | some r' => rfl
    | none =>
      by_cases q : p r = true
      · simp [q]
      · simp [q]
theorem fnd_yes {p : RowD → Bool} {st : Int} {rows : List RowD} {o : Option Int} {i : Nat} {r : RowD} (h : rows[i]? = some r) (n : fnd p st rows o i = none) (q : p r = true) : fnd p st rows o (i + 1) = some (r.out.code st) := by rw [fnd_step h, n]; exact if_pos q
theorem fnd_no {p : RowD → Bool} {st : Int} {rows : List RowD} {o : Option Int} {i : Nat} {r : RowD} (h : rows[i]? = some r) (n : fnd p st rows o i = none) (q : p r = false) : fnd p st rows o (i + 1) = none := by rw [fnd_step h, n]; exact if_neg (by rw [q]; exact Bool.false_ne_true)
theorem fnd_some {p : RowD → Bool} {st : Int} {rows : List RowD} {o : Option Int} {i : Nat} {r : RowD} {c : Int} (h : rows[i]? = some r) (n : fnd p st rows o i = some c) : fnd p st rows o (i + 1) = some c := by rw [fnd_step h, n]
theorem step_fnd (rows : List RowD) (cs : List Int) (st : Int) (ch : Nat) (bf : Int) :
    stepS rows st cs ch bf = (fnd (edgeHit st cs ch bf) st rows (fnd (fun r => lm (-1) r.ins cs && holdsO r.held st) st rows none rows.length) rows.length).getD 3 := by
  rw [stepS, fnd_all]
  cases rows.find? (fun r => lm (-1) r.ins cs && holdsO r.held st) with
  | some r => rfl
  | none => show _ = (fnd _ _ _ none _).getD 3; rw [fnd_all]; cases rows.find? (edgeHit st cs ch bf) <;> rfl
end
section
/-! C7 -/
local macro_rules | `(tactic| walk_at "Post") => `(tactic| refine Post.intro (by assumption) ?_)
local macro_rules | `(tactic| walk_at "execs cons") => `(tactic| (refine wpAny_execs_cons ?_; k_fold; (try dsimp only); (try (refine tok_free ?_; intro tk9))))
local macro_rules | `(tactic| walk_at "subscriptTail") => `(tactic| (k_here; (with_reducible show wpAny _ _ (subscriptTail _ _ (Value.ref _) (Value.int _ _)) _ _ _); k_dflt (refine' item_tupleT ?t ?a ?b ?c ?d ?_; (case t => exact IsTup.keeps (by with_reducible assumption) (Fr.keep (by with_reducible assumption))); (case a => decide); (case b => decide); (case c => rfl); (case d => rfl); k_whole)))
theorem item_ints {w : World} {A : Around} {s : Shared} {h₀ : Heap} {L d : Addr} {news : List (Addr × Obj)} {o : Obj} {kvs : List (Str × Value)} {k : Str} {t : Tok} {ns : List Int} {E Q : Value → Shared → Prop} (N : News h₀ L s.heap news) (hp : (d, o) ∈ news) (hd : o.IsDictOf (strKind pg w) kvs)
    (hx : ∃ a vs, valueAt kvs k = some (.ref a) ∧ (a, W.listOf (List.toArray vs) 0) ∈ news ∧ IntsAre vs ns) (h : ∀ a vs, (a, W.listOf (List.toArray vs) 0) ∈ news → IntsAre vs ns → Q (.ref a) { s with toks := s.toks + 1 }) : wpAny (model pg w) A (getItem (.ref d) (.str k t)) Q E s :=
  let ⟨a, vs, h1, h2, h3⟩ := hx; kdt_getItem N hp hd (strKind_is _ _ _ _) h1 (h a vs h2 h3)
theorem law_holds_ok (w : World) (l : Lv) (t : Tok) (c : Int) (u : Tok) : PCon w 157 900 [.str l.str t, .int c u] (fun _ => True) (fun _ _ r => r = .bool (l.codes.any (· == c))) := by
  refine' PCon.intro (binds := [(Str.ofString "letter", .str l.str t), (Str.ofString "seen", .int c u)]) ?ho ?hcd ?hlim ?hbind ?hloc ?hco ?hgen ?hk ?hcell ?h
  case ho => k_is
  case hcd => k_is
  case hlim => decide
  case hbind => exact rfl
  case hloc => exact locs rfl
  case hco => exact rfl
  case hgen => exact rfl
  case hk => exact rfl
  case hcell => decide
  intro mean mg mb dp un gd env outer A base g L' h₁ s B F N X T hd hp
  k_steps
  refine item_ints (ns := l.codes) (by assumption) (by k_mem) (by assumption) ?_ fun a vs ha hi => ?_
  · cases l <;> exact ⟨_, _, rfl, by k_mem, by repeat constructor⟩
  · refine in_list_ints (News.isList (by assumption) ha) hi ?_
    k_unfold
    exact Post.intro (by assumption) rfl
/-- a symbol that is a string -/
def Sym.letter : Sym → Str
  | .l y => y.str | .r => Str.ofString "r" | .f => Str.ofString "f" | .p => Str.ofString "p" | .n => Str.ofString "n" | .s => Str.ofString "*" | .e _ _ => Str.ofString ""
theorem SymAt.cases {h : Heap} {v : Value} {y : Sym} (hp : SymAt h v y) : (∃ t, v = .str y.letter t ∧ ∀ c d, y ≠ .e c d) ∨ ∃ c d x t₁ t₂ t₃, y = .e c d ∧ v = .ref x ∧ IsTup h x [.str (Str.ofString "edge") t₁, .str c.str t₂, .str d.str t₃].toArray := by
  cases y with
  | e a b => obtain ⟨x, t₁, t₂, t₃, e, i⟩ := hp; exact .inr ⟨a, b, x, t₁, t₂, t₃, rfl, e, i⟩
  | _ => obtain ⟨t, e⟩ := hp; exact .inl ⟨t, e, fun a b q => by cases q⟩
theorem level_any (y : Sym) (h : ∀ c d, y ≠ .e c d) : ([Str.ofString "0", Str.ofString "1", Str.ofString "x", Str.ofString "b", Str.ofString "?"].any (· == y.letter)) = !y.isEdge := by
  rcases y with l | _ | _ | _ | _ | _ | ⟨a, b⟩
  · cases l <;> decide
  case e => exact absurd rfl (h a b)
  all_goals decide
theorem law_is_level_ok (w : World) (v : Value) (y : Sym) : PCon w 164 900 [v] (fun h => SymAt h v y) (fun _ _ r => r = .bool (!y.isEdge)) := by
  refine' PCon.intro (binds := [(Str.ofString "letter", v)]) ?ho ?hcd ?hlim ?hbind ?hloc ?hco ?hgen ?hk ?hcell ?h
  case ho => k_is
  case hcd => k_is
  case hlim => decide
  case hbind => exact rfl
  case hloc => exact locs rfl
  case hco => exact rfl
  case hgen => exact rfl
  case hk => exact rfl
  case hcell => decide
  intro mean mg mb dp un gd env outer A base g L' h₁ s B F N X T hd hp
  k_steps
  rcases hp.cases with ⟨t, rfl, hy⟩ | ⟨a, b, x, t₁, t₂, t₃, rfl, rfl, I⟩
  · refine in_list_strs (News.isList (by assumption) (by k_mem)) (ys := [Str.ofString "0", Str.ofString "1", Str.ofString "x", Str.ofString "b", Str.ofString "?"]) (by repeat constructor) ?_
    rw [level_any y hy]
    k_unfold
    refine Post.intro (by assumption) rfl
  · refine SeqAt.in_listAt (fun _ => false) (News.isList (by assumption) (by k_mem)) (fun z hz => ?_) ?_
    · simp only [List.mem_toArray, List.mem_cons, List.not_mem_nil, or_false] at hz
      rcases hz with rfl | rfl | rfl | rfl | rfl
      all_goals exact SeqAt.EqAt.str_tuple _ _ (IsTup.keeps I (Fr.keep (by assumption))) (by dsimp only; rw [cLine_is]; omega)
    · k_unfold
      exact Post.intro (by assumption) (by simp [Sym.isEdge])
theorem law_out_ok (w : World) (o : Out) (t : Tok) (c : Int) (u : Tok) : PCon w 190 900 [.str o.str t, .int c u] (fun _ => True) (fun _ _ r => IsInt (o.code c) r) := by
  refine' PCon.intro (binds := [(Str.ofString "letter", .str o.str t), (Str.ofString "state", .int c u)]) ?ho ?hcd ?hlim ?hbind ?hloc ?hco ?hgen ?hk ?hcell ?h
  case ho => k_is
  case hcd => k_is
  case hlim => decide
  case hbind => exact rfl
  case hloc => exact locs rfl
  case hco => exact rfl
  case hgen => exact rfl
  case hk => exact rfl
  case hcell => decide
  intro mean mg mb dp un gd env outer A base g L' h₁ s B F N X T hd hp
  k_steps
  all_goals (cases o <;> first | exact ⟨_, rfl⟩ | exact absurd ‹_ = true› (by decide) | exact absurd ‹_ = false› (by decide) | exact absurd ‹(_ : Str) = _› (by decide) | exact absurd rfl (by assumption))
end
section
/-! C8 -/
local macro_rules | `(tactic| walk_at "Post") => `(tactic| refine Post.intro (by assumption) ?_)
local macro_rules | `(tactic| walk_at "execs cons") => `(tactic| (refine wpAny_execs_cons ?_; k_fold; (try dsimp only); (try (refine tok_free ?_; intro tk9))))
local macro_rules | `(tactic| walk_at "subscriptTail") => `(tactic| (k_here; (with_reducible show wpAny _ _ (subscriptTail _ _ (Value.ref _) (Value.int _ _)) _ _ _); k_dflt (refine' item_tupleT ?t ?a ?b ?c ?d ?_; (case t => exact IsTup.keeps (by with_reducible assumption) (Fr.keep (by with_reducible assumption))); (case a => decide); (case b => decide); (case c => rfl); (case d => rfl); k_whole)))
local macro_rules | `(tactic| walk_at "compareOp Eq ref") => `(tactic| (k_here; (with_reducible show wpAny _ _ (compareOp CmpOp.Eq (Value.ref _) (Value.str _ _)) _ _ _); k_dflt (refine' cmp_ofEq (SeqAt.RcAt.tuple_str _ _ ?t ?u _ _ _ _ ?_); (case t => exact IsTup.keeps (by with_reducible assumption) (Fr.keep (by with_reducible assumption))); (case u => (dsimp only; rw [cLine_is]; omega)); k_whole)))
theorem prod_any {xs ws : List Int} {b c : Int} (hn : b ≠ c) : ((prod xs ws).any fun p => decide (p = (b, c))) = (xs.any (· == b) && ws.any (· == c)) := by
  rw [Bool.eq_iff_iff]
  simp only [prod, inn, List.any_eq_true, List.mem_flatMap, List.mem_map, List.mem_filter, decide_eq_true_eq, Bool.and_eq_true, beq_iff_eq]
  constructor
  · rintro ⟨p, ⟨v, hv, w, ⟨hw, _⟩, rfl⟩, e⟩
    cases e
    exact ⟨⟨_, hv, rfl⟩, ⟨_, hw, rfl⟩⟩
  · rintro ⟨⟨v, hv, rfl⟩, ⟨w, hw, rfl⟩⟩
    exact ⟨_, ⟨v, hv, w, ⟨hw, hn⟩, rfl⟩, rfl⟩
def inB (b : Int) : Prop := b = 0 ∨ b = 1 ∨ b = 3
theorem any_b {b : Int} (h : inB b) : ([0, 1, 3] : List Int).any (· == b) = true := by rcases h with rfl | rfl | rfl <;> rfl
/-- the pairs of a letter's edge -/
def Sym.chg (y : Sym) (b c : Int) : Bool := match y with
  | .r => b == 0 && c == 1 | .f => b == 1 && c == 0 | .p => b == 0 || c == 1 | .n => b == 1 || c == 0 | .s => true | .e x y => x.codes.any (· == b) && y.codes.any (· == c) | .l _ => false
theorem chg_eq {y : Sym} {b c : Int} (hb : inB b) (hc : inB c) (hn : b ≠ c) : (y.pairs.any fun p => decide (p = (b, c))) = y.chg b c := by
  cases y with
  | e x y => exact prod_any hn
  | s => show ((prod _ _).any _) = true; rw [prod_any hn, any_b hb, any_b hc]; rfl
  | l x => rfl
  | _ => rcases hb with rfl | rfl | rfl <;> rcases hc with rfl | rfl | rfl <;> first | rfl | exact absurd rfl hn
theorem letter_of {y : Sym} (z : Sym) (h : (y.letter == z.letter) = true) (hz : z = .r ∨ z = .f ∨ z = .p ∨ z = .n ∨ z = .s) : y = z := by
  rcases hz with rfl | rfl | rfl | rfl | rfl <;> cases y <;> first | rfl | exact absurd h (by decide) | exact absurd (show (Str.ofString "" == Sym.letter _) = true from h) (by decide) | (rename_i l; cases l <;> exact absurd h (by decide))
theorem letter_all {y : Sym} (hE : y.isEdge = true) (h : ∀ c d, y ≠ .e c d) (h1 : (y.letter == Str.ofString "r") = false) (h2 : (y.letter == Str.ofString "f") = false) (h3 : (y.letter == Str.ofString "p") = false) (h4 : (y.letter == Str.ofString "n") = false) (h5 : (y.letter == Str.ofString "*") = false) : False := by
  cases y with
  | l x => exact absurd (show false = true from hE) (by decide)
  | e x y => exact h _ _ rfl
  | r => exact absurd h1 (by decide) | f => exact absurd h2 (by decide) | p => exact absurd h3 (by decide) | n => exact absurd h4 (by decide) | s => exact absurd h5 (by decide)
theorem law_is_change_ok (w : World) (v : Value) (y : Sym) (b c : Int) (t u : Tok) (hE : y.isEdge = true) (hb : inB b) (hc : inB c) (hn : b ≠ c) :
    PCon w 171 880 [v, .int b t, .int c u] (fun h => SymAt h v y) (fun _ _ r => r = .bool (y.pairs.any fun p => decide (p = (b, c)))) := by
  rw [chg_eq hb hc hn]
  refine' PCon.intro (binds := [(Str.ofString "letter", v), (Str.ofString "before", .int b t), (Str.ofString "behind", .int c u)]) ?ho ?hcd ?hlim ?hbind ?hloc ?hco ?hgen ?hk ?hcell ?h
  case ho => k_is
  case hcd => k_is
  case hlim => decide
  case hbind => exact rfl
  case hloc => exact locs rfl
  case hco => exact rfl
  case hgen => exact rfl
  case hk => exact rfl
  case hcell => decide
  intro mean mg mb dp un gd env outer A base g L' h₁ s B F N X T hd hp
  rcases hp.cases with ⟨t, rfl, hy⟩ | ⟨a, d, x, t₁, t₂, t₃, rfl, rfl, I⟩
  · k_steps
    · exact absurd ‹b = c› hn
    · rw [letter_of (y := y) .r ‹(y.letter == Str.ofString "r") = true› (by simp)]; rfl
    · rw [letter_of (y := y) .f ‹(y.letter == Str.ofString "f") = true› (by simp)]; rfl
    · rw [letter_of (y := y) .p ‹(y.letter == Str.ofString "p") = true› (by simp), ‹b = 0›]; rfl
    · rw [letter_of (y := y) .p ‹(y.letter == Str.ofString "p") = true› (by simp), Sym.chg, beq_eq_false_iff_ne.mpr ‹b ≠ 0›]; rfl
    · rw [letter_of (y := y) .n ‹(y.letter == Str.ofString "n") = true› (by simp), ‹b = 1›]; rfl
    · rw [letter_of (y := y) .n ‹(y.letter == Str.ofString "n") = true› (by simp), Sym.chg, beq_eq_false_iff_ne.mpr ‹b ≠ 1›]; rfl
    · rw [letter_of (y := y) .s ‹(y.letter == Str.ofString "*") = true› (by simp)]; rfl
    · exact (letter_all hE hy (by assumption) (by assumption) (by assumption) (by assumption) (by assumption)).elim
  · k_steps
    all_goals first
      | exact absurd ‹b = c› hn
      | (refine PCon.use (law_holds_ok w _ _ _ _) (by assumption) (by assumption) (by assumption) (by assumption) rfl rfl (by omega) trivial ?_
         rintro _ h₄ tk₄ F K rfl
         have N := News.kept (by assumption) K
         k_steps
         all_goals first
           | (rw [Sym.chg, ‹(a.codes.any fun x => x == b) = false›]; rfl)
           | (refine PCon.use (law_holds_ok w _ _ _ _) (by assumption) (by assumption) (by assumption) (by assumption) rfl rfl (by omega) trivial ?_
              rintro _ h₄ tk₄ F K rfl
              have N := News.kept (by assumption) K
              k_steps
              rw [Sym.chg, ‹(a.codes.any fun x => x == b) = true›]; rfl))
end
section
/-! C9 -/
local macro_rules | `(tactic| walk_at "Post") => `(tactic| refine Post.intro (by assumption) ?_)
local macro_rules | `(tactic| walk_at "execs cons") => `(tactic| (refine wpAny_execs_cons ?_; k_fold; (try dsimp only); (try (refine tok_free ?_; intro tk9))))
local macro_rules | `(tactic| walk_at "exec For Name Call cons nil") => `(tactic| k_dflt (refine For_m ?_))
local macro_rules | `(tactic| walk_at "exec For Tuple Name cons nil") => `(tactic| k_dflt (refine For_m ?_))
local macro_rules | `(tactic| walk_at "call type:range") => `(tactic| (k_here; k_dflt (refine' range_call ?F ?N ?_; (case F => k_asm); (case N => k_asm); k_whole); intro r9 h9 tk9 t9 u9 v9 hr9 F9 N9; (try k_sweep)))
local macro_rules | `(tactic| walk_at "call builtin:len") => `(tactic| (k_here; (with_reducible show wpAny _ _ (call (Value.builtin "len") [Value.ref _]) _ _ _); k_dflt (refine' len_list_at ?t ?f ?a ?_; (case t => with_reducible assumption); (case f => with_reducible assumption); (case a => omega); k_whole)))
local macro_rules | `(tactic| walk_at "subscriptTail") => `(tactic| (k_here; (with_reducible show wpAny _ _ (subscriptTail _ _ (Value.ref _) (Value.int _ _)) _ _ _); k_dflt (first
  | (refine' tup_at ?t ?f ?x ?b ?_; (case t => with_reducible assumption); (case f => with_reducible assumption); (case x => with_reducible assumption); (case b => with_reducible assumption); k_whole)
  | (refine' lst_at ?t ?f ?x ?b ?_; (case t => with_reducible assumption); (case f => with_reducible assumption); (case x => with_reducible assumption); (case b => with_reducible assumption); k_whole))))
local macro_rules | `(tactic| walk_at "eval ListComp") => `(tactic| k_dflt (refine LCg.ListComp_U (F₀ := by k_asm) (by rfl) (by decide) (by rfl) (by decide) (by rfl) ?_))
theorem hit_edge {y : Sym} {c : Int} (h : y.isEdge = true) : y.hit c = false := by cases y <;> first | rfl | cases h
theorem edge_no {y : Sym} (h : y.isEdge = false) : ∃ l, y = .l l := by cases y <;> first | exact ⟨_, rfl⟩ | cases h
theorem law_levels_hold_ok (w : World) (a c : Addr) (ys : List Sym) (cs : List Int) (k : Int) (u : Tok) (hl : cs.length = ys.length) (hs : ys.length ≤ 50) :
    PCon w 197 880 [.ref a, .ref c, .int k u] (fun h => SymTup h a ys ∧ IntList h c cs) (fun _ _ r => r = .bool (lm k ys cs)) := by
  refine' PCon.intro (binds := [(Str.ofString "letters", .ref a), (Str.ofString "seen", .ref c), (Str.ofString "but", .int k u)]) ?ho ?hcd ?hlim ?hbind ?hloc ?hco ?hgen ?hk ?hcell ?h
  case ho => k_is
  case hcd => k_is
  case hlim => decide
  case hbind => exact rfl
  case hloc => exact locs rfl
  case hco => exact rfl
  case hgen => exact rfl
  case hk => exact rfl
  case hcell => decide
  intro mean mg mb dp un gd env outer A base g L' h₁ s B F N X T hd hp
  obtain ⟨⟨vs, I, V⟩, ns, J, W⟩ := hp
  have hv : vs.length = ys.length := V.1
  have hn : ns.length = cs.length := W.length
  k_steps
  rename_i r2 h2 tk2 t2 u2 v2 hr F N
  rw [hn, hl] at hr
  refine range_s (fun y => y == Str.ofString "at") (fun i => ∀ j, j < i → okAt k ys cs j = true) (fun v s₂ => Post g L' (fun _ _ r => r = .bool (lm k ys cs)) s (.ret v) s₂) hr (by omega) (L := L') rfl F N (fun j hj => absurd hj (Nat.not_lt_zero _)) rfl (fun _ _ q => q) ?_ ?_
  · intro i I t um io h tk hi hJ off F N
    try dsimp only
    clear hr
    obtain ⟨yv, hyv, Y⟩ := V.2 i ys[i] (List.getElem?_eq_getElem hi)
    obtain ⟨ct, hcv⟩ := ints_at W (i := i) (List.getElem?_eq_getElem (by omega))
    have b1 : vs.length ≤ 1000 := by omega
    have b2 : ns.length ≤ 1000 := by omega
    generalize hyi : ys[i] = y at Y
    have hY : ys[i]? = some y := by rw [List.getElem?_eq_getElem hi, hyi]
    have hC : cs[i]? = some (cs.getD i 0) := by rw [List.getElem?_eq_getElem (by omega), List.getD_eq_getElem?_getD, List.getElem?_eq_getElem (by omega)]; rfl
    have ok := okAt_of k hY hC
    k_steps
    · refine PCon.use (law_is_level_ok w yv y) (by assumption) (by assumption) (by assumption) (by assumption) rfl rfl (by omega) (Y.keeps (Fr.keep (by assumption))) ?_
      rintro _ h₄ tk₄ F K rfl
      have N := News.kept (by assumption) K
      k_steps
      · exact TurnS.ret (Post.intro (by assumption) (by rw [lm_false hi (by rw [ok, decide_eq_false ‹(i : Int) ≠ k›, hit_edge ‹y.isEdge = true›]; rfl)]))
      · obtain ⟨l, rfl⟩ := edge_no ‹y.isEdge = false›
        obtain ⟨t₅, rfl⟩ := Y
        refine PCon.use (law_holds_ok w l t₅ _ _) (by assumption) (by assumption) (by assumption) (by assumption) rfl rfl (by omega) trivial ?_
        rintro _ h₆ tk₆ F K rfl
        have N := News.kept (by assumption) K
        have hh : (Sym.l l).hit (cs.getD i 0) = l.codes.any (· == cs.getD (i : Int).toNat 0) := rfl
        k_steps
        · exact TurnS.next (by assumption) (by assumption) (fun p hp => hp) (store_off rfl tmpM_off) (ok_succ hJ (by rw [ok, hh, ‹(l.codes.any fun x => x == cs.getD (i : Int).toNat 0) = true›, Bool.or_true]))
        · exact TurnS.ret (Post.intro (by assumption) (by rw [lm_false hi (by rw [ok, decide_eq_false ‹(i : Int) ≠ k›, hh, ‹(l.codes.any fun x => x == cs.getD (i : Int).toNat 0) = false›]; rfl)]))
    · exact TurnS.next (by assumption) (by assumption) (fun p hp => hp) (store_off rfl tmpM_off) (ok_succ hJ (by rw [ok, decide_eq_true ‹(i : Int) = k›, Bool.true_or]))
  · intro h tk u hJ F N
    k_steps
    rw [lm_true hJ]
theorem law_x_ok (w : World) (a : Addr) (cs : List Int) (hc : cs.length ≤ 50) :
    PCon w 216 860 [.ref a] (fun h => IntList h a cs) (fun g h r => ∃ b vs, r = .ref b ∧ g.get? b = none ∧ h.get? b = some (LCg.lst vs) ∧ IntsAre vs (cs.map pl)) := by
  refine' PCon.intro (binds := [(Str.ofString "seen", .ref a)]) ?ho ?hcd ?hlim ?hbind ?hloc ?hco ?hgen ?hk ?hcell ?h
  case ho => k_is
  case hcd => k_is
  case hlim => decide
  case hbind => exact rfl
  case hloc => exact locs rfl
  case hco => exact rfl
  case hgen => exact rfl
  case hk => exact rfl
  case hcell => decide
  intro mean mg mb dp un gd env outer A base g L' h₁ s B F N X T hd hp
  obtain ⟨ns, Jn, Wn⟩ := hp
  have hns : ns.length = cs.length := Wn.length
  k_steps
  refine comp_ints pl Jn Wn (by omega) (by assumption) (by assumption) rfl ?_ ?_
  · intro c t C oC m₂ h tk hC hx F N
    k_steps
    · rw [show pl c = 3 from if_pos ‹c = 2›]; exact ElP.intro (by assumption) fun _ _ e => e
    · rw [show pl c = c from if_neg ‹c ≠ 2›]; exact ElP.intro (by assumption) fun _ _ e => e
  · intro h ys hy D h' tk' F' N' o1
    try dsimp only at *
    k_unfold
    exact Post.intro (by assumption) ⟨D, ys, rfl, News.fresh (by assumption) List.mem_cons_self, News.get (by assumption) List.mem_cons_self, hy⟩
end
section
/-! C10 -/
local macro_rules | `(tactic| walk_at "Post") => `(tactic| refine Post.intro (by assumption) ?_)
local macro_rules | `(tactic| walk_at "execs cons") => `(tactic| (refine wpAny_execs_cons ?_; k_fold; (try dsimp only); (try (refine tok_free ?_; intro tk9))))
local macro_rules | `(tactic| walk_at "exec For Tuple Name cons nil") => `(tactic| k_dflt (refine For_m ?_))
local macro_rules | `(tactic| walk_at "exec For Name Call cons nil") => `(tactic| k_dflt (refine For_m ?_))
local macro_rules | `(tactic| walk_at "call type:range") => `(tactic| (k_here; k_dflt (refine' range_call ?F ?N ?_; (case F => k_asm); (case N => k_asm); k_whole); intro r9 h9 tk9 t9 u9 v9 hr9 F9 N9; (try k_sweep)))
local macro_rules | `(tactic| walk_at "call builtin:len") => `(tactic| (k_here; (with_reducible show wpAny _ _ (call (Value.builtin "len") [Value.ref _]) _ _ _); k_dflt (refine' len_list_at ?t ?f ?a ?_; (case t => with_reducible assumption); (case f => with_reducible assumption); (case a => omega); k_whole)))
local macro_rules | `(tactic| walk_at "subscriptTail") => `(tactic| (k_here; (with_reducible show wpAny _ _ (subscriptTail _ _ (Value.ref _) (Value.int _ _)) _ _ _); k_dflt (first
  | (refine' tup_at ?t ?f ?x ?b ?_; (case t => with_reducible assumption); (case f => with_reducible assumption); (case x => with_reducible assumption); (case b => with_reducible assumption); k_whole)
  | (refine' lst_at ?t ?f ?x ?b ?_; (case t => with_reducible assumption); (case f => with_reducible assumption); (case x => with_reducible assumption); (case b => with_reducible assumption); k_whole))))
theorem law_flat_ok (w : World) (ta ca : Addr) (rows : List RowD) (cs : List Int) (hr : ∀ r ∈ rows, r.ins.length = cs.length) (hc : cs.length ≤ 50) :
    PCon w 204 840 [.ref ta, .ref ca] (fun h => TableAt h ta rows ∧ IntList h ca cs) (fun _ _ r => IsInt (flat rows cs) r) := by
  refine' PCon.intro (binds := [(Str.ofString "table", .ref ta), (Str.ofString "seen", .ref ca)]) ?ho ?hcd ?hlim ?hbind ?hloc ?hco ?hgen ?hk ?hcell ?h
  case ho => k_is
  case hcd => k_is
  case hlim => decide
  case hbind => exact rfl
  case hloc => exact locs rfl
  case hco => exact rfl
  case hgen => exact rfl
  case hk => exact rfl
  case hcell => decide
  intro mean mg mb dp un gd env outer A base g L' h₁ s B F N X T hd hp
  obtain ⟨⟨vs, I, V⟩, ns, J, Wn⟩ := hp
  have hvs : vs.length = rows.length := V.1
  k_steps
  refine tup_s (L := L') (fun y => y == Str.ofString "letters" || y == Str.ofString "state" || y == Str.ofString "out") (fun i => ∀ j, j < i → ∀ r', rows[j]? = some r' → lm (-1) r'.ins cs = false)
    (fun v s₂ => Post g L' (fun _ _ r => IsInt (flat rows cs) r) s (.ret v) s₂) I rfl rfl (by assumption) (by assumption) (fun j hj => absurd hj (Nat.not_lt_zero _)) rfl (fun _ _ q => q) ?_ ?_
  · intro i I₁ v u io h₂ tk₂ hv hJ off F N
    obtain ⟨r, hrow, a, b, hv', t, rfl, I3, S3, H3⟩ := V.at hv
    have hmem : r ∈ rows := List.mem_of_getElem? hrow
    try dsimp only
    refine assign3 (L := L') rfl rfl (I3.keeps F.keep) F N rfl rfl rfl rfl fun h₃ tk₃ F N => ?_
    try dsimp only
    k_steps
    refine PCon.use (law_levels_hold_ok w b ca r.ins cs (-1) _ (by rw [hr r hmem]) (by rw [hr r hmem]; omega)) (by assumption) (by assumption) (by assumption) (by assumption) rfl rfl (by omega) ⟨S3.keeps (Fr.keep (by assumption)), IntList.keeps (Fr.keep (by assumption)) ⟨ns, J, Wn⟩⟩ ?_
    rintro _ h₄ tk₄ F K rfl
    have N := News.kept (by assumption) K
    k_steps
    · refine PCon.use (law_out_ok w r.out t 3 _) (by assumption) (by assumption) (by assumption) (by assumption) rfl rfl (by omega) trivial ?_
      rintro _ h₅ tk₅ F K ⟨t₅, rfl⟩
      k_unfold
      refine TurnS.ret (Post.intro F ?_)
      rw [flat, find_at (p := fun r => lm (-1) r.ins cs) hrow ‹lm (-1) r.ins cs = true› hJ]
      exact ⟨_, rfl⟩
    · exact TurnS.next (by assumption) (by assumption) (fun p hp => hp) (store_off rfl (store_off rfl (store_off rfl tmpM_off))) (miss_succ hJ hrow ‹lm (-1) r.ins cs = false›)
  · intro h tk u hJ F N
    rw [hvs] at hJ
    k_steps
    rw [flat, find_no hJ]
    exact ⟨_, rfl⟩
def outT (z : Str) : Bool := z == Str.ofString "at" || z == Str.ofString "before" || z == Str.ofString "state" || z == Str.ofString "found" || z == Str.ofString "letters" || z == Str.ofString "held" || z == Str.ofString "out"
def innT (z : Str) : Bool := z == Str.ofString "found" || z == Str.ofString "letters" || z == Str.ofString "held" || z == Str.ofString "out"
theorem out_inn {z : Str} (h : outT z = false) : innT z = false := by
  unfold outT at h
  unfold innT
  simp only [Bool.or_eq_false_iff] at h ⊢
  exact ⟨⟨⟨h.1.1.1.2, h.1.1.2⟩, h.1.2⟩, h.2⟩
theorem tmpM_in {u M m₀ : Str → Option Value} (h : ∀ z, outT z = false → M z = m₀ z) : ∀ z, outT z = false → tmpM innT u M z = m₀ z := fun z q => by rw [tmpM_off z (out_inn q)]; exact h z q
theorem pl_in {c : Int} (h : inB c) : pl c = c := by rcases h with rfl | rfl | rfl <;> rfl
theorem in_pl {c : Int} (h : inB c ∨ c = 2) : inB (pl c) := by
  rcases h with h | rfl
  · rw [pl_in h]; exact h
  · exact .inr (.inr rfl)
theorem getD_in {l : List Int} {P : Int → Prop} (h : ∀ c ∈ l, P c) {i : Nat} (hi : i < l.length) : P (l.getD i 0) := by
  rw [List.getD_eq_getElem?_getD, List.getElem?_eq_getElem hi]
  exact h _ (List.getElem_mem hi)
theorem mvI_in (rows : List RowD) {new : List Int} (hn : ∀ c ∈ new, inB c) : ∀ (i : Nat) (st : Int) (cs : List Int), (∀ c ∈ cs, inB c) → ∀ c ∈ (mvI rows new i st cs).2, inB c
  | 0, _, _, h => h
  | i + 1, st, cs, h => by
    have ih := mvI_in rows hn i st cs h
    show ∀ c ∈ (mvI rows new i st cs).2.set i (pl (new.getD i 0)), inB c
    intro c hc
    rcases List.mem_or_eq_of_mem_set hc with hc | rfl
    · exact ih c hc
    · by_cases q : i < new.length
      · have := getD_in hn q
        rw [pl_in this]; exact this
      · rw [List.getD_eq_getElem?_getD, List.getElem?_eq_none (Nat.le_of_not_lt q)]; exact .inl rfl
theorem law_moved_ok (w : World) (ta oa na : Addr) (rows : List RowD) (old new : List Int) (st : Int) (u₁ : Tok) (hr : ∀ r ∈ rows, r.ins.length = old.length) (hk : ∀ r ∈ rows, ∃ l, r.held = some l) (hn : new.length = old.length) (hc : old.length ≤ 50)
    (ho : ∀ c ∈ old, inB c) (hnw : ∀ c ∈ new, inB c) :
    PCon w 211 800 [.ref ta, .int st u₁, .ref oa, .ref na] (fun h => TableAt h ta rows ∧ IntList h oa old ∧ IntList h na new) (fun _ _ r => IsInt (mvI rows new old.length st old).1 r) := by
  refine' PCon.intro (binds := [(Str.ofString "table", .ref ta), (Str.ofString "state", .int st u₁), (Str.ofString "last", .ref oa), (Str.ofString "fresh", .ref na)]) ?ho ?hcd ?hlim ?hbind ?hloc ?hco ?hgen ?hk ?hcell ?h
  case ho => k_is
  case hcd => k_is
  case hlim => decide
  case hbind => exact rfl
  case hloc => exact locs rfl
  case hco => exact rfl
  case hgen => exact rfl
  case hk => exact rfl
  case hcell => decide
  intro mean mg mb dp un gd env outer A base g L' h₁ s B F N X T hd hp
  obtain ⟨⟨vs, I0, V⟩, ⟨os, Jo, Wo⟩, ns, Jn, Wn⟩ := hp
  have hvs : vs.length = rows.length := V.1
  have hos : os.length = old.length := Wo.length
  have hns : ns.length = new.length := Wn.length
  k_steps
  rename_i r2 h2 tk2 t2 u2 v2 hr2 F N
  rw [show ns.length = old.length by omega] at hr2
  refine with_map F fun m₀ em => ?_
  refine range_L (L := L') (fun i m nw => ∃ t vsn k, (∀ z, outT z = false → m z = m₀ z) ∧ m (Str.ofString "state") = some (.int (mvI rows new i st old).1 t) ∧ nw = [(_, W.listOf (List.toArray vsn) k)] ∧ IntsAre vsn (mvI rows new i st old).2)
    hr2 (by omega) rfl F N ⟨_, os, _, fun _ _ => by rw [em], rfl, rfl, Wo⟩ rfl ?_ ?_
  · rintro i I t m₁ _ io h tk hi ⟨ts, vsn, k, hm, hs, rfl, hv⟩ off F N
    have F := st_map hm hs F
    rw [em] at F
    have hDI : @Ne Nat _ I := off _ List.mem_cons_self
    have hl := mvI_len rows new i st old
    have hin := mvI_in rows hnw i st old ho
    generalize hq : mvI rows new i st old = q at *
    obtain ⟨st₁, cs₁⟩ := q
    try dsimp only at hv hl hin F ⊢
    have hg : (cs₁.set i (pl (new.getD i 0))).getD i 0 = pl (new.getD i 0) := getD_set_self (by omega)
    have hp : pl (new.getD i 0) = new.getD i 0 := pl_in (getD_in hnw (by omega))
    rw [hp] at hg
    k_steps
    · have ha : cs₁.getD i 0 ≠ new.getD i 0 := ‹cs₁.getD (i : Int).toNat 0 ≠ new.getD (i : Int).toNat 0›
      have hv' : IntsAre _ (cs₁.set i (new.getD i 0)) := ‹IntsAre (vsn.set _ _) _›
      have hl' : (cs₁.set i (new.getD i 0)).length = old.length := by rw [List.length_set, hl]
      have e1 := mvI_ne (rows := rows) (cs₂ := cs₁.set i (new.getD i 0)) hq (by rw [hg]; exact Ne.symm ha) hg hp.symm
      have b1 : inB (cs₁.getD i 0) := getD_in hin (by omega)
      have b2 : inB ((cs₁.set i (new.getD i 0)).getD i 0) := by rw [hg]; exact getD_in hnw (by omega)
      have b3 : cs₁.getD i 0 ≠ (cs₁.set i (new.getD i 0)).getD i 0 := by rw [hg]; exact ha
      refine tup_f (L := L') innT (Str.ofString "found") (fnd (fun r => lm (-1) r.ins (cs₁.set i (new.getD i 0)) && holdsO r.held st₁) st₁ rows none) I0 rfl rfl (by assumption) (by assumption) .none rfl rfl rfl ?_ ?_
      · intro i₂ I₂ v vf u₂ io₂ h₂ tk₂ hv₂ hf off₂ F N
        obtain ⟨r, hrow, a, b, hv', t, rfl, I3, S3, H3⟩ := V.at hv₂
        have hmem : r ∈ rows := List.mem_of_getElem? hrow
        obtain ⟨l, hl⟩ := hk r hmem
        rw [hl] at H3
        obtain ⟨t', rfl⟩ := H3
        have hO : holdsO r.held st₁ = l.codes.any (· == st₁) := by rw [hl]; rfl
        try dsimp only
        refine assign3 (L := L') rfl rfl (I3.keeps F.keep) F N rfl rfl rfl rfl fun h₃ tk₃ F N => ?_
        try dsimp only
        generalize ho₂ : fnd (fun r => lm (-1) r.ins (cs₁.set i (new.getD i 0)) && holdsO r.held st₁) st₁ rows none i₂ = o₂ at hf
        cases o₂ with
        | some c =>
          obtain ⟨tc, rfl⟩ := hf
          k_steps
          exact TurnF.next (by assumption) (by assumption) (fun p hp => hp) (store_off rfl (store_off rfl (store_off rfl (store_off rfl tmpM_off)))) rfl (by rw [fnd_some hrow ho₂]; exact ⟨_, rfl⟩)
        | none =>
          cases hf
          k_steps
          refine PCon.use (law_holds_ok w l t' _ _) (by assumption) (by assumption) (by assumption) (by assumption) rfl rfl (by omega) trivial ?_
          rintro _ h₄ tk₄ F K rfl
          have N := News.kept (by assumption) K
          k_steps
          · refine PCon.use (law_levels_hold_ok w b _ r.ins (cs₁.set i (new.getD i 0)) (-1) _ (by rw [hr r hmem, hl']) (by rw [hr r hmem]; omega)) (by assumption) (by assumption) (by assumption) (by assumption) rfl rfl (by omega) ⟨S3.keeps (Fr.keep (by assumption)), _, News.isList (by assumption) (List.mem_cons_of_mem _ (List.mem_cons_of_mem _ List.mem_cons_self)), by assumption⟩ ?_
            rintro _ h₄ tk₄ F K rfl
            have N := News.kept (by assumption) K
            k_steps
            · refine PCon.use (law_out_ok w r.out t st₁ _) (by assumption) (by assumption) (by assumption) (by assumption) rfl rfl (by omega) trivial ?_
              rintro _ h₅ tk₅ F K ⟨t₅, rfl⟩
              have N := News.kept (by assumption) K
              k_steps
              exact TurnF.next (by assumption) (by assumption) (fun p hp => hp) (store_off rfl (store_off rfl (store_off rfl (store_off rfl (store_off rfl tmpM_off))))) rfl (by rw [fnd_yes hrow ho₂ (by rw [hO, ‹lm (-1) r.ins _ = true›, Bool.true_and]; assumption)]; exact ⟨_, rfl⟩)
            · exact TurnF.next (by assumption) (by assumption) (fun p hp => hp) (store_off rfl (store_off rfl (store_off rfl (store_off rfl tmpM_off)))) rfl (by rw [fnd_no hrow ho₂ (by rw [‹lm (-1) r.ins _ = false›, Bool.false_and])]; rfl)
          · exact TurnF.next (by assumption) (by assumption) (fun p hp => hp) (store_off rfl (store_off rfl (store_off rfl (store_off rfl tmpM_off)))) rfl (by rw [fnd_no hrow ho₂ (by rw [hO, ‹(l.codes.any fun x => x == st₁) = false›, Bool.and_false])]; rfl)
      · intro h tk vf u hf F N
        rw [hvs] at hf
        k_steps
        refine tup_f (L := L') innT (Str.ofString "found") (fnd (edgeHit st₁ (cs₁.set i (new.getD i 0)) i (cs₁.getD i 0)) st₁ rows (fnd (fun r => lm (-1) r.ins (cs₁.set i (new.getD i 0)) && holdsO r.held st₁) st₁ rows none rows.length)) I0 rfl rfl (by assumption) (by assumption) vf rfl (by rw [fnd_zero]; exact hf) rfl ?_ ?_
        · intro i₂ I₂ v vf u₂ io₂ h₂ tk₂ hv₂ hf off₂ F N
          obtain ⟨r, hrow, a, b, hv', t, rfl, I3, S3, H3⟩ := V.at hv₂
          have hmem : r ∈ rows := List.mem_of_getElem? hrow
          obtain ⟨l, hl⟩ := hk r hmem
          rw [hl] at H3
          obtain ⟨t', rfl⟩ := H3
          have hO : holdsO r.held st₁ = l.codes.any (· == st₁) := by rw [hl]; rfl
          try dsimp only
          refine assign3 (L := L') rfl rfl (I3.keeps F.keep) F N rfl rfl rfl rfl fun h₃ tk₃ F N => ?_
          try dsimp only
          generalize ho₂ : fnd (edgeHit st₁ (cs₁.set i (new.getD i 0)) i (cs₁.getD i 0)) st₁ rows (fnd (fun r => lm (-1) r.ins (cs₁.set i (new.getD i 0)) && holdsO r.held st₁) st₁ rows none rows.length) i₂ = o₂ at hf
          cases o₂ with
          | some c =>
            obtain ⟨tc, rfl⟩ := hf
            k_steps
            exact TurnF.next (by assumption) (by assumption) (fun p hp => hp) (store_off rfl (store_off rfl (store_off rfl (store_off rfl tmpM_off)))) rfl (by rw [fnd_some hrow ho₂]; exact ⟨_, rfl⟩)
          | none =>
            cases hf
            obtain ⟨vs₃, I₃, V₃⟩ := id S3
            have hch' : i < r.ins.length := by rw [hr r hmem]; exact hi
            have hlen : vs₃.length ≤ 1000 := by rw [V₃.1, hr r hmem]; omega
            obtain ⟨yv, hyv, Y⟩ := V₃.2 i r.ins[i] (List.getElem?_eq_getElem hch')
            generalize hyi : r.ins[i] = y at Y
            have hY : r.ins[i]? = some y := by rw [List.getElem?_eq_getElem hch', hyi]
            have eH : edgeHit st₁ (cs₁.set i (new.getD i 0)) i (cs₁.getD i 0) r = (y.isEdge && y.pairs.any (fun p => decide (p = (cs₁.getD i 0, (cs₁.set i (new.getD i 0)).getD i 0))) && holdsO r.held st₁ && lm i r.ins (cs₁.set i (new.getD i 0))) := by rw [edgeHit, hY]
            k_steps
            refine PCon.use (law_holds_ok w l t' _ _) (by assumption) (by assumption) (by assumption) (by assumption) rfl rfl (by omega) trivial ?_
            rintro _ h₄ tk₄ F K rfl
            have N := News.kept (by assumption) K
            k_steps
            · refine PCon.use (law_is_level_ok w yv y) (by assumption) (by assumption) (by assumption) (by assumption) rfl rfl (by omega) (Y.keeps (Fr.keep (by assumption))) ?_
              rintro _ h₄ tk₄ F K rfl
              have N := News.kept (by assumption) K
              k_steps
              · refine PCon.use (law_is_change_ok w yv y _ _ _ _ ‹y.isEdge = true› b1 b2 b3) (by assumption) (by assumption) (by assumption) (by assumption) rfl rfl (by omega) (Y.keeps (Fr.keep (by assumption))) ?_
                rintro _ h₄ tk₄ F K rfl
                have N := News.kept (by assumption) K
                k_steps
                · refine PCon.use (law_levels_hold_ok w b _ r.ins (cs₁.set i (new.getD i 0)) i _ (by rw [hr r hmem, hl']) (by rw [hr r hmem]; omega)) (by assumption) (by assumption) (by assumption) (by assumption) rfl rfl (by omega) ⟨S3.keeps (Fr.keep (by assumption)), _, News.isList (by assumption) (List.mem_cons_of_mem _ (List.mem_cons_of_mem _ List.mem_cons_self)), by assumption⟩ ?_
                  rintro _ h₄ tk₄ F K rfl
                  have N := News.kept (by assumption) K
                  k_steps
                  · refine PCon.use (law_out_ok w r.out t st₁ _) (by assumption) (by assumption) (by assumption) (by assumption) rfl rfl (by omega) trivial ?_
                    rintro _ h₅ tk₅ F K ⟨t₅, rfl⟩
                    have N := News.kept (by assumption) K
                    k_steps
                    exact TurnF.next (by assumption) (by assumption) (fun p hp => hp) (store_off rfl (store_off rfl (store_off rfl (store_off rfl (store_off rfl tmpM_off))))) rfl (by rw [fnd_yes hrow ho₂ (by rw [eH, hO, ‹(y.pairs.any _) = true›, ‹y.isEdge = true›, ‹(l.codes.any fun x => x == st₁) = true›, ‹lm (i : Int) r.ins _ = true›]; rfl)]; exact ⟨_, rfl⟩)
                  · exact TurnF.next (by assumption) (by assumption) (fun p hp => hp) (store_off rfl (store_off rfl (store_off rfl (store_off rfl tmpM_off)))) rfl (by rw [fnd_no hrow ho₂ (by rw [eH, ‹lm (i : Int) r.ins _ = false›, Bool.and_false])]; rfl)
                · exact TurnF.next (by assumption) (by assumption) (fun p hp => hp) (store_off rfl (store_off rfl (store_off rfl (store_off rfl tmpM_off)))) rfl (by rw [fnd_no hrow ho₂ (by rw [eH, ‹(y.pairs.any _) = false›, Bool.and_false, Bool.false_and, Bool.false_and])]; rfl)
              · exact TurnF.next (by assumption) (by assumption) (fun p hp => hp) (store_off rfl (store_off rfl (store_off rfl (store_off rfl tmpM_off)))) rfl (by rw [fnd_no hrow ho₂ (by rw [eH, ‹y.isEdge = false›]; rfl)]; rfl)
            · exact TurnF.next (by assumption) (by assumption) (fun p hp => hp) (store_off rfl (store_off rfl (store_off rfl (store_off rfl tmpM_off)))) rfl (by rw [fnd_no hrow ho₂ (by rw [eH, hO, ‹(l.codes.any fun x => x == st₁) = false›, Bool.and_false, Bool.false_and])]; rfl)
        · intro h tk vf u hf F N
          rw [hvs] at hf
          rw [step_fnd] at e1
          generalize fnd (edgeHit st₁ (cs₁.set i (new.getD i 0)) i (cs₁.getD i 0)) st₁ rows (fnd (fun r => lm (-1) r.ins (cs₁.set i (new.getD i 0)) && holdsO r.held st₁) st₁ rows none rows.length) rows.length = o₂ at hf e1
          cases o₂ with
          | some c =>
            obtain ⟨tc, rfl⟩ := hf
            k_steps
            refine' Turn.next ?F ?N ?O ?J
            case F => assumption
            case N => assumption
            case O => exact fun p hp => List.mem_singleton.mp hp ▸ hDI
            case J => exact ⟨_, _, _, (by rw [em]; exact store_off rfl (store_off rfl (tmpM_in (store_off rfl (tmpM_in (store_off rfl (store_off rfl (store_off rfl (store_off rfl tmpM_off)))))))) ), (by rw [e1]; exact if_pos rfl), rfl, (by rw [e1]; assumption)⟩
          | none =>
            cases hf
            k_steps
            refine' Turn.next ?F ?N ?O ?J
            case F => assumption
            case N => assumption
            case O => exact fun p hp => List.mem_singleton.mp hp ▸ hDI
            case J => exact ⟨_, _, _, (by rw [em]; exact store_off rfl (store_off rfl (tmpM_in (store_off rfl (tmpM_in (store_off rfl (store_off rfl (store_off rfl (store_off rfl tmpM_off)))))))) ), (by rw [e1]; exact if_pos rfl), rfl, (by rw [e1]; assumption)⟩
    · have e1 := mvI_eq (rows := rows) (cs₂ := cs₁.set i (new.getD i 0)) hq (by rw [hg]; exact Eq.symm ‹cs₁.getD (i : Int).toNat 0 = new.getD (i : Int).toNat 0›) hg hp.symm
      refine' Turn.next ?F ?N ?O ?J
      case F => assumption
      case N => assumption
      case O => exact fun p hp => List.mem_singleton.mp hp ▸ hDI
      case J => exact ⟨_, _, _, (by rw [em]; exact store_off rfl (store_off rfl (store_off rfl tmpM_off))), (by rw [e1]; rfl), rfl, (by rw [e1]; assumption)⟩
  · rintro h tk m₁ _ ⟨ts, vsn, k, hm, hs, rfl, hv⟩ F N
    have F := st_map hm hs F
    rw [em] at F
    k_steps
    exact ⟨_, rfl⟩
end
section
/-! B6 -/
/-- an element's end: some value, and all kept -/
def ElA (h₀ : Heap) (L : Addr) (m : Str → Option Value) (h : Heap) (s : Shared) (_ : Value) (s' : Shared) : Prop := ∃ h' tk', s' = { s with heap := h', toks := tk' } ∧ Fr h₀ L h' m ∧ h.StaysIn h'
theorem ElA.intro {h₀ : Heap} {L : Addr} {m : Str → Option Value} {h : Heap} {s : Shared} {y : Value} {h' : Heap} {tk' : Nat} (F : Fr h₀ L h' m) (k : h.StaysIn h') : ElA h₀ L m h s y { s with heap := h', toks := tk' } := ⟨h', tk', rfl, F, k⟩
/-- a comprehension over a range whose elements keep all -/
theorem comp_any {w : World} {A : Around} {s : Shared} {h₀ : Heap} {L r : Addr} {m : Str → Option Value} {news : List (Addr × Obj)} {env : Env} {elt : Expr} {x : Str} {scope : Scope} {cl : List (Str × Addr)} {Fin : Shared → List Value → List (Addr × Obj) → Prop} {n : Nat} {t u v : Tok}
    (hr : IsRange s.heap r 0 (n : Int) 1 t u v) (hb : n ≤ 100) (F : Fr h₀ L s.heap m) (N : News h₀ L s.heap news) (hh : A.handled = none)
    (turn : ∀ (i : Nat) t C oC m₂ h tk, i < n → LCg.NsObj oC m₂ → m₂ x = some (.int (i : Int) t) → Fr h₀ L h m → News h₀ L h [(C, oC)] → wpAny (model pg w) A (eval elt (compEnvC scope cl C env)) (ElA h₀ L m h s) (fun _ _ => False) { s with heap := h, toks := tk })
    (fin : ∀ h ys, ys.length = n → Fin { s with heap := h } ys news) : LCg.CompSrc pg w A h₀ L m env elt x scope cl Fin (.ref r) s := by
  refine LCg.CompSrc.range hh F N hr (range_facts n hb).1 (range_facts n hb).2 (by rw [sizeLine_eq]; omega) fun g => ?_
  suffices q : ∀ k i ys, i + k = n → ys.length = i → LCg.CompRest pg w A h₀ L m env elt x scope cl { s with heap := g } (fun _ => True) (fun i v => ∃ t, v = .int (0 + (i : Int)) t) (Fin { s with heap := g }) k i ys news from q n 0 [] (by omega) rfl
  intro k
  induction k with
  | zero => exact fun i ys hk hl => LCg.CompRest.zero (fin g ys (by omega))
  | succ k ih =>
    intro i ys hk hl
    refine LCg.CompRest.succ fun v I oI C oC D m₂ h tk E' hP hC hx F N off ne => ?_
    obtain ⟨t', rfl⟩ := hP
    rw [Int.zero_add] at hx
    refine wpAny_noRaise (wpAny_mono (turn i t' C oC m₂ h tk (by omega) hC hx F fun p hp => N p ?_) (fun y s' hq => ?_) fun _ _ e => e)
    · rw [List.mem_singleton.mp hp]; exact List.mem_cons_of_mem _ List.mem_cons_self
    · obtain ⟨h', tk', rfl, F', K⟩ := hq
      exact ⟨h', tk', news, rfl, F', News.kept N K, off, trivial, ih (i + 1) (ys ++ [y]) (by omega) (by rw [List.length_append, hl]; rfl)⟩
/-- a list of the base heap, the map and the ledger free -/
theorem list_L {w : World} {A : Around} {s : Shared} {env : Env} {h₀ : Heap} {x : Str} {px : Pos} {body : List Stmt} {ax L : Addr} {vs : List Value} {m : Str → Option Value} {news : List (Addr × Obj)} {Q : Flow → Shared → Prop}
    (J : Nat → (Str → Option Value) → List (Addr × Obj) → Prop) (ht : h₀.IsList ax vs.toArray) (hL : env.locals = L) (F : Fr h₀ L s.heap m) (N : News h₀ L s.heap news) (h0 : J 0 m news) (hh : A.handled = none)
    (step : ∀ i I v m₁ news₁ io h tk, vs[i]? = some v → J i m₁ news₁ → (∀ p ∈ news₁, p.1 ≠ I) → Fr h₀ L h m₁ → News h₀ L h ((I, io) :: news₁) →
      wpAny (model pg w) A (storeName env x v) (fun _ s₁ => wpAny (model pg w) A (execs body env) (Turn h₀ L I io (J (i + 1)) Q s) (fun _ _ => False) s₁) (fun _ _ => False) { s with heap := h, toks := tk })
    (done : ∀ h tk m₁ news₁, J vs.length m₁ news₁ → Fr h₀ L h m₁ → News h₀ L h news₁ → Q .next { s with heap := h, toks := tk }) :
    wpAny (model pg w) A (pyIter (.ref ax)) (fun it s₂ => LoopM w A env (.Name x px) body Q it s₂) (fun _ _ => False) s := by
  subst hL
  exact list_m ht F N J h0 hh step done
/-- a loop over a list of the base heap that stores only the names of tmp and leaves the ledger -/
theorem list_s {w : World} {A : Around} {s : Shared} {env : Env} {h₀ : Heap} {body : List Stmt} {m : Str → Option Value} {news : List (Addr × Obj)} {Q : Flow → Shared → Prop} {x : Str} {px : Pos} {ax L : Addr} {vs : List Value} (tmp : Str → Bool) (J : Nat → Prop) (R : Value → Shared → Prop)
    (ht : h₀.IsList ax vs.toArray) (hL : env.locals = L) (F : Fr h₀ L s.heap m) (N : News h₀ L s.heap news) (h0 : J 0) (hh : A.handled = none) (hR : ∀ v s₂, R v s₂ → Q (.ret v) s₂)
    (step : ∀ i I v u io h tk, vs[i]? = some v → J i → (∀ p ∈ news, p.1 ≠ I) → Fr h₀ L h (tmpM tmp u m) → News h₀ L h ((I, io) :: news) →
      wpAny (model pg w) A (storeName env x v) (fun _ s₁ => wpAny (model pg w) A (execs body env) (TurnS h₀ L I io tmp m news (J (i + 1)) R s) (fun _ _ => False) s₁) (fun _ _ => False) { s with heap := h, toks := tk })
    (done : ∀ h tk u, J vs.length → Fr h₀ L h (tmpM tmp u m) → News h₀ L h news → Q .next { s with heap := h, toks := tk }) :
    wpAny (model pg w) A (pyIter (.ref ax)) (fun it s₂ => LoopM w A env (.Name x px) body Q it s₂) (fun _ _ => False) s := by
  subst hL
  refine list_m ht F N (fun i m' nw => nw = news ∧ (∀ z, tmp z = false → m' z = m z) ∧ J i) ⟨rfl, fun _ _ => rfl, h0⟩ hh ?_ ?_
  · rintro i I v m₁ news₁ io h tk hi ⟨rfl, em, hj⟩ off F₁ N₁
    rw [tmpM_of em] at F₁
    exact wpAny_mono (step i I v m₁ io h tk hi hj off F₁ N₁) (fun _ _ q => wpAny_mono q (fun fl s₂ z => turn_of off hR fl s₂ z) fun _ _ e => e) fun _ _ e => e
  · rintro h tk m₁ news₁ ⟨rfl, em, hj⟩ F₁ N₁
    rw [tmpM_of em] at F₁
    exact done h tk m₁ hj F₁ N₁
theorem HasAttr.ofN {g h : Heap} {L x C dx : Addr} {news : List (Addr × Obj)} {name : Str} {v : Value} {es : List DictEntry} {n : Nat} (N : News g L h news) (h1 : (x, instObj C dx) ∈ news) (h2 : (dx, dictOf es n) ∈ news) (h3 : getL name es = some (some v)) : HasAttr h x C name v := ⟨dx, _, es, n, (N _ h1).1, (N _ h2).1, h3⟩
end
section
/-! B7 -/
theorem find_put_self (name : Str) (hs : Int) (key v : Value) : ∀ es : List DictEntry, (es.find? (·.key.isStr name)).isSome = true → ∃ e, (putL name hs key v es).find? (·.key.isStr name) = some e ∧ e.val = v
  | [], h => by simp at h
  | e :: r, h => by
    cases q : e.key.isStr name with
    | true => refine ⟨⟨e.hash, e.key, v⟩, ?_, rfl⟩; simp [putL, q]
    | false =>
      rw [List.find?_cons_of_neg (by simp [q])] at h
      obtain ⟨e', h1, h2⟩ := find_put_self name hs key v r h
      refine ⟨e', ?_, h2⟩
      simp only [putL, q, Bool.false_eq_true, if_false]
      rw [List.find?_cons_of_neg (by simp [q])]
      exact h1
theorem isStr_two {k : Value} {a b : Str} (h : k.isStr a = true) (hb : k.isStr b = true) : a = b := by
  cases k with
  | str s t => exact (beq_iff_eq.mp (show (s == a) = true from h)).symm.trans (beq_iff_eq.mp (show (s == b) = true from hb))
  | _ => exact absurd (show false = true from h) (by decide)
theorem find_put_ne (name nm : Str) (hn : nm ≠ name) (hs : Int) (key v : Value) : ∀ es : List DictEntry, (es.find? (·.key.isStr name)).isSome = true → (putL name hs key v es).find? (·.key.isStr nm) = es.find? (·.key.isStr nm)
  | [], h => by simp at h
  | e :: r, h => by
    cases q : e.key.isStr name with
    | true =>
      have q' : e.key.isStr nm = false := by
        cases z : e.key.isStr nm with
        | false => rfl
        | true => exact absurd (isStr_two z q) hn
      simp only [putL, q, if_true]
      simp only [List.find?_cons, q']
    | false =>
      rw [List.find?_cons_of_neg (by simp [q])] at h
      have ih := find_put_ne name nm hn hs key v r h
      simp only [putL, q, Bool.false_eq_true, if_false, List.find?_cons, ih]
theorem putL_len (name : Str) (hs : Int) (key v : Value) : ∀ es : List DictEntry, (es.find? (·.key.isStr name)).isSome = true → (putL name hs key v es).length = es.length
  | [], h => by simp at h
  | e :: r, h => by
    cases q : e.key.isStr name with
    | true => simp [putL, q]
    | false =>
      rw [List.find?_cons_of_neg (by simp [q])] at h
      simp [putL, q, putL_len name hs key v r h]
theorem getL_some {name : Str} {es : List DictEntry} {v : Value} : getL name es = some (some v) ↔ ∃ e, es.find? (·.key.isStr name) = some e ∧ e.val = v := by
  unfold getL
  cases es.find? (·.key.isStr name) with
  | some e => simp
  | none =>
    constructor
    · intro h
      split at h
      all_goals first | contradiction | (rename_i h'; split at h' <;> contradiction) | (split at h <;> simp at h)
    · rintro ⟨e, h, _⟩; cases h
section
variable {prog : Program} {w : World} {A : Around} {E : Value → Shared → Prop} {s : Shared} {K : Frag} {x C dx L : Addr} {h₀ : Heap} {m : Str → Option Value} {news : List (Addr × Obj)} {ox : Obj} {es : List DictEntry} {n : Nat} {name : Str} {v : Value}
/-- an attribute that stands, stored anew; two others stay -/
theorem set_attrE (na nb : Str) {v₀ va vb : Value} {Q : Unit → Shared → Prop} (F : Fr h₀ L s.heap m) (X₀ : K.In h₀) (N : News h₀ L s.heap news) (I : InstAt s.heap x ox C (some (dictOf es n))) (hd : ox.dict = some dx)
    (hs : findIn K (.ref C) "__setattr__" = some (some (.builtin "object.__setattr__"))) (hp : plainOver K C = true) (ht : takerIn K C name = some none) (hh : hasDictIn K C = true) (hl : getL name es = some (some v₀)) (ha : getL na es = some (some va)) (hb : getL nb es = some (some vb)) (hna : na ≠ name) (hnb : nb ≠ name)
    (hz : es.length ≤ 900)
    (h : ∀ es' n', getL name es' = some (some v) → getL na es' = some (some va) → getL nb es' = some (some vb) → es'.length ≤ 900 → ∃ news', Upd dx (dictOf es n) (dictOf es' n') news news' ∧ ∀ h', Fr h₀ L h' m → News h₀ L h' news' → Q () { s with heap := h', toks := s.toks + 2 }) :
    wpAny (model prog w) A (setAttr (.ref x) name v) Q E s := by
  have q : (es.find? (·.key.isStr name)).isSome = true := by obtain ⟨e, h1, _⟩ := getL_some.mp hl; rw [h1]; rfl
  obtain ⟨news', U, hQ⟩ := h _ _ (getL_some.mpr (find_put_self name (PyData.keyHash w.params name) (.str name (s.toks + 1)) v es q)) (by rw [getL_some, find_put_ne _ _ hna _ _ _ _ q, ← getL_some]; exact ha) (by rw [getL_some, find_put_ne _ _ hnb _ _ _ _ q, ← getL_some]; exact hb) (by rw [putL_len _ _ _ _ _ q]; exact hz)
  exact set_dict F X₀ N I hd hs hp ht hh (by rw [hl]; rfl) rfl U (by rw [putL_len _ _ _ _ _ q]; omega) hQ
theorem dict_ne_list {h : Heap} {d q : Addr} {its : Array Value} {k k' : Nat} (N : News h₀ L h news) (hd : (d, dictOf es k) ∈ news) (hq : (q, W.listOf its k') ∈ news) : @Ne Nat d q := fun e => by
  have e : d = q := e
  subst e
  have e := (N _ hd).1.symm.trans (N _ hq).1
  simp [dictOf, W.listOf] at e
end
/-- a value of a code as it is given -/
def inC (c : Int) : Prop := inB c ∨ c = 2
theorem pl_pl (c : Int) : pl (pl c) = pl c := by
  unfold pl
  by_cases h : c = 2
  · subst h; rfl
  · rw [if_neg h, if_neg h]
theorem getD_map_pl (l : List Int) (i : Nat) : (l.map pl).getD i 0 = pl (l.getD i 0) := by
  rw [List.getD_eq_getElem?_getD, List.getD_eq_getElem?_getD, List.getElem?_map]
  cases l[i]? <;> rfl
theorem mvI_map (rows : List RowD) (new : List Int) (st : Int) (cs : List Int) : ∀ i, mvI rows (new.map pl) i st cs = mvI rows new i st cs
  | 0 => rfl
  | i + 1 => by
    rw [mvI, mvI, mvI_map rows new st cs i]
    simp only [getD_map_pl, pl_pl]
theorem stepS_in (rows : List RowD) {st : Int} (h : inB st) (cs : List Int) (ch : Nat) (bf : Int) : inB (stepS rows st cs ch bf) := by
  have o : ∀ y : Out, inB (y.code st) := fun y => by
    cases y with
    | z => exact .inl rfl
    | o => exact .inr (.inl rfl)
    | x => exact .inr (.inr rfl)
    | k => exact h
  unfold stepS
  split
  · exact o _
  · split
    · exact o _
    · exact .inr (.inr rfl)
theorem mvI_st (rows : List RowD) (new : List Int) {st : Int} (h : inB st) (cs : List Int) : ∀ i, inB (mvI rows new i st cs).1
  | 0 => h
  | i + 1 => by
    have ih := mvI_st rows new h cs i
    rw [mvI]
    dsimp only
    split
    · exact ih
    · exact stepS_in rows ih _ _ _
theorem moved_eq (rows : List RowD) (old new : List Int) {st : Int} (h : inB st) : (mvI rows (new.map pl) (old.map pl).length st (old.map pl)).1 = (mvI rows new old.length (pl st) (old.map pl)).1 := by
  rw [mvI_map, List.length_map, pl_in h]
end
section
/-! C13 -/
local macro_rules | `(tactic| walk_at "Post") => `(tactic| refine Post.intro (by assumption) ?_)
local macro_rules | `(tactic| walk_at "execs cons") => `(tactic| (refine wpAny_execs_cons ?_; k_fold; (try dsimp only); (try (refine tok_free ?_; intro tk9))))
local macro_rules | `(tactic| walk_at "call type:range") => `(tactic| (k_here; k_dflt (refine' range_call ?F ?N ?_; (case F => k_asm); (case N => k_asm); k_whole); intro r9 h9 tk9 t9 u9 v9 hr9 F9 N9; (try k_sweep)))
local macro_rules | `(tactic| walk_at "exec For Name Name cons nil") => `(tactic| k_dflt (refine For_m ?_))
local macro_rules | `(tactic| walk_at "eval ListComp") => `(tactic| k_dflt (refine LCg.ListComp_U (F₀ := by k_asm) (by rfl) (by decide) (by rfl) (by decide) (by rfl) ?_))
local macro_rules | `(tactic| walk_at "CompSrc") => `(tactic| k_dflt (refine comp_any (by assumption) (by omega) (by k_asm) (by k_asm) rfl ?_ ?_))
local macro_rules | `(tactic| walk_at "getAttr ref") => `(tactic| (k_here; k_dflt (refine' get_own ?k1 ?k2 ?k3 ?k4 ?k5 ?k6 ?k7 ?k8 ?k9 ?_; (case k1 => k_asm); (case k2 => k_asm); (case k3 => k_inst); (case k4 => k_is); (case k5 => k_is); (case k6 => k_is); (case k7 => k_is); (case k8 => with_reducible assumption); (case k9 => k_handed); k_whole)))
local macro_rules | `(tactic| walk_at "setAttr ref") => `(tactic| (k_here; k_dflt (first
  | (refine' set_attrE (Str.ofString "inputs") (Str.ofString "definition") ?k1 ?k2 ?k3 ?k4 ?k5 ?k6 ?k7 ?k8 ?k9 ?l1 ?l2 ?l3 ?d1 ?d2 ?z ?_; (case k1 => k_asm); (case k2 => k_asm); (case k3 => k_asm); (case k4 => k_inst); (case k5 => exact rfl); (case k6 => k_is); (case k7 => k_is); (case k8 => k_is); (case k9 => k_is); (case l1 => with_reducible assumption); (case l2 => with_reducible assumption); (case l3 => with_reducible assumption); (case d1 => decide); (case d2 => decide); (case z => with_reducible assumption); k_whole; intro es' n' E1 E2 E3 E4; (refine' ⟨_, ?U, ?_⟩; (case U => k_upd); intro h' F' N'; (try k_sweep)))
  | (refine' set_attrE (Str.ofString "state") (Str.ofString "definition") ?k1 ?k2 ?k3 ?k4 ?k5 ?k6 ?k7 ?k8 ?k9 ?l1 ?l2 ?l3 ?d1 ?d2 ?z ?_; (case k1 => k_asm); (case k2 => k_asm); (case k3 => k_asm); (case k4 => k_inst); (case k5 => exact rfl); (case k6 => k_is); (case k7 => k_is); (case k8 => k_is); (case k9 => k_is); (case l1 => with_reducible assumption); (case l2 => with_reducible assumption); (case l3 => with_reducible assumption); (case d1 => decide); (case d2 => decide); (case z => with_reducible assumption); k_whole; intro es' n' E1 E2 E3 E4; (refine' ⟨_, ?U, ?_⟩; (case U => k_upd); intro h' F' N'; (try k_sweep))))))
theorem st_map2 {g h : Heap} {L : Addr} {m m₀ : Str → Option Value} {tmp : Str → Bool} {v v' : Value} {x y : Str} (hm : ∀ z, tmp z = false → m z = m₀ z) (hs : m x = some v) (hs' : m y = some v') (F : Fr g L h m) : Fr g L h (fun z => if z = x then some v else if z = y then some v' else tmpM tmp m m₀ z) := Fr.ext F fun z => by
  by_cases h1 : z = x
  · rw [if_pos h1, h1, hs]
  · rw [if_neg h1]
    by_cases h2 : z = y
    · rw [if_pos h2, h2, hs']
    · rw [if_neg h2, ← tmpM_of hm]
theorem map_in {l : List Int} (h : ∀ c ∈ l, inC c) : ∀ c ∈ l.map pl, inB c := fun c hc => by
  obtain ⟨d, hd, rfl⟩ := List.mem_map.mp hc
  exact in_pl (h d hd)
theorem sub_one {g h : Heap} {L : Addr} {news : List (Addr × Obj)} {p : Addr × Obj} (N : News g L h news) (hm : p ∈ news) : News g L h [p] := fun q hq => by rw [List.mem_singleton.mp hq]; exact N _ hm
theorem News.pick {g h : Heap} {L : Addr} {news l : List (Addr × Obj)} {p : Addr × Obj} (N : News g L h news) (hm : p ∈ news) (r : News g L h l) : News g L h (p :: l) := fun q hq => by
  rcases List.mem_cons.mp hq with rfl | hq
  · exact N _ hm
  · exact r q hq
theorem News.all {g h : Heap} {L : Addr} {news : List (Addr × Obj)} (N : News g L h news) : ∀ p ∈ news, h.get? p.1 = some p.2 ∧ p.1 ≠ L ∧ g.get? p.1 = none := N
def runT (z : Str) : Bool := z == Str.ofString "fresh" || z == Str.ofString "told" || z == Str.ofString "state" || z == Str.ofString "last"
theorem ledger8 {G : Prop} {g h : Heap} {L li x dx u du p dp : Addr} {news : List (Addr × Obj)} {vi : List Value} {ki : Nat} {es es2 es3 : List DictEntry} {n n2 n3 : Nat} {st kp rw : Value} (N : News g L h news)
    (m1 : (x, instObj 111 dx) ∈ news) (m2 : (dx, dictOf es n) ∈ news) (e1 : getL (Str.ofString "state") es = some (some st)) (e2 : getL (Str.ofString "inputs") es = some (some (.ref li))) (e3 : getL (Str.ofString "definition") es = some (some (.ref u))) (e4 : es.length ≤ 900)
    (m3 : (u, instObj 139 du) ∈ news) (m4 : (du, dictOf es2 n2) ∈ news) (e5 : getL (Str.ofString "primitive") es2 = some (some (.ref p)))
    (m5 : (p, instObj 31 dp) ∈ news) (m6 : (dp, dictOf es3 n3) ∈ news) (e6 : getL (Str.ofString "sequential") es3 = some (some kp)) (e7 : getL (Str.ofString "rows") es3 = some (some rw)) (m7 : (li, W.listOf (List.toArray vi) ki) ∈ news)
    (k : ∀ es es2 es3 n n2 n3, getL (Str.ofString "state") es = some (some st) → getL (Str.ofString "inputs") es = some (some (.ref li)) → getL (Str.ofString "definition") es = some (some (.ref u)) → es.length ≤ 900 → getL (Str.ofString "primitive") es2 = some (some (.ref p)) → getL (Str.ofString "sequential") es3 = some (some kp) → getL (Str.ofString "rows") es3 = some (some rw) →
      News g L h [(li, W.listOf (List.toArray vi) ki), (li, W.listOf (List.toArray vi) ki), (x, instObj 111 dx), (dx, dictOf es n), (u, instObj 139 du), (du, dictOf es2 n2), (p, instObj 31 dp), (dp, dictOf es3 n3)] → G) : G :=
  k es es2 es3 n n2 n3 e1 e2 e3 e4 e5 e6 e7 (News.pick N m7 (News.pick N m7 (News.pick N m1 (News.pick N m2 (News.pick N m3 (News.pick N m4 (News.pick N m5 (News.pick N m6 News.nil))))))))
theorem law_run_ok (w : World) (ta la ca : Addr) (rows : List RowD) (old : List Int) (chs : List (List Int)) (st : Int) (n : Nat) (u₁ u₂ : Tok) (e : Bool) (hn : n = old.length) (hr : ∀ r ∈ rows, r.ins.length = n) (hk : e = true → ∀ r ∈ rows, ∃ l, r.held = some l) (hc : n ≤ 3) (hb : inB st)
    (ho : ∀ c ∈ old, inC c) (hch : ∀ l ∈ chs, l.length = n ∧ ∀ c ∈ l, inC c) :
    PCon w 221 780 [.ref ta, .int (n : Int) u₁, .bool e, .int st u₂, .ref la, .ref ca] (fun h => TableAt h ta rows ∧ IntList h la old ∧ ∃ vs, h.IsList ca (List.toArray vs) ∧ Each (fun v l => ∃ a, v = .ref a ∧ IntList h a l) vs chs) (fun _ _ r => r = .bool true) := by
  refine' PCon.intro (binds := [(Str.ofString "table", .ref ta), (Str.ofString "size", .int (n : Int) u₁), (Str.ofString "kept", .bool e), (Str.ofString "state", .int st u₂), (Str.ofString "last", .ref la), (Str.ofString "changes", .ref ca)]) ?ho ?hcd ?hlim ?hbind ?hloc ?hco ?hgen ?hk ?hcell ?h
  case ho => k_is
  case hcd => k_is
  case hlim => decide
  case hbind => exact rfl
  case hloc => exact locs rfl
  case hco => exact rfl
  case hgen => exact rfl
  case hk => exact rfl
  case hcell => decide
  intro mean mg mb dp un gd env outer A base g L' h₁ s B F N X T hd hp
  obtain ⟨HT, ⟨os, Jo, Wo⟩, cvs, Jc, Wc⟩ := hp
  k_steps
  · exact ElA.intro (by assumption) fun _ _ e => e
  · skip
    refine' call_cls ?k1 ?k2 ?k3 ?k4 ?k5 ?k6 ?_
    case k1 => k_asm
    case k2 => k_asm
    case k3 => k_asm
    case k4 => k_is
    case k5 => k_is
    case k6 => k_is
    k_whole
    intro x' d' h' F' N' l1 l2
    try k_lt l1
    try k_lt2 l2
    try k_sweep
    refine' code_def ?k1 ?k2 ?k3 ?k4 ?k5 ?kA ?kF ?kK ?k6 ?k7 ?k8 ?k9 ?kB ?_ ?c2 ?c3 ?c4 ?c5
    case kA => exact rfl
    case kF => exact rfl
    case kK => exact rfl
    case k1 => k_asm
    case k2 => k_asm
    case k3 => k_asm
    case k4 => k_asm
    case k5 => k_asm
    case k6 => k_is
    case k7 => k_is
    case k8 => (show _ < 1000; (try simp only [depth_under_make]); (try dsimp only); omega)
    case k9 => exact BindsTo.of_eq rfl
    case c5 => decide
    case kB => exact locs rfl
    case c2 => exact rfl
    case c3 => exact rfl
    case c4 => exact rfl
    k_whole
    intro g9 L9 h' FG9 F' N' B9 X9 T9
    try dsimp only
    try k_lift B9
    try k_fold
    k_steps
    refine' call_cls ?k1 ?k2 ?k3 ?k4 ?k5 ?k6 ?_
    case k1 => k_asm
    case k2 => k_asm
    case k3 => k_asm
    case k4 => k_is
    case k5 => k_is
    case k6 => k_is
    k_whole
    intro x' d' h' F' N' l1 l2
    try k_lt l1
    try k_lt2 l2
    try k_sweep
    refine' code_def ?k1 ?k2 ?k3 ?k4 ?k5 ?kA ?kF ?kK ?k6 ?k7 ?k8 ?k9 ?kB ?_ ?c2 ?c3 ?c4 ?c5
    case kA => exact rfl
    case kF => exact rfl
    case kK => exact rfl
    case k1 => k_asm
    case k2 => k_asm
    case k3 => k_asm
    case k4 => k_asm
    case k5 => k_asm
    case k6 => k_is
    case k7 => k_is
    case k8 => (show _ < 1000; (try simp only [depth_under_make]); (try dsimp only); omega)
    case k9 => exact BindsTo.of_eq rfl
    case c5 => decide
    case kB => exact locs rfl
    case c2 => exact rfl
    case c3 => exact rfl
    case c4 => exact rfl
    k_whole
    intro g9 L9 h' FG9 F' N' B9 X9 T9
    try dsimp only
    try k_lift B9
    try k_fold
    k_steps
    refine' call_cls ?k1 ?k2 ?k3 ?k4 ?k5 ?k6 ?_
    case k1 => k_asm
    case k2 => k_asm
    case k3 => k_asm
    case k4 => k_is
    case k5 => k_is
    case k6 => k_is
    k_whole
    intro x' d' h' F' N' l1 l2
    try k_lt l1
    try k_lt2 l2
    try k_sweep
    refine' code_def ?k1 ?k2 ?k3 ?k4 ?k5 ?kA ?kF ?kK ?k6 ?k7 ?k8 ?k9 ?kB ?_ ?c2 ?c3 ?c4 ?c5
    case kA => exact rfl
    case kF => exact rfl
    case kK => exact rfl
    case k1 => k_asm
    case k2 => k_asm
    case k3 => k_asm
    case k4 => k_asm
    case k5 => k_asm
    case k6 => k_is
    case k7 => k_is
    case k8 => (show _ < 1000; (try simp only [depth_under_make]); (try dsimp only); omega)
    case k9 => exact BindsTo.of_eq rfl
    case c5 => decide
    case kB => exact locs rfl
    case c2 => exact rfl
    case c3 => exact rfl
    case c4 => exact rfl
    k_whole
    intro g9 L9 h' FG9 F' N' B9 X9 T9
    try dsimp only
    try k_lift B9
    try k_fold
    k_steps
    rename Fr _ _ _ _ => F
    rename News _ _ _ _ => N
    refine ledger8 N (by k_mem) (by k_mem) (by exact rfl) (by exact rfl) (by exact rfl) (Nat.le_of_ble_eq_true (by exact rfl)) (by k_mem) (by k_mem) (by exact rfl) (by k_mem) (by k_mem) (by exact rfl) (by exact rfl) (by k_mem) fun es es2 es3 nn n2 n3 E1 E2 E3 E4 E5 E6 E7 N2 => ?_
    clear N
    rename News _ _ _ _ => N
    refine tok_free ?_
    intro tk0
    cases e with
    | false =>
      refine list_s (L := L') (fun y => y == Str.ofString "fresh" || y == Str.ofString "told") (fun _ => True) (fun v s₂ => Post g L' (fun _ _ r => r = .bool true) s (.ret v) s₂) Jc rfl (by assumption) (by assumption) trivial rfl (fun _ _ q => q) ?_ ?_
      · intro i I v u io h tk hv _ off F N
        obtain ⟨l, hl, a, rfl, vl, Jl, Wl⟩ := Wc.at hv
        have ll := (hch l (List.mem_of_getElem? hl)).1
        try dsimp only
        k_steps
        refine wpAny_call ?_
        refine' code_def ?k1 ?k2 ?k3 ?k4 ?k5 ?kA ?kF ?kK ?k6 ?k7 ?k8 ?k9 ?kB ?_ ?c2 ?c3 ?c4 ?c5
        case kA => exact rfl
        case kF => exact rfl
        case kK => exact rfl
        case k1 => k_asm
        case k2 => k_asm
        case k3 => k_asm
        case k4 => k_asm
        case k5 => k_asm
        case k6 => k_is
        case k7 => k_is
        case k8 => (show _ < 1000; (try simp only [depth_under_make]); (try dsimp only); omega)
        case k9 => exact BindsTo.of_eq rfl
        case c5 => decide
        case kB => exact locs rfl
        case c2 => exact rfl
        case c3 => exact rfl
        case c4 => exact rfl
        k_whole
        intro g9 L9 h' FG9 F' N' B9 X9 T9
        try dsimp only
        try k_lift B9
        try k_fold
        k_steps
        refine PCon.use (next_level_ok w _ _ ta rows l (fun r h => by rw [hr r h, ll]) (by omega)) (by assumption) (by assumption) (by assumption) (by assumption) rfl rfl (by (try dsimp only); omega) ⟨HasAttr.ofN (by assumption) (by k_mem) (by k_mem) (by assumption), HT.keeps (fun _ _ e => Fr.keep (by assumption) _ _ (FG9.keep _ _ e)), _, News.isList (by assumption) (by k_mem), Wl⟩ ?_
        rintro _ h₄ tk₄ F K ⟨t₄, rfl⟩
        have N := News.kept (by assumption) K
        k_steps
        refine PCon.use (law_x_ok w a l (by omega)) (by assumption) (by assumption) (by assumption) (by assumption) rfl rfl (by (try dsimp only); omega) ⟨vl, stays_list (Fr.keep (by assumption)) Jl, Wl⟩ ?_
        rintro r₅ h₅ tk₅ F K ⟨b, vb, rfl, n1, n2, Wb⟩
        have N := News.made (by assumption) (by assumption) K n1 n2
        try dsimp only at F N K ⊢
        k_steps
        refine PCon.use (law_flat_ok w ta b rows (l.map pl) (fun r h => by rw [hr r h, List.length_map, ll]) (by rw [List.length_map]; omega)) (by assumption) (by assumption) (by assumption) (by assumption) rfl rfl (by (try dsimp only); omega) ⟨HT.keeps (Fr.keep (by assumption)), _, News.isList (by assumption) (by k_mem), Wb⟩ ?_
        rintro _ h₆ tk₆ F K ⟨t₆, rfl⟩
        have N := News.kept (by assumption) K
        k_steps
        · exact absurd rfl ‹flat rows (l.map pl) ≠ _›
        · exact absurd rfl ‹st ≠ _›
        · exact TurnS.next (by assumption) (by assumption) (fun p hp => List.mem_cons_of_mem _ (List.mem_cons_of_mem _ hp)) (store_off rfl (store_off rfl tmpM_off)) trivial
      · intro h tk u _ F N
        k_steps
    | true =>
      have hk := hk rfl
      refine with_map F fun m₀ em => ?_
      refine list_L (L := L') (fun i m nw => ∃ st₁ t old₁ la₁ li vi ki q vq kq es k, inB st₁ ∧ old₁.length = n ∧ (∀ c ∈ old₁, inC c) ∧ (∀ z, runT z = false → m z = m₀ z) ∧ m (Str.ofString "state") = some (.int st₁ t) ∧ m (Str.ofString "last") = some (.ref la₁) ∧
          nw = (li, W.listOf (List.toArray vi) ki) :: (q, W.listOf (List.toArray vq) kq) :: (_, instObj 111 _) :: (_, dictOf es k) :: _ ∧ IntsAre vi old₁ ∧ (∃ vo, IntsAre vo old₁ ∧ ∀ h m', Fr g L' h m' → News g L' h [(q, W.listOf (List.toArray vq) kq)] → h.IsList la₁ (List.toArray vo)) ∧
          (∃ t', getL (Str.ofString "state") es = some (some (.int st₁ t'))) ∧ getL (Str.ofString "inputs") es = some (some (.ref li)) ∧ getL (Str.ofString "definition") es = some (some (.ref _)) ∧ es.length ≤ 900)
        Jc rfl F N ⟨st, u₂, old, la, _, os, _, _, os, _, _, _, hb, hn.symm, ho, fun _ _ => by rw [em], rfl, rfl, rfl, Wo, ⟨os, Wo, fun h m' F _ => stays_list F.keep Jo⟩, ⟨_, E1⟩, E2, E3, E4⟩ rfl ?_ ?_
      · rintro i I v m₁ _ io h tk hv ⟨st₁, t, old₁, la₁, li, vi, ki, q, vq, kq, es, k, hst, hol, hoc, hm, hs, hla, rfl, hvi, ⟨vo, hvo, LA⟩, ⟨t₁, E1⟩, E2, E3, E4⟩ off F N
        obtain ⟨l, hl, a, rfl, vl, Jl, Wl⟩ := Wc.at hv
        obtain ⟨ll, lc⟩ := hch l (List.mem_of_getElem? hl)
        have nI : @Ne Nat _ I := off (_, dictOf es k) (by k_mem)
        have nl := dict_ne_list N (es := es) (k := k) (by k_mem) (List.mem_cons_of_mem _ List.mem_cons_self)
        have nq := dict_ne_list N (es := es) (k := k) (by k_mem) (List.mem_cons_of_mem _ (List.mem_cons_of_mem _ List.mem_cons_self))
        have F := st_map2 hm hs hla F
        rw [em] at F
        try dsimp only at nI ⊢
        k_steps
        refine wpAny_call ?_
        refine' code_def ?k1 ?k2 ?k3 ?k4 ?k5 ?kA ?kF ?kK ?k6 ?k7 ?k8 ?k9 ?kB ?_ ?c2 ?c3 ?c4 ?c5
        case kA => exact rfl
        case kF => exact rfl
        case kK => exact rfl
        case k1 => k_asm
        case k2 => k_asm
        case k3 => k_asm
        case k4 => k_asm
        case k5 => k_asm
        case k6 => k_is
        case k7 => k_is
        case k8 => (show _ < 1000; (try simp only [depth_under_make]); (try dsimp only); omega)
        case k9 => exact BindsTo.of_eq rfl
        case c5 => decide
        case kB => exact locs rfl
        case c2 => exact rfl
        case c3 => exact rfl
        case c4 => exact rfl
        k_whole
        intro g9 L9 h' FG9 F' N' B9 X9 T9
        try dsimp only
        try k_lift B9
        try k_fold
        k_steps
        refine PCon.use (next_state_ok w _ _ _ ta rows old₁ l st₁ _ (fun r h => by rw [hr r h, hol]) hk (by omega) (by omega)) (by assumption) (by assumption) (by assumption) (by assumption) rfl rfl (by (try dsimp only); omega)
          ⟨HasAttr.ofN (by assumption) (by k_mem) (by k_mem) (by assumption), HT.keeps (fun _ _ e => Fr.keep (by assumption) _ _ (FG9.keep _ _ e)), ⟨_, News.isList (by assumption) (by k_mem), hvi⟩, _, News.isList (by assumption) (by k_mem), Wl⟩ ?_
        rintro _ h₄ tk₄ F K ⟨t₄, rfl⟩
        have N := News.kept (by assumption) K
        generalize hmv : (mvI rows l old₁.length (pl st₁) (old₁.map pl)).1 = st₂
        k_steps
        refine PCon.use (law_x_ok w la₁ old₁ (by omega)) (by assumption) (by assumption) (by assumption) (by assumption) rfl rfl (by (try dsimp only); omega) ⟨vo, LA _ _ (by assumption) (sub_one (by assumption) (by k_mem)), hvo⟩ ?_
        rintro r₅ h₅ tk₅ F K ⟨b₁, vb₁, rfl, n1, n2, Wb₁⟩
        have N := News.made (by assumption) (by assumption) K n1 n2
        try dsimp only at F N K ⊢
        k_steps
        refine PCon.use (law_x_ok w a l (by omega)) (by assumption) (by assumption) (by assumption) (by assumption) rfl rfl (by (try dsimp only); omega) ⟨vl, stays_list (Fr.keep (by assumption)) Jl, Wl⟩ ?_
        rintro r₆ h₆ tk₆ F K ⟨b₂, vb₂, rfl, n3, n4, Wb₂⟩
        have N := News.made (by assumption) (by assumption) K n3 n4
        try dsimp only at F N K ⊢
        k_steps
        refine PCon.use (law_moved_ok w ta b₁ b₂ rows (old₁.map pl) (l.map pl) st₁ _ (fun r h => by rw [hr r h, List.length_map, hol]) hk (by rw [List.length_map, List.length_map, ll, hol]) (by rw [List.length_map]; omega) (map_in hoc) (map_in lc)) (by assumption) (by assumption) (by assumption) (by assumption) rfl rfl (by (try dsimp only); omega)
          ⟨HT.keeps (Fr.keep (by assumption)), ⟨_, News.isList (by assumption) (by k_mem), Wb₁⟩, _, News.isList (by assumption) (by k_mem), Wb₂⟩ ?_
        rintro _ h₇ tk₇ F K ⟨t₇, rfl⟩
        have N := News.kept (by assumption) K
        rw [moved_eq rows old₁ l hst, hmv]
        k_steps
        · exact absurd rfl ‹st₂ ≠ st₂›
        · exact absurd rfl ‹st₂ ≠ st₂›
        · refine' Turn.next ?F ?N ?O ?J
          case F => assumption
          case' J =>
            refine ⟨st₂, _, l, _, _, vl, ?ki, _, vl, ?kq, _, ?kk, (by rw [← hmv]; exact mvI_st rows l (by rw [pl_in hst]; exact hst) _ _), ll, lc, (by rw [em]; exact store_off rfl (store_off rfl (store_off rfl (store_off rfl (store_off rfl (store_off rfl tmpM_off)))))), rfl, rfl, rfl, Wl, ⟨vl, Wl, fun h m' F N => News.isList N List.mem_cons_self⟩, ⟨_, by assumption⟩, by assumption, by assumption, by assumption⟩
          case N => exact News.pick (by assumption) (by k_mem) (News.pick (by assumption) (by k_mem) (News.pick (by assumption) (by k_mem) (News.pick (by assumption) (by k_mem) (News.pick (by assumption) (by k_mem) fun p hp => News.all (by assumption) p (by repeat (first | exact hp | refine List.mem_cons_of_mem _ ?_))))))
          case O => exact List.forall_mem_cons.mpr ⟨by k_ne, List.forall_mem_cons.mpr ⟨by k_ne, List.forall_mem_cons.mpr ⟨off _ (by k_mem), List.forall_mem_cons.mpr ⟨nI, fun p hp => off p (List.mem_cons_of_mem _ (List.mem_cons_of_mem _ (List.mem_cons_of_mem _ (List.mem_cons_of_mem _ hp))))⟩⟩⟩⟩
      · rintro h tk m₁ _ ⟨st₁, t, old₁, la₁, li, vi, ki, q, vq, kq, es, k, hst, hol, hoc, hm, hs, hla, rfl, hvi, ⟨vo, hvo, LA⟩, ⟨t₁, E1⟩, E2, E3, E4⟩ F N
        k_steps
end
section
/-! B8 -/
/-- the jar of the draws: its two numbers and its cells -/
abbrev jarO (a : Int) (t : Tok) (b : Int) (u : Tok) (c : Addr) (k : Nat) : Obj := W.listOf #[.int a t, .int b u, .ref c] k
/-- the jar's numbers after at most d draws -/
def JB (d : Nat) (a b : Int) : Prop := 0 ≤ a ∧ a < 10 ^ 70 ∧ 0 ≤ b ∧ b ≤ d
theorem JB.mono {d d' : Nat} {a b : Int} (x : JB d a b) (h : d ≤ d') : JB d' a b := ⟨x.1, x.2.1, x.2.2.1, by have := x.2.2.2; omega⟩
/-- the cells of the jar -/
def Cells (ws : List Value) (kc : Nat) : Prop := ∃ ns, IntsAre ws ns ∧ 1 ≤ ns.length ∧ ns.length ≤ 40 ∧ kc = kc
def StaysBut (j : Addr) (h h' : Heap) : Prop := ∀ b o, h.get? b = some o → b ≠ j → h'.get? b = some o
/-- the ledger of a jar -/
abbrev jarN (j : Addr) (a : Int) (t : Tok) (b : Int) (u : Tok) (c : Addr) (k : Nat) (ws : List Value) (kc : Nat) : List (Addr × Obj) := [(j, jarO a t b u c k), (c, W.listOf ws.toArray kc)]
/-- new objects that a call leaves: tuples alone -/
def NewsT (h h' : Heap) (ex : List (Addr × Obj)) : Prop := ∀ p ∈ ex, h'.get? p.1 = some p.2 ∧ h.get? p.1 = none ∧ p.2.cls = .type "tuple"
/-- what a body that draws leaves -/
def JPost (g : Heap) (L : Addr) (j c : Addr) (ws : List Value) (kc : Nat) (d' : Nat) (Out : List (Addr × Obj) → Value → Prop) (s₀ : Shared) (fl : Flow) (s' : Shared) : Prop :=
  ∃ h' tk' m' a t b u k ex, s' = { s₀ with heap := h', toks := tk' } ∧ Fr g L h' m' ∧ News g L h' (jarN j a t b u c k ws kc) ∧ JB d' a b ∧ News g L h' ex ∧ (∀ p ∈ ex, p.2.cls = .type "tuple") ∧ Out ex (match fl with | .ret v => v | _ => .none)
theorem JPost.intro {g : Heap} {L j c : Addr} {ws : List Value} {kc d' : Nat} {Out : List (Addr × Obj) → Value → Prop} {s₀ : Shared} {fl : Flow} {h' : Heap} {tk' : Nat} {m' : Str → Option Value} {a b : Int} {t u : Tok} {k : Nat} {nw : List (Addr × Obj)} (ex : List (Addr × Obj))
    (F : Fr g L h' m') (N : News g L h' nw) (h1 : (j, jarO a t b u c k) ∈ nw) (h2 : (c, W.listOf ws.toArray kc) ∈ nw) (b' : JB d' a b) (he : ∀ p ∈ ex, p ∈ nw) (hc : ∀ p ∈ ex, p.2.cls = .type "tuple") (o : Out ex (match fl with | .ret v => v | _ => .none)) : JPost g L j c ws kc d' Out s₀ fl { s₀ with heap := h', toks := tk' } :=
  ⟨h', tk', m', a, t, b, u, k, ex, rfl, F, fun p hp => by
    rcases List.mem_cons.mp hp with rfl | hp
    · exact N _ h1
    · rw [List.mem_singleton.mp hp]; exact N _ h2, b', fun p hp => N p (he p hp), hc, o⟩
/-- a def that draws from the jar at j and changes nothing else -/
def JCon (w : World) (j c : Addr) (ws : List Value) (kc : Nat) (f : Addr) (lim : Nat) (vs : List Value) (d d' : Nat) (Out : List (Addr × Obj) → Value → Prop) : Prop :=
  ∀ (mean : ExcName → Option Value) (mg mb : Str → Option Value) (dp un : Nat) (gd : Option (List Code)) (env : Env) (outer : List Env) (A₀ : Around) (base h₀ : Heap) (L : Addr) (m : Str → Option Value) (s : Shared) (Q E : Value → Shared → Prop) (a b : Int) (t u : Tok) (k : Nat),
    Below A₀ base outer h₀ → Fr h₀ L s.heap m → (hd.heap_39 w.params).In h₀ → Top hd.view_39 (looseW hd.view_39 []) mean mg mb h₀ → env.frame = some L → env.scope.kind = .function → dp + un ≤ lim →
    News h₀ L s.heap (jarN j a t b u c k ws kc) → JB d a b →
    (∀ r h' tk' a' t' b' u' k' ex, Fr h₀ L h' m → StaysBut j s.heap h' → h'.get? j = some (jarO a' t' b' u' c k') → JB d' a' b' → NewsT s.heap h' ex → Out ex r → Q r { s with heap := h', toks := tk' }) →
    wpAny (model pg w) { handled := none, depth := dp, frames := some (env :: outer), guards := gd, units := un } (call (.ref f) vs) Q E s
theorem jleave {j c : Addr} {ws : List Value} {kc d' : Nat} {Out : List (Addr × Obj) → Value → Prop} {h₀ g : Heap} {L L' : Addr} {m : Str → Option Value} {s : Shared} {tk₀ : Nat} {a b : Int} {t u : Tok} {k : Nat} {Q E : Value → Shared → Prop} {fl : Flow} {s' : Shared} (hjc : c ≠ j)
    (N : News h₀ L s.heap (jarN j a t b u c k ws kc)) (F : Fr h₀ L s.heap m) (G : GSub s.heap g ((jarN j a t b u c k ws kc).map (·.1)))
    (ret : ∀ r h' tk' a' t' b' u' k' ex, Fr h₀ L h' m → StaysBut j s.heap h' → h'.get? j = some (jarO a' t' b' u' c k') → JB d' a' b' → NewsT s.heap h' ex → Out ex r → Q r { s with heap := h', toks := tk' })
    (hl : JPost g L' j c ws kc d' Out { s with toks := tk₀ } fl s') : LeaveK h₀ L m g (fun r s' => match r with | .ok (.ret v) => Q v s' | .ok _ => False | .error e => E e s') (match (generalizing := false) fl with | .ret v => v | _ => .none) s' := by
  obtain ⟨h', tk', m', a', t', b', u', k', ex, rfl, F₂, N₂, hb', Ne, hce, o⟩ := hl
  refine ⟨L', m', [], F₂, News.nil, fun F'' _ => ?_⟩
  have sb : StaysBut j s.heap h' := fun x ob e hn => by
    by_cases hx : x = c
    · subst hx
      have e1 := (N _ (List.mem_cons_of_mem _ List.mem_cons_self)).1
      have e2 := (N₂ _ (List.mem_cons_of_mem _ List.mem_cons_self)).1
      dsimp only at e1 e2
      rw [e] at e1; cases e1; exact e2
    · refine F₂.keep x ob (G x ob e ?_)
      intro hm
      rcases List.mem_cons.mp hm with rfl | hm
      · exact hn rfl
      · exact hx (List.mem_singleton.mp hm)
  refine ret _ h' tk' a' t' b' u' k' ex F'' sb (N₂ _ List.mem_cons_self).1 hb' (fun p hp => ⟨(Ne p hp).1, ?_, hce p hp⟩) o
  cases q : s.heap.get? p.1 with
  | none => rfl
  | some ob =>
    have gn := (Ne p hp).2.2
    have hp1 := (Ne p hp).1
    have hcl := hce p hp
    refine absurd (G p.1 ob q ?_) (by rw [gn]; exact fun h => by cases h)
    intro hm
    rcases List.mem_cons.mp hm with hm | hm
    · have := (N₂ _ List.mem_cons_self).1
      dsimp only at this hm
      rw [← hm, hp1] at this
      rw [Option.some.inj this] at hcl
      exact absurd hcl (by simp [W.listOf])
    · have := (N₂ _ (List.mem_cons_of_mem _ List.mem_cons_self)).1
      have hm := List.mem_singleton.mp hm
      dsimp only at this hm
      rw [← hm, hp1] at this
      rw [Option.some.inj this] at hcl
      exact absurd hcl (by simp [W.listOf])
theorem JCon.intro {w : World} {j c : Addr} {ws : List Value} {kc : Nat} {f : Addr} {lim : Nat} {vs : List Value} {d d' : Nat} {Out : List (Addr × Obj) → Value → Prop}
    {name qual : Str} {params : Arguments} {body : List Stmt} {scope : Scope} {dV kV doc pm cdv ct oc : Value} {an od : Option Addr} {osl : Array (Option Value)} {binds : List (Str × Value)} (hjc : c ≠ j)
    (ho : (hd.heap_39 w.params).lookup f = some ⟨oc, od, .func (fnOf name qual params body scope dV kV doc pm an cdv ct), osl⟩) (hcd : codeIn (hd.heap_39 w.params) cdv qual = true) (hlim : lim ≤ 990)
    (hbind : bindArgs (fnOf name qual params body scope dV kV doc pm an cdv ct) ⟨vs, []⟩ = pure binds) (hloc : ∀ y ∈ binds, scope.names.lookup y.1 = some .local)
    (hco : scope.isCoroutine = false) (hgen : scope.isGenerator = false) (hk : scope.kind = .function) (hcell : ∀ x ∈ scope.names, x.2 ≠ .cell)
    (h : ∀ (mean : ExcName → Option Value) (mg mb : Str → Option Value) (dp un : Nat) (gd : Option (List Code)) (env : Env) (outer : List Env) (A : Around) (base g : Heap) (L' : Addr) (h₁ : Heap) (s : Shared) (a b : Int) (t u : Tok) (k : Nat),
      Below A base (env :: outer) g → Fr g L' h₁ (fun y => binds.reverse.lookup y) → News g L' h₁ (jarN j a t b u c k ws kc) → (hd.heap_39 w.params).In g → Top hd.view_39 (looseW hd.view_39 []) mean mg mb g → dp + un ≤ lim → JB d a b →
      wpAny (model pg w) { handled := none, depth := dp + 1, frames := some (envOf qual scope L' f cdv :: env :: outer), guards := gd, units := un + 3 } (execs body (envOf qual scope L' f cdv)) (JPost g L' j c ws kc d' Out s) (fun _ _ => False)
        { s with heap := h₁ }) : JCon w j c ws kc f lim vs d d' Out := by
  intro mean mg mb dp un gd env outer A₀ base h₀ L m s Q E a b t u k B F X T hf hke hd N hb ret
  let R : Result → Shared → Prop := fun r s' => match r with | .ok (.ret v) => Q v s' | .ok _ => False | .error e => E e s'
  refine wpAny_call ?_
  refine code_defG (R := R) B F X N T rfl hf hke ho hcd (by show dp < 1000; omega) (BindsTo.of_eq hbind) hloc (fun g L' h₁ FG F' N' BG X' T' G => ?_) hco hgen hk hcell
  have WW := h mean mg mb dp un gd env outer _ base g L' h₁ { s with toks := s.toks + binds.length } a b t u k BG F' N' X' T' hd hb
  refine wpAny_mono WW (fun fl s' hl => ?_) fun _ _ y => y.elim
  exact jleave hjc N F G ret hl
/-- a def with captured names that draws -/
theorem JCon.introC {w : World} {j c : Addr} {ws : List Value} {kc : Nat} {f : Addr} {lim : Nat} {vs : List Value} {d d' : Nat} {Out : List (Addr × Obj) → Value → Prop}
    {name qual : Str} {params : Arguments} {body : List Stmt} {scope : Scope} {dV kV doc pm cdv ct oc : Value} {an od : Option Addr} {osl : Array (Option Value)} {binds : List (Str × Value)} (hjc : c ≠ j)
    (ho : (hd.heap_39 w.params).lookup f = some ⟨oc, od, .func (fnOf name qual params body scope dV kV doc pm an cdv ct), osl⟩) (hcd : codeIn (hd.heap_39 w.params) cdv qual = true) (hlim : lim ≤ 990)
    (hbind : bindArgs (fnOf name qual params body scope dV kV doc pm an cdv ct) ⟨vs, []⟩ = pure binds) (hkind : (binds.all fun y => scope.names.lookup y.1 == some .local || scope.names.lookup y.1 == some .cell) = true) (hnd : ((cellsFrom 0 scope.names []).map (·.1)).Nodup)
    (hco : scope.isCoroutine = false) (hgen : scope.isGenerator = false) (hk : scope.kind = .function)
    (h : ∀ (mean : ExcName → Option Value) (mg mb : Str → Option Value) (dp un : Nat) (gd : Option (List Code)) (env : Env) (outer : List Env) (A : Around) (base g : Heap) (L' : Addr) (h₁ : Heap) (s : Shared) (a b : Int) (t u : Tok) (k : Nat) (cells : List (Addr × Obj)),
      Below A base (env :: outer) g → Fr g L' h₁ (bindL (envOfC qual scope L' f cdv).kindOf binds fun _ => none) → News g L' h₁ (cells ++ jarN j a t b u c k ws kc) → CellsAre (bindC (envOfC qual scope L' f cdv).kindOf binds fun _ => none) (cellsFrom (L' + 1) scope.names []) cells →
      (hd.heap_39 w.params).In g → Top hd.view_39 (looseW hd.view_39 []) mean mg mb g → dp + un ≤ lim → JB d a b → (∀ p ∈ jarN j a t b u c k ws kc, p.1 < L') →
      wpAny (model pg w) { handled := none, depth := dp + 1, frames := some (envOfC qual scope L' f cdv :: env :: outer), guards := gd, units := un + 3 } (execs body (envOfC qual scope L' f cdv)) (JPost g L' j c ws kc d' Out s) (fun _ _ => False)
        { s with heap := h₁ }) : JCon w j c ws kc f lim vs d d' Out := by
  intro mean mg mb dp un gd env outer A₀ base h₀ L m s Q E a b t u k B F X T hf hke hd N hb ret
  let R : Result → Shared → Prop := fun r s' => match r with | .ok (.ret v) => Q v s' | .ok _ => False | .error e => E e s'
  obtain ⟨FG, BG, st, lv⟩ := groundX (R := R) (A := { handled := none, depth := dp, frames := some (env :: outer), guards := gd, units := un }) B F N rfl hf hke
  refine wpAny_call ?_
  refine codeAny_call_cells (R := R) (fd := fnOf name qual params body scope dV kV doc pm an cdv ct) (body := body) (binds := binds) (by show dp < 1000; omega) (X.keeps F.keep _ _ ho) rfl (T.nolimit.keeps F.keep) (codeRec_of (X.keeps F.keep) hcd) rfl hbind rfl (kindsX hkind _) (fun s₁ Y => ?_) hco hgen hk
  obtain ⟨h₁, tk, rfl, _⟩ := Y.done
  have up := Y.toInCall.keep
  obtain ⟨cells, NC, CA⟩ := Cl.news (h₀ := s.heap) (Nat.le_refl _) fun n x hm => ⟨Y.cell n x (lookup_of_mem_nodup (cellsFrom_names scope.names 0 (s.heap.objs.size + 1) [] [] rfl ▸ hnd) hm), Y.above n x hm⟩
  have lt : ∀ p ∈ jarN j a t b u c k ws kc, p.1 < s.heap.objs.size := fun p hp => Heap.lt_size (N p hp).1
  have none_of : ∀ {x : Addr}, s.heap.get? x = none → (hideAll s.heap ((jarN j a t b u c k ws kc).map (·.1))).get? x = none := fun {x} e => by
    cases q : (hideAll s.heap ((jarN j a t b u c k ws kc).map (·.1))).get? x with
    | none => rfl
    | some o => have := of_hideAll _ q; rw [e] at this; cases this
  have N' : News (hideAll s.heap ((jarN j a t b u c k ws kc).map (·.1))) s.heap.objs.size h₁ (cells ++ jarN j a t b u c k ws kc) := fun p hp => by
    rcases List.mem_append.mp hp with hp | hp
    · exact ⟨(NC p hp).1, (NC p hp).2.1, none_of (NC p hp).2.2⟩
    · exact ⟨up _ _ (N p hp).1, Nat.ne_of_lt (lt p hp), hideAll_none _ (List.mem_map_of_mem hp)⟩
  have WW := h mean mg mb dp un gd env outer _ base _ s.heap.objs.size h₁ { s with toks := tk } a b t u k cells BG ⟨Y.toInCall.ns, fun x o e => up x o (of_hideAll _ e), Nat.le_of_eq (hideAll_size _ _)⟩ N' CA (X.keeps st) (T.keeps st) hd hb lt
  refine wpAny_mono WW (fun fl s' hl => ?_) fun _ _ y => y.elim
  exact lv _ _ (jleave hjc N F (fun x o e hn => hideAll_get _ e hn) ret hl)
/-- a number drawn -/
def Drawn (n : Int) (ex : List (Addr × Obj)) (r : Value) : Prop := ex = [] ∧ ∃ c t, r = .int c t ∧ 0 ≤ c ∧ c < n
end
section
/-! D1 -/
local macro_rules | `(tactic| walk_at "Post") => `(tactic| refine Post.intro (by assumption) ?_)
local macro_rules | `(tactic| walk_at "execs cons") => `(tactic| (refine wpAny_execs_cons ?_; k_fold; (try dsimp only); (try (refine tok_free ?_; intro tk9))))
theorem draw_div {X b : Int} {d n : Nat} (h : 0 ≤ X ∧ X < 10 ^ 70) (hn : 1 ≤ n) (b0 : 0 ≤ b) (b1 : b ≤ (d : Int) + 1) : JB (d + 1) (X.fdiv n) b := by
  have e : X.fdiv n = X / n := Int.fdiv_eq_ediv_of_nonneg _ (by omega)
  refine ⟨?_, ?_, b0, by omega⟩
  · rw [e]; exact Int.ediv_nonneg h.1 (by omega)
  · rw [e]; exact Int.lt_of_le_of_lt (Int.ediv_le_self _ h.1) h.2
theorem draw_mod0 {X : Int} {n : Nat} (hn : 1 ≤ n) : 0 ≤ X.fmod n := Int.fmod_nonneg_of_pos _ (by omega)
theorem draw_mod1 {X : Int} {n : Nat} (hn : 1 ≤ n) : X.fmod n < n := Int.fmod_lt_of_pos _ (by omega)
theorem draw_big {X : Int} : 0 ≤ X.fmod (10 ^ Int.toNat 60) ∧ X.fmod (10 ^ Int.toNat 60) < 10 ^ 70 :=
  ⟨Int.fmod_nonneg_of_pos _ (by decide), Int.lt_of_lt_of_le (Int.fmod_lt_of_pos _ (by decide)) (by decide)⟩
theorem draw_low {X b : Int} (b0 : 0 ≤ b) (b1 : b ≤ 1000) : 0 ≤ (X.fmod 1000000007 + 7919 * (b + 1) + 3) * (X.fmod 1000000007 + 7919 * (b + 1) + 3) * 69069 + (b + 1) ∧ (X.fmod 1000000007 + 7919 * (b + 1) + 3) * (X.fmod 1000000007 + 7919 * (b + 1) + 3) * 69069 + (b + 1) < 10 ^ 70 := by
  have h0 : 0 ≤ X.fmod 1000000007 := Int.fmod_nonneg_of_pos _ (by decide)
  have h1 : X.fmod 1000000007 < 1000000007 := Int.fmod_lt_of_pos _ (by decide)
  generalize hl : X.fmod 1000000007 + 7919 * (b + 1) + 3 = l
  have l0 : 0 ≤ l := by omega
  have l1 : l ≤ 2000000000 := by omega
  have p0 : 0 ≤ l * l := Int.mul_nonneg l0 l0
  have p1 : l * l ≤ 2000000000 * 2000000000 := Int.mul_le_mul l1 l1 l0 (by decide)
  generalize l * l = q at p0 p1
  constructor <;> omega
theorem law_draw_ok (w : World) (j c : Addr) (ws : List Value) (ns : List Int) (kc : Nat) (hjc : c ≠ j) (hw : IntsAre ws ns) (h1 : 1 ≤ ns.length) (h4 : ns.length ≤ 40) (n : Nat) (tn : Tok) (hn : 1 ≤ n) (hn' : n ≤ 100) (d : Nat) (hd' : d ≤ 1000) :
    JCon w j c ws kc 150 900 [.ref j, .int (n : Int) tn] d (d + 1) (Drawn n) := by
  refine' JCon.intro (binds := [(Str.ofString "jar", .ref j), (Str.ofString "count", .int (n : Int) tn)]) hjc ?ho ?hcd ?hlim ?hbind ?hloc ?hco ?hgen ?hk ?hcell ?h
  case ho => k_is
  case hcd => k_is
  case hlim => decide
  case hbind => exact rfl
  case hloc => exact locs rfl
  case hco => exact rfl
  case hgen => exact rfl
  case hk => exact rfl
  case hcell => decide
  intro mean mg mb dp un gd env outer A base g L' h₁ s a b t u k B F N X T hd hb
  obtain ⟨a0, a1, b0, b1⟩ := hb
  have hws : ws.length = ns.length := hw.length
  k_steps
  all_goals refine JPost.intro [] (by assumption) (by assumption) (by k_mem) (by k_mem) ?_ (fun _ h => by cases h) (fun _ h => by cases h) ⟨rfl, _, _, rfl, ?_, ?_⟩
  · exact ⟨a0, a1, by omega, by omega⟩
  · exact Int.le_refl 0
  · omega
  · exact draw_div draw_big hn (by omega) (by omega)
  · exact draw_mod0 hn
  · exact draw_mod1 hn
  · exact draw_div (draw_low b0 (by omega)) hn (by omega) (by omega)
  · exact draw_mod0 hn
  · exact draw_mod1 hn
  · exact draw_div (draw_low b0 (by omega)) hn (by omega) (by omega)
  · exact draw_mod0 hn
  · exact draw_mod1 hn
  · exact draw_div ⟨a0, a1⟩ hn (by omega) (by omega)
  · exact draw_mod0 hn
  · exact draw_mod1 hn
end
section
/-! B9 -/
section
variable {w : World} {A : Around} {s : Shared} {h₀ : Heap} {L : Addr} {m : Str → Option Value} {news : List (Addr × Obj)}
/-- a call that draws, the ledger written out -/
theorem JCon.upd {j c : Addr} {ws : List Value} {kc : Nat} {f : Addr} {lim : Nat} {vs : List Value} {d d' : Nat} {Out : List (Addr × Obj) → Value → Prop} (C : JCon w j c ws kc f lim vs d d' Out)
    {mean : ExcName → Option Value} {mg mb : Str → Option Value} {dp un : Nat} {gd : Option (List Code)} {env : Env} {outer : List Env} {A₀ : Around} {base : Heap} {Q E : Value → Shared → Prop} {a b : Int} {t u : Tok} {k : Nat}
    (B : Below A₀ base outer h₀) (F : Fr h₀ L s.heap m) (X : (hd.heap_39 w.params).In h₀) (T : Top hd.view_39 (looseW hd.view_39 []) mean mg mb h₀) (hf : env.frame = some L) (hk : env.scope.kind = .function) (hd : dp + un ≤ lim)
    (N : News h₀ L s.heap news) (hj : (j, jarO a t b u c k) ∈ news) (hc : (c, W.listOf ws.toArray kc) ∈ news) (hjc : c ≠ j) (hb : JB d a b)
    (h : ∀ r h' tk' a' t' b' u' k' ex, JB d' a' b' → Out ex r → (∀ p ∈ ex, p.2.cls = .type "tuple") → (∀ p ∈ ex, s.heap.get? p.1 = none) → ∃ news', Upd j (jarO a t b u c k) (jarO a' t' b' u' c k') news news' ∧ (Fr h₀ L h' m → News h₀ L h' (ex ++ news') → Q r { s with heap := h', toks := tk' })) :
    wpAny (model pg w) { handled := none, depth := dp, frames := some (env :: outer), guards := gd, units := un } (call (.ref f) vs) Q E s := by
  refine C mean mg mb dp un gd env outer A₀ base h₀ L m s Q E a b t u k B F X T hf hk hd (fun p hp => ?_) hb fun r h' tk' a' t' b' u' k' ex F' S J' hb' NT o => ?_
  · rcases List.mem_cons.mp hp with rfl | hp
    · exact N _ hj
    · rw [List.mem_singleton.mp hp]; exact N _ hc
  · obtain ⟨news', U, q⟩ := h r h' tk' a' t' b' u' k' ex hb' o (fun p hp => (NT p hp).2.2) (fun p hp => (NT p hp).2.1)
    refine q F' fun p hp => ?_
    obtain ⟨pre, post, e1, e2, o1, o2⟩ := U.split
    subst e1 e2
    have old : p ∈ pre ++ (j, jarO a t b u c k) :: post → p.1 ≠ j → h'.get? p.1 = some p.2 ∧ p.1 ≠ L ∧ h₀.get? p.1 = none := fun hm hn => ⟨S _ _ (N p hm).1 hn, (N p hm).2⟩
    rcases List.mem_append.mp hp with hp | hp
    · have e := (NT p hp).2.1
      refine ⟨(NT p hp).1, fun q => ?_, Fr.fresh_of F e⟩
      obtain ⟨oL, _, _, hL, _⟩ := F.ns
      rw [q, hL] at e; cases e
    · rcases List.mem_append.mp hp with hp | hp
      · exact old (List.mem_append_left _ hp) (o1 p hp)
      · rcases List.mem_cons.mp hp with rfl | hp
        · exact ⟨J', (N _ hj).2⟩
        · exact old (List.mem_append_right _ (List.mem_cons_of_mem _ hp)) (o2 p hp)
/-- a number drawn -/
theorem draw_use {j c : Addr} {ws : List Value} {ns : List Int} {kc : Nat} {n : Int} {tn : Tok} {d : Nat}
    {mean : ExcName → Option Value} {mg mb : Str → Option Value} {dp un : Nat} {gd : Option (List Code)} {env : Env} {outer : List Env} {A₀ : Around} {base : Heap} {Q E : Value → Shared → Prop} {a b : Int} {t u : Tok} {k : Nat}
    (B : Below A₀ base outer h₀) (F : Fr h₀ L s.heap m) (X : (hd.heap_39 w.params).In h₀) (T : Top hd.view_39 (looseW hd.view_39 []) mean mg mb h₀) (hf : env.frame = some L) (hk : env.scope.kind = .function) (hd : dp + un ≤ 900)
    (N : News h₀ L s.heap news) (hj : (j, jarO a t b u c k) ∈ news) (hc : (c, W.listOf ws.toArray kc) ∈ news) (hjc : c ≠ j) (hw : IntsAre ws ns) (h1 : 1 ≤ ns.length) (h4 : ns.length ≤ 40) (hb : JB d a b) (hd' : d ≤ 1000) (hn : 1 ≤ n) (hn' : n ≤ 100)
    (h : ∀ i v h' tk' a' t' b' u' k', 0 ≤ i → i < n → JB (d + 1) a' b' → ∃ news', Upd j (jarO a t b u c k) (jarO a' t' b' u' c k') news news' ∧ (Fr h₀ L h' m → News h₀ L h' news' → Q (.int i v) { s with heap := h', toks := tk' })) :
    wpAny (model pg w) { handled := none, depth := dp, frames := some (env :: outer), guards := gd, units := un } (call (.ref 150) [.ref j, .int n tn]) Q E s := by
  obtain ⟨n, rfl⟩ := Int.eq_ofNat_of_zero_le (show 0 ≤ n by omega)
  refine JCon.upd (law_draw_ok w j c ws ns kc hjc hw h1 h4 n tn (by omega) (by omega) d hd') B F X T hf hk hd N hj hc hjc hb ?_
  rintro r h' tk' a' t' b' u' k' ex hb' ⟨rfl, i, v, rfl, i0, i1⟩ _ _
  exact h i v h' tk' a' t' b' u' k' i0 i1 hb'
theorem menu_at {α : Type} {R : Value → α → Prop} {ys : List α} {D : Addr} {vs : List Value} {n : Nat} {i : Int} {t : Tok} {E : Value → Shared → Prop} {value slice : Expr} {q : Value → Shared → Prop} (N : News h₀ L s.heap news) (hm : (D, W.listOf vs.toArray n) ∈ news) (x : Each R vs ys) (h0 : 0 ≤ i) (h1 : i < ys.length) (hb : ys.length ≤ 100)
    (h : ∀ v y, ys[i.toNat]? = some y → R v y → q v s) (hs : subscripted slice false (.ref D) (.int i t) = operate [.ref D, .int i t] (getItem (.ref D) (.int i t)) := by with_unfolding_all rfl) :
    wpAny (model pg w) A (subscriptTail value slice (.ref D) (.int i t)) q E s := by
  have hi : i.toNat < ys.length := by omega
  obtain ⟨v, hv, r⟩ := x.2 i.toNat _ (List.getElem?_eq_getElem hi)
  have hl := PySem.IsL.isList (n := n) (N _ hm).1
  exact tail_any hl.typeIs slot_list_getitem.lookup (wpAny_getItem_list hl h0 (by omega) (by simpa using hv) (h v _ (List.getElem?_eq_getElem hi) r)) hs
theorem set_any {D : Addr} {vs : List Value} {n : Nat} {k : Int} {t : Tok} {v : Value} {news' : List (Addr × Obj)} {Q : Unit → Shared → Prop} {E : Value → Shared → Prop} (F : Fr h₀ L s.heap m) (N : News h₀ L s.heap news) (U : Upd D (W.listOf vs.toArray n) (W.listOf (vs.set k.toNat v).toArray n) news news') (h0 : 0 ≤ k) (h1 : k < vs.length) (hfit : k < 2 ^ 63)
    (h : ∀ h', Fr h₀ L h' m → News h₀ L h' news' → Q () { s with heap := h' }) :
    wpAny (model pg w) A (setItem (.ref D) (.int k t) v) Q E s := by
  obtain ⟨pre, post, rfl, rfl, a, b⟩ := U.split
  have z := N (D, W.listOf vs.toArray n) (List.mem_append.mpr (.inr (.head _)))
  refine ki_setAt z.1 h0 hfit (by rw [List.size_toArray]; omega) (h _ (F.change (Heap.SameBut.update ..) z.2.1 z.2.2) (ki_turn _ N a b ?_ ?_))
  · show vs.toArray.setIfInBounds k.toNat v = (vs.set k.toNat v).toArray
    apply Array.toList_inj.mp
    simp
  · simp
/-- an element's end in a comprehension that changes the ledger -/
def ElJ (h₀ : Heap) (L : Addr) (m : Str → Option Value) (hd : List (Addr × Obj)) (Off : List (Addr × Obj) → Prop) (J : Value → List (Addr × Obj) → Prop) (s : Shared) (y : Value) (s' : Shared) : Prop :=
  ∃ h' tk' nw, s' = { s with heap := h', toks := tk' } ∧ Fr h₀ L h' m ∧ News h₀ L h' (hd ++ nw) ∧ Off nw ∧ J y nw
theorem ElJ.intro {hd : List (Addr × Obj)} {Off : List (Addr × Obj) → Prop} {J : Value → List (Addr × Obj) → Prop} {y : Value} {h' : Heap} {tk' : Nat} {nw all : List (Addr × Obj)} (F : Fr h₀ L h' m) (N : News h₀ L h' all) (sub : ∀ p ∈ hd ++ nw, p ∈ all) (o : Off nw) (j : J y nw) : ElJ h₀ L m hd Off J s y { s with heap := h', toks := tk' } :=
  ⟨h', tk', nw, rfl, F, fun p hp => N p (sub p hp), o, j⟩
/-- a comprehension over a range; J: what the ledger and the items are after i turns -/
theorem comp_jar {r : Addr} {env : Env} {elt : Expr} {x : Str} {scope : Scope} {cl : List (Str × Addr)} {Fin : Shared → List Value → List (Addr × Obj) → Prop} {n : Nat} {t u v : Tok} (J : Nat → List Value → List (Addr × Obj) → Prop)
    (hr : IsRange s.heap r 0 (n : Int) 1 t u v) (hb : n ≤ 100) (F : Fr h₀ L s.heap m) (N : News h₀ L s.heap news) (hh : A.handled = none) (h0 : J 0 [] news)
    (turn : ∀ (i : Nat) t I oI C oC D m₂ ys nw h tk, i < n → LCg.NsObj oC m₂ → m₂ x = some (.int (i : Int) t) → J i ys nw → Fr h₀ L h m → News h₀ L h ((I, oI) :: (C, oC) :: (D, LCg.lst ys) :: nw) → LCg.Off3 I C D nw → ((@Ne Nat I C) ∧ (@Ne Nat I D) ∧ (@Ne Nat C D)) →
      wpAny (model pg w) A (eval elt (compEnvC scope cl C env)) (ElJ h₀ L m [(I, oI), (C, oC), (D, LCg.lst ys)] (LCg.Off3 I C D) (fun y nw' => J (i + 1) (ys ++ [y]) nw') s) (fun _ _ => False) { s with heap := h, toks := tk })
    (fin : ∀ h ys nw, J n ys nw → Fin { s with heap := h } ys nw) : LCg.CompSrc pg w A h₀ L m env elt x scope cl Fin (.ref r) s := by
  refine LCg.CompSrc.range hh F N hr (range_facts n hb).1 (range_facts n hb).2 (by rw [sizeLine_eq]; omega) fun g => ?_
  suffices q : ∀ k i ys nw, i + k = n → J i ys nw → LCg.CompRest pg w A h₀ L m env elt x scope cl { s with heap := g } (fun _ => True) (fun i v => ∃ t, v = .int (0 + (i : Int)) t) (Fin { s with heap := g }) k i ys nw from q n 0 [] news (by omega) h0
  intro k
  induction k with
  | zero => exact fun i ys nw hk hj => LCg.CompRest.zero (fin g ys nw (by rw [← (show i = n by omega)]; exact hj))
  | succ k ih =>
    intro i ys nw hk hj
    refine LCg.CompRest.succ fun v I oI C oC D m₂ h tk E' hP hC hx F N off ne => ?_
    obtain ⟨t', rfl⟩ := hP
    rw [Int.zero_add] at hx
    refine wpAny_noRaise (wpAny_mono (turn i t' I oI C oC D m₂ ys nw h tk (by omega) hC hx hj F N off ne) (fun y s' hq => ?_) fun _ _ e => e)
    obtain ⟨h', tk', nw', rfl, F', N', off', hj'⟩ := hq
    exact ⟨h', tk', nw', rfl, F', N', off', trivial, ih (i + 1) (ys ++ [y]) nw' (by omega) hj'⟩
end
/-- a place where the walk stops -/
def Hold (P : Prop) : Prop := P
theorem Hold.out {P : Prop} (h : Hold P) : P := h
theorem Hold.in {P : Prop} (h : P) : Hold P := h
/-- a letter as a text -/
def LvAt (v : Value) (l : Lv) : Prop := ∃ t, v = .str l.str t
/-- a tuple of symbols that stands wherever ex stands -/
def SymOut (n : Nat) (ex : List (Addr × Obj)) (r : Value) : Prop := ∃ T ys, r = .ref T ∧ ys.length = n ∧ ∀ h, (∀ p ∈ ex, h.get? p.1 = some p.2) → SymTup h T ys
theorem menu_lv {t₁ t₂ t₃ t₄ t₅ : Tok} : Each LvAt [.str (Str.ofString "0") t₁, .str (Str.ofString "1") t₂, .str (Str.ofString "x") t₃, .str (Str.ofString "b") t₄, .str (Str.ofString "?") t₅] [.z, .o, .x, .b, .q] :=
  .cons ⟨_, rfl⟩ (.cons ⟨_, rfl⟩ (.cons ⟨_, rfl⟩ (.cons ⟨_, rfl⟩ (.cons ⟨_, rfl⟩ .nil))))
end
section
/-! D2 -/
local macro_rules | `(tactic| walk_at "execs cons") => `(tactic| (refine wpAny_execs_cons ?_; k_fold; (try dsimp only); (try (refine tok_free ?_; intro tk9))))
local macro_rules | `(tactic| walk_at "call ref") => `(tactic| ((with_reducible show wpAny _ _ (call (Value.ref 150) _) _ _ _); k_dflt (refine draw_use (by k_asm) (by k_asm) (by k_asm) (by k_asm) rfl rfl (by (try dsimp only); omega) (by k_asm) (by k_mem) (by k_mem) (by with_reducible assumption) (by with_reducible assumption) (by with_reducible assumption) (by with_reducible assumption) (by with_reducible assumption) (by omega) (by omega) (by omega) ?_); intro i9 v9 h9 tk9 a9 t9 b9 u9 k9 l9 l9' J9; (refine' ⟨_, ?U9, ?_⟩; (case U9 => k_upd); intro F9 N9; (try dsimp only at F9 N9 ⊢); (try k_sweep))))
local macro_rules | `(tactic| walk_at "subscriptTail") => `(tactic| (k_here; (with_reducible show wpAny _ _ (subscriptTail _ _ (Value.ref _) (Value.int _ _)) _ _ _); k_dflt (refine' menu_at ?N ?m ?x ?a ?b ?c ?_; (case N => k_asm); (case m => k_mem); (case x => exact menu_lv); (case a => with_reducible assumption); (case b => (simp only [List.length_cons, List.length_nil]; omega)); (case c => decide); k_whole); intro v9 y9 e9 r9))
local macro_rules | `(tactic| walk_at "exec Assign cons ListComp") => `(tactic| k_dflt (refine LCg.Assign_ListComp_U (F₀ := by k_asm) (by rfl) (by with_unfolding_all rfl) (by with_unfolding_all rfl) (by decide) (by rfl) (by decide) (by rfl) (by rfl) (by rfl) ?_))
local macro_rules | `(tactic| walk_at "call type:range") => `(tactic| (k_here; k_dflt (refine' range_call ?F ?N ?_; (case F => k_asm); (case N => k_asm); k_whole); intro r9 h9 tk9 t9 u9 v9 hr9 F9 N9; (try k_sweep)))
theorem ite_cases {c : Prop} [Decidable c] {a b : Prop} (h1 : c → a) (h2 : ¬ c → b) : if c then a else b := by split <;> first | exact h1 (by assumption) | exact h2 (by assumption)
/-- a symbol wherever ex stands -/
def ExSym (ex : List (Addr × Obj)) (v : Value) (y : Sym) : Prop := ∀ h : Heap, (∀ p ∈ ex, h.get? p.1 = some p.2) → SymAt h v y
theorem edge_at {w : World} {A : Around} {s : Shared} {h₀ : Heap} {L D T1 T2 T3 T4 : Addr} {news : List (Addr × Obj)} {k : Nat} {i : Int} {t r f p n x a1 a2 a3 b1 b2 b3 c1 c2 c3 d1 d2 d3 : Tok} {E : Value → Shared → Prop} {value slice : Expr} {q : Value → Shared → Prop} (N : News h₀ L s.heap news)
    (hm : (D, W.listOf #[.str (Str.ofString "r") r, .str (Str.ofString "f") f, .str (Str.ofString "p") p, .str (Str.ofString "n") n, .str (Str.ofString "*") x, .ref T1, .ref T2, .ref T3, .ref T4] k) ∈ news)
    (m1 : (T1, tupO [.str (Str.ofString "edge") a1, .str (Str.ofString "0") a2, .str (Str.ofString "x") a3]) ∈ news) (m2 : (T2, tupO [.str (Str.ofString "edge") b1, .str (Str.ofString "?") b2, .str (Str.ofString "1") b3]) ∈ news)
    (m3 : (T3, tupO [.str (Str.ofString "edge") c1, .str (Str.ofString "b") c2, .str (Str.ofString "b") c3]) ∈ news) (m4 : (T4, tupO [.str (Str.ofString "edge") d1, .str (Str.ofString "1") d2, .str (Str.ofString "?") d3]) ∈ news)
    (h0 : 0 ≤ i) (h1 : i < 9) (h : ∀ v y ex, (∀ nw : List (Addr × Obj), (T1, tupO [.str (Str.ofString "edge") a1, .str (Str.ofString "0") a2, .str (Str.ofString "x") a3]) ∈ nw → (T2, tupO [.str (Str.ofString "edge") b1, .str (Str.ofString "?") b2, .str (Str.ofString "1") b3]) ∈ nw → (T3, tupO [.str (Str.ofString "edge") c1, .str (Str.ofString "b") c2, .str (Str.ofString "b") c3]) ∈ nw → (T4, tupO [.str (Str.ofString "edge") d1, .str (Str.ofString "1") d2, .str (Str.ofString "?") d3]) ∈ nw → ∀ p ∈ ex, p ∈ nw) → (∀ p ∈ ex, p.2.cls = .type "tuple") → ExSym ex v y → q v s) (hs : subscripted slice false (.ref D) (.int i t) = operate [.ref D, .int i t] (getItem (.ref D) (.int i t)) := by with_unfolding_all rfl) :
    wpAny (model pg w) A (subscriptTail value slice (.ref D) (.int i t)) q E s := by
  let ex : List (Addr × Obj) := [(T1, tupO [.str (Str.ofString "edge") a1, .str (Str.ofString "0") a2, .str (Str.ofString "x") a3]), (T2, tupO [.str (Str.ofString "edge") b1, .str (Str.ofString "?") b2, .str (Str.ofString "1") b3]),
    (T3, tupO [.str (Str.ofString "edge") c1, .str (Str.ofString "b") c2, .str (Str.ofString "b") c3]), (T4, tupO [.str (Str.ofString "edge") d1, .str (Str.ofString "1") d2, .str (Str.ofString "?") d3])]
  have M : Each (ExSym ex) [.str (Str.ofString "r") r, .str (Str.ofString "f") f, .str (Str.ofString "p") p, .str (Str.ofString "n") n, .str (Str.ofString "*") x, .ref T1, .ref T2, .ref T3, .ref T4] [.r, .f, .p, .n, .s, .e .z .x, .e .q .o, .e .b .b, .e .o .q] :=
    .cons (fun _ _ => ⟨_, rfl⟩) (.cons (fun _ _ => ⟨_, rfl⟩) (.cons (fun _ _ => ⟨_, rfl⟩) (.cons (fun _ _ => ⟨_, rfl⟩) (.cons (fun _ _ => ⟨_, rfl⟩)
      (.cons (fun _ H => ⟨T1, a1, a2, a3, rfl, IsTup.of (H (T1, _) (.head _))⟩) (.cons (fun _ H => ⟨T2, b1, b2, b3, rfl, IsTup.of (H (T2, _) (.tail _ (.head _)))⟩) (.cons (fun _ H => ⟨T3, c1, c2, c3, rfl, IsTup.of (H (T3, _) (.tail _ (.tail _ (.head _))))⟩) (.cons (fun _ H => ⟨T4, d1, d2, d3, rfl, IsTup.of (H (T4, _) (.tail _ (.tail _ (.tail _ (.head _)))))⟩) .nil))))))))
  refine menu_at N hm M h0 h1 (by decide) (fun v y _ r => h v y ex ?_ ?_ r) hs
  · intro nw g1 g2 g3 g4 p hp
    simp only [ex, List.mem_cons, List.not_mem_nil, or_false] at hp
    rcases hp with rfl | rfl | rfl | rfl <;> assumption
  · intro p hp
    simp only [ex, List.mem_cons, List.not_mem_nil, or_false] at hp
    rcases hp with rfl | rfl | rfl | rfl <;> rfl
theorem symOut_set {n : Nat} {ys : List Value} {ls : List Lv} {T : Addr} {k : Nat} {v : Value} {y : Sym} {ex : List (Addr × Obj)} (h : Each LvAt ys ls) (e : ls.length = n) (r : ExSym ex v y) : SymOut n ((T, tupO (ys.set k v)) :: ex) (.ref T) :=
  ⟨T, (ls.map Sym.l).set k y, rfl, by rw [List.length_set, List.length_map]; exact e, fun h' H => ⟨ys.set k v, IsTup.of (H _ List.mem_cons_self), by rw [List.length_set, List.length_set, List.length_map]; exact h.1, fun i z hz => by
    by_cases q : k = i
    · subst q
      rw [List.getElem?_set] at hz
      have hk : k < (ls.map Sym.l).length := by
        by_cases hk : k < (ls.map Sym.l).length
        · exact hk
        · rw [if_pos rfl, if_neg hk] at hz; cases hz
      rw [if_pos rfl, if_pos hk] at hz
      cases hz
      exact ⟨v, List.getElem?_set_self (by rw [h.1]; simpa using hk), r h' fun p hp => H p (List.mem_cons_of_mem _ hp)⟩
    · rw [List.getElem?_set_ne q, List.getElem?_map] at hz
      cases q' : ls[i]? with
      | none => rw [q'] at hz; cases hz
      | some l =>
        rw [q'] at hz
        cases hz
        obtain ⟨v', hv, r'⟩ := h.2 i l q'
        exact ⟨v', by rw [List.getElem?_set_ne q]; exact hv, r'⟩⟩⟩
theorem ite_tt {a b : Prop} (h : a) : if (true = true) then a else b := by rw [if_pos rfl]; exact h
theorem ite_ff {a b : Prop} (h : b) : if (false = true) then a else b := by rw [if_neg (by decide)]; exact h
theorem Each.le {α : Type} {R : Value → α → Prop} {vs : List Value} {ys : List α} (x : Each R vs ys) : vs.length = ys.length := x.1
theorem symOut_lv {n : Nat} {ys : List Value} {ls : List Lv} {T : Addr} (h : Each LvAt ys ls) (e : ls.length = n) : SymOut n [(T, tupO ys)] (.ref T) :=
  ⟨T, ls.map Sym.l, rfl, by rw [List.length_map]; exact e, fun h' H => ⟨ys, IsTup.of (H _ List.mem_cons_self), by rw [List.length_map]; exact h.1, fun i y hy => by
    rw [List.getElem?_map] at hy
    cases q : ls[i]? with
    | none => rw [q] at hy; cases hy
    | some l =>
      rw [q] at hy
      cases hy
      obtain ⟨v, hv, r⟩ := h.2 i l q
      exact ⟨v, hv, r⟩⟩⟩
local macro_rules | `(tactic| walk_at "call type:tuple") => `(tactic| (k_here; (with_reducible show wpAny _ _ (call (Value.type _) [Value.ref _]) _ _ _); k_dflt (refine' kde_tupleOf ?k1 ?k2 (News.isList (by k_asm) (by k_mem)) ?k4 rfl ?_; (case k1 => k_asm); (case k2 => k_asm); (case k4 => (rw [List.size_toArray]; (try rw [List.length_set]); have h9 := Each.le (by assumption); omega)); k_whole); intro D' h' F' N' l1; (try k_lt l1); (try k_sweep)))
local macro_rules | `(tactic| walk_at "setItem ref int") => `(tactic| (k_here; (with_reducible show wpAny _ _ (setItem (Value.ref _) (Value.int _ _) _) _ _ _); k_dflt (refine' set_any ?k1 ?k2 ?k3 ?k4 ?k5 ?k6 ?_; (case k1 => k_asm); (case k2 => k_asm); (case k3 => k_upd); (case k4 => with_reducible assumption); (case k5 => (have h9 := Each.le (by assumption); omega)); (case k6 => omega); k_whole); intro h' F' N'; (try k_sweep)))
local macro_rules | `(tactic| walk_at "CompSrc") => `(tactic| refine Hold.out ?_)
local macro_rules | `(tactic| walk_at "ite") => `(tactic| ((with_reducible show ite _ _ _); first | (with_reducible refine ite_tt ?_) | (with_reducible refine ite_ff ?_) | refine ite_cases (fun hz9 => ?_) (fun hz9 => ?_)))
theorem law_symbols_ok (w : World) (j c : Addr) (ws : List Value) (ns : List Int) (kc : Nat) (hjc : c ≠ j) (hw : IntsAre ws ns) (h1 : 1 ≤ ns.length) (h4 : ns.length ≤ 40) (n : Nat) (tn : Tok) (hn : 1 ≤ n) (hn' : n ≤ 10) (e : Bool) (d : Nat) (hd' : d ≤ 900) :
    JCon w j c ws kc 176 880 [.ref j, .int (n : Int) tn, .bool e] d (d + n + 3) (SymOut n) := by
  refine' JCon.introC (binds := [(Str.ofString "jar", .ref j), (Str.ofString "size", .int (n : Int) tn), (Str.ofString "with_edge", .bool e)]) hjc ?ho ?hcd ?hlim ?hbind ?hkind ?hnd ?hco ?hgen ?hk ?h
  case ho => k_is
  case hcd => k_is
  case hlim => decide
  case hbind => exact rfl
  case hkind => exact rfl
  case hnd => decide +kernel
  case hco => exact rfl
  case hgen => exact rfl
  case hk => exact rfl
  intro mean mg mb dp un gd env outer A base g L' h₁ s a b t u k cells' B F N Y X T hd hb l1
  k_lt l1
  k_cells Y
  simp only [List.cons_append, List.nil_append] at N
  k_steps
  refine Hold.in ?_
  refine comp_jar (fun i ys nw => ∃ a t b u k, nw = (_, _) :: jarN j a t b u c k ws kc ∧ JB (d + i) a b ∧ ∃ ls : List Lv, Each LvAt ys ls ∧ ls.length = i)
    (by assumption) (by omega) (by assumption) (by assumption) rfl ⟨a, t, b, u, k, rfl, hb, [], .nil, rfl⟩ ?_ ?_
  · rintro i t₁ I oI C oC D m₂ ys _ h tk hi hC hx ⟨a, t, b, u, k, rfl, hb, ls, hls, hll⟩ F N off ne
    have off' := off
    simp only [LCg.Off3, and_true] at off'
    k_steps
    exact ElJ.intro (by assumption) (by assumption) (fun p hp => List.mem_cons_of_mem _ hp) (by exact off) ⟨_, _, _, _, _, rfl, by assumption, ls ++ [_], hls.snoc (by assumption), by rw [List.length_append, hll]; rfl⟩
  · rintro h ys _ ⟨a, t, b, u, k, rfl, hb, ls, hls, hll⟩
    cases e with
    | false =>
      k_steps
      refine JPost.intro [(_, tupO ys)] (by assumption) (by assumption) (by k_mem) (by k_mem) (hb.mono (d' := d + n + 3) (by omega)) (fun p hp => by rw [List.mem_singleton.mp hp]; k_mem) (fun p hp => by rw [List.mem_singleton.mp hp]) (symOut_lv hls hll)
    | true =>
      k_steps
      · skip
        refine edge_at (by assumption) (by k_mem) (by k_mem) (by k_mem) (by k_mem) (by k_mem) (by assumption) (by assumption) ?_
        intro v y ex hex hcl hy
        k_steps
        exact JPost.intro ((_, tupO (ys.set _ v)) :: ex) (by assumption) (by assumption) (by k_mem) (by k_mem) (JB.mono (d' := d + n + 3) (by assumption) (by omega)) (List.forall_mem_cons.mpr ⟨by k_mem, hex _ (by k_mem) (by k_mem) (by k_mem) (by k_mem)⟩) (List.forall_mem_cons.mpr ⟨rfl, hcl⟩) (symOut_set hls hll hy)
      · refine JPost.intro [(_, tupO ys)] (by assumption) (by assumption) (by k_mem) (by k_mem) (JB.mono (d' := d + n + 3) (by assumption) (by omega)) (fun p hp => by rw [List.mem_singleton.mp hp]; k_mem) (fun p hp => by rw [List.mem_singleton.mp hp]) (symOut_lv hls hll)
end
section
/-! D3 -/
def OutAt (v : Value) (o : Out) : Prop := ∃ t, v = .str o.str t
theorem menu_st {t₁ t₂ t₃ t₄ t₅ : Tok} : Each LvAt [.str (Str.ofString "0") t₁, .str (Str.ofString "1") t₂, .str (Str.ofString "x") t₃, .str (Str.ofString "?") t₄, .str (Str.ofString "b") t₅] [.z, .o, .x, .q, .b] :=
  .cons ⟨_, rfl⟩ (.cons ⟨_, rfl⟩ (.cons ⟨_, rfl⟩ (.cons ⟨_, rfl⟩ (.cons ⟨_, rfl⟩ .nil))))
theorem menu_out {t₁ t₂ t₃ t₄ : Tok} : Each OutAt [.str (Str.ofString "0") t₁, .str (Str.ofString "1") t₂, .str (Str.ofString "x") t₃, .str (Str.ofString "-") t₄] [.z, .o, .x, .k] :=
  .cons ⟨_, rfl⟩ (.cons ⟨_, rfl⟩ (.cons ⟨_, rfl⟩ (.cons ⟨_, rfl⟩ .nil)))
/-- a table that stands wherever ex stands -/
def TabOut (n : Nat) (kept : Bool) (ex : List (Addr × Obj)) (r : Value) : Prop := ∃ T rows, r = .ref T ∧ (∀ r ∈ rows, r.ins.length = n) ∧ (kept = true → ∀ r ∈ rows, ∃ l, r.held = some l) ∧ ∀ h, (∀ p ∈ ex, h.get? p.1 = some p.2) → TableAt h T rows
local macro_rules | `(tactic| walk_at "execs cons") => `(tactic| (refine wpAny_execs_cons ?_; k_fold; (try dsimp only); (try (refine tok_free ?_; intro tk9))))
local macro_rules | `(tactic| walk_at "call ref") => `(tactic| ((with_reducible show wpAny _ _ (call (Value.ref 150) _) _ _ _); k_dflt (refine draw_use (by k_asm) (by k_asm) (by k_asm) (by k_asm) rfl rfl (by (try dsimp only); omega) (by k_asm) (by k_mem) (by k_mem) (by with_reducible assumption) (by with_reducible assumption) (by with_reducible assumption) (by with_reducible assumption) (by with_reducible assumption) (by omega) (by omega) (by omega) ?_); intro i9 v9 h9 tk9 a9 t9 b9 u9 k9 l9 l9' J9; (refine' ⟨_, ?U9, ?_⟩; (case U9 => k_upd); intro F9 N9; (try dsimp only at F9 N9 ⊢); (try k_sweep))))
local macro_rules | `(tactic| walk_at "subscriptTail") => `(tactic| (k_here; (with_reducible show wpAny _ _ (subscriptTail _ _ (Value.ref _) (Value.int _ _)) _ _ _); k_dflt (refine' menu_at ?N ?m ?x ?a ?b ?c ?_; (case N => k_asm); (case m => k_mem); (case x => first | exact menu_st | exact menu_out); (case a => with_reducible assumption); (case b => (simp only [List.length_cons, List.length_nil]; omega)); (case c => decide); k_whole); intro v9 y9 e9 r9))
local macro_rules | `(tactic| walk_at "call type:range") => `(tactic| (k_here; k_dflt (refine' range_call ?F ?N ?_; (case F => k_asm); (case N => k_asm); k_whole); intro r9 h9 tk9 t9 u9 v9 hr9 F9 N9; (try k_sweep)))
local macro_rules | `(tactic| walk_at "call type:tuple") => `(tactic| (k_here; (with_reducible show wpAny _ _ (call (Value.type _) [Value.ref _]) _ _ _); k_dflt (refine' kde_tupleOf ?k1 ?k2 (News.isList (by k_asm) (by k_mem)) ?k4 rfl ?_; (case k1 => k_asm); (case k2 => k_asm); (case k4 => (rw [← Array.length_toList]; omega)); k_whole); intro D' h' F' N' l1; (try k_lt l1); (try k_sweep)))
local macro_rules | `(tactic| walk_at "ite") => `(tactic| ((with_reducible show ite _ _ _); first | (with_reducible refine ite_tt ?_) | (with_reducible refine ite_ff ?_) | refine ite_cases (fun hz9 => ?_) (fun hz9 => ?_)))
local macro_rules | `(tactic| walk_at "exec For Name Call cons nil") => `(tactic| k_dflt (refine For_m ?_))
local macro_rules | `(tactic| k_all) => `(tactic| assumption)
theorem range_I {w : World} {A : Around} {s : Shared} {env : Env} {h₀ : Heap} {body : List Stmt} {m : Str → Option Value} {news : List (Addr × Obj)} {Q : Flow → Shared → Prop} {x : Str} {px : Pos} {r L : Addr} {t u v : Tok} {n : Int} (J : Nat → (Str → Option Value) → List (Addr × Obj) → Prop)
    (hr : IsRange s.heap r 0 n 1 t u v) (hn : 0 ≤ n) (hb : n ≤ 100) (hL : env.locals = L) (F : Fr h₀ L s.heap m) (N : News h₀ L s.heap news) (h0 : J 0 m news) (hh : A.handled = none)
    (step : ∀ (i : Nat) I t m₁ news₁ io h tk, (i : Int) < n → J i m₁ news₁ → (∀ p ∈ news₁, p.1 ≠ I) → Fr h₀ L h m₁ → News h₀ L h ((I, io) :: news₁) →
      wpAny (model pg w) A (storeName env x (.int (i : Int) t)) (fun _ s₁ => wpAny (model pg w) A (execs body env) (Turn h₀ L I io (J (i + 1)) Q s) (fun _ _ => False) s₁) (fun _ _ => False) { s with heap := h, toks := tk })
    (done : ∀ h tk m₁ news₁, J n.toNat m₁ news₁ → Fr h₀ L h m₁ → News h₀ L h news₁ → Q .next { s with heap := h, toks := tk }) :
    wpAny (model pg w) A (pyIter (.ref r)) (fun it s₂ => LoopM w A env (.Name x px) body Q it s₂) (fun _ _ => False) s := by
  obtain ⟨n, rfl⟩ := Int.eq_ofNat_of_zero_le hn
  exact range_L J hr (by omega) hL F N h0 hh (fun i I t m₁ news₁ io h tk hi => step i I t m₁ news₁ io h tk (by omega)) done
/-- tuples of the ledger are not its lists -/
theorem tup_off {g h : Heap} {L q : Addr} {its : Array Value} {k : Nat} {news ex : List (Addr × Obj)} (N : News g L h news) (hq : (q, W.listOf its k) ∈ news) (sub : ∀ p ∈ ex, p ∈ news) (hc : ∀ p ∈ ex, p.2.cls = .type "tuple") : ∀ p ∈ ex, p.1 ≠ q := fun p hp e => by
  have e1 := (N p (sub p hp)).1
  rw [e, (N _ hq).1] at e1
  have := hc p hp
  rw [← Option.some.inj e1] at this
  exact absurd this (by simp)
theorem News.app {g h : Heap} {L : Addr} {l l' : List (Addr × Obj)} (N : News g L h l) (N' : News g L h l') : News g L h (l ++ l') := fun q hq => by
  rcases List.mem_append.mp hq with hq | hq
  · exact N q hq
  · exact N' q hq
theorem rows_next {n i : Nat} {e : Bool} {va : Array Value} {rs : List RowD} {ex ex₅ : List (Addr × Obj)} {D T : Addr} {hv : Value} {held : Option Lv} {o : Out} {to : Tok} {ys : List Sym} (hex : ∀ p ∈ ex, p.2.cls = .type "tuple") (hc₅ : ∀ p ∈ ex₅, p.2.cls = .type "tuple") (hlen : va.toList.length = i) (hrs : ∀ r ∈ rs, r.ins.length = n) (hrk : e = true → ∀ r ∈ rs, ∃ l, r.held = some l)
    (hE : ∀ h : Heap, (∀ p ∈ ex, h.get? p.1 = some p.2) → Each (RowAt h) va.toList rs) (hys : ys.length = n) (hT : ∀ h : Heap, (∀ p ∈ ex₅, h.get? p.1 = some p.2) → SymTup h T ys) (hh : HeldAt hv held) (hk : e = true → ∃ l, held = some l) :
    (∀ p ∈ (D, tupO [.ref T, hv, .str o.str to]) :: (ex₅ ++ ex), p.2.cls = .type "tuple") ∧ (va.push (.ref D)).toList.length = i + 1 ∧ (∀ r ∈ rs ++ [(⟨ys, held, o⟩ : RowD)], r.ins.length = n) ∧ (e = true → ∀ r ∈ rs ++ [(⟨ys, held, o⟩ : RowD)], ∃ l, r.held = some l) ∧
      ∀ h : Heap, (∀ p ∈ (D, tupO [.ref T, hv, .str o.str to]) :: (ex₅ ++ ex), h.get? p.1 = some p.2) → Each (RowAt h) (va.push (.ref D)).toList (rs ++ [(⟨ys, held, o⟩ : RowD)]) := by
  refine ⟨List.forall_mem_cons.mpr ⟨rfl, List.forall_mem_append.mpr ⟨hc₅, hex⟩⟩, by rw [Array.toList_push, List.length_append, hlen]; rfl, ?_, ?_, fun h H => ?_⟩
  · intro r hr
    rcases List.mem_append.mp hr with hr | hr
    · exact hrs r hr
    · rw [List.mem_singleton.mp hr]; exact hys
  · intro he r hr
    rcases List.mem_append.mp hr with hr | hr
    · exact hrk he r hr
    · rw [List.mem_singleton.mp hr]; exact hk he
  · rw [Array.toList_push]
    refine (hE h fun p hp => H p (List.mem_cons_of_mem _ (List.mem_append_right _ hp))).snoc ⟨D, T, hv, to, rfl, IsTup.of (H _ List.mem_cons_self), hT h fun p hp => H p (List.mem_cons_of_mem _ (List.mem_append_left _ hp)), hh⟩
def rowT (z : Str) : Bool := z == Str.ofString "turn" || z == Str.ofString "state" || z == Str.ofString "out"
theorem law_rows_ok (w : World) (j c : Addr) (ws : List Value) (ns : List Int) (kc : Nat) (hjc : c ≠ j) (hw : IntsAre ws ns) (h1 : 1 ≤ ns.length) (h4 : ns.length ≤ 40) (n : Nat) (tn : Tok) (hn : 1 ≤ n) (hn' : n ≤ 3) (e : Bool) (d : Nat) (hd' : d ≤ 500) :
    JCon w j c ws kc 183 860 [.ref j, .int (n : Int) tn, .bool e] d (d + 49) (TabOut n e) := by
  refine' JCon.intro (binds := [(Str.ofString "jar", .ref j), (Str.ofString "size", .int (n : Int) tn), (Str.ofString "kept", .bool e)]) hjc ?ho ?hcd ?hlim ?hbind ?hloc ?hco ?hgen ?hk ?hcell ?h
  case ho => k_is
  case hcd => k_is
  case hlim => decide
  case hbind => exact rfl
  case hloc => exact locs rfl
  case hco => exact rfl
  case hgen => exact rfl
  case hk => exact rfl
  case hcell => decide
  intro mean mg mb dp un gd env outer A base g L' h₁ s a b t u k B F N X T hd hb
  k_steps
  refine with_map (by assumption) fun m₀ em => ?_
  refine range_I (L := L') (fun i m nw => ∃ (a : Int) (t : Tok) (b : Int) (u : Tok) (k : Nat) (va : Array Value) (kk : Nat) (ex : List (Addr × Obj)) (rs : List RowD), (∀ z, rowT z = false → m z = m₀ z) ∧ nw = (_, W.listOf va kk) :: (j, jarO a t b u c k) :: (c, W.listOf ws.toArray kc) :: ex ∧ JB (d + 1 + 8 * i) a b ∧ (∀ p ∈ ex, p.2.cls = .type "tuple") ∧
      va.toList.length = i ∧ (∀ r ∈ rs, r.ins.length = n) ∧ (e = true → ∀ r ∈ rs, ∃ l, r.held = some l) ∧ ∀ h, (∀ p ∈ ex, h.get? p.1 = some p.2) → Each (RowAt h) va.toList rs)
    (by assumption) (by assumption) (by omega) rfl (by assumption) (by assumption) ⟨_, _, _, _, _, _, _, [], [], fun _ _ => by rw [em], rfl, by assumption, List.forall_mem_nil _, rfl, List.forall_mem_nil _, fun _ => List.forall_mem_nil _, fun _ _ => .nil⟩ rfl ?_ ?_
  · rintro i I t₁ m₁ _ io h tk hi ⟨a, t, b, u, k, va, kk, ex, rs, hm, rfl, hb, hex, hlen, hrs, hrk, hE⟩ off F N
    rw [tmpM_of hm, em] at F
    have oj := tup_off N (q := j) (by k_mem) (fun p hp => List.mem_cons_of_mem _ (List.mem_cons_of_mem _ (List.mem_cons_of_mem _ (List.mem_cons_of_mem _ hp)))) hex
    have oM := tup_off N (List.mem_cons_of_mem _ List.mem_cons_self) (fun p hp => List.mem_cons_of_mem _ (List.mem_cons_of_mem _ (List.mem_cons_of_mem _ (List.mem_cons_of_mem _ hp)))) hex
    have nI : @Ne Nat _ I := off _ (List.Mem.head _)
    have nj : @Ne Nat j I := off (j, jarO a t b u c k) (by k_mem)
    have nc : @Ne Nat c I := off (c, W.listOf ws.toArray kc) (by k_mem)
    have oI : ∀ p ∈ ex, p.1 ≠ I := fun p hp => off p (List.mem_cons_of_mem _ (List.mem_cons_of_mem _ (List.mem_cons_of_mem _ hp)))
    try dsimp only at nI ⊢
    cases e with
    | true =>
      k_steps
      rename OutAt _ _ => oo
      rename LvAt _ _ => ll
      obtain ⟨to, rfl⟩ := oo
      rename News _ _ _ _ => N₀
      refine JCon.upd (law_symbols_ok w j c ws ns kc hjc hw h1 h4 n tn hn (by omega) true (d + 1 + 8 * i + 1 + 1) (by omega)) (by assumption) (by assumption) (by assumption) (by assumption) rfl rfl (by (try dsimp only); omega) N₀ (by k_mem) (by k_mem) hjc (by assumption) ?_
      rintro _ h₅ tk₅ a₅ t₅ b₅ u₅ k₅ ex₅ hb₅ ⟨T, ys, rfl, hys, hT⟩ hc₅ hf₅
      refine' ⟨_, ?U, ?_⟩
      case U => k_upd
      intro F N
      have oI₅ : ∀ p ∈ ex₅, p.1 ≠ I := fun p hp e => by have q := hf₅ p hp; rw [e, News.get N₀ (show (I, io) ∈ _ by k_mem)] at q; cases q
      have N : News g L' h₅ ((I, io) :: (_, W.listOf va kk) :: (j, jarO a₅ t₅ b₅ u₅ c k₅) :: (c, W.listOf ws.toArray kc) :: (ex₅ ++ ex)) :=
        News.pick N (List.mem_append_right _ (by k_mem)) (News.pick N (List.mem_append_right _ (by k_mem)) (News.pick N (List.mem_append_right _ (by k_mem)) (News.pick N (List.mem_append_right _ (by k_mem)) (News.app (fun p hp => N p (List.mem_append_left _ hp)) (fun p hp => N p (List.mem_append_right _ (by repeat (first | exact hp | refine List.mem_cons_of_mem _ ?_))))))))
      have oM := tup_off N (List.mem_cons_of_mem _ List.mem_cons_self) (fun p hp => List.mem_cons_of_mem _ (List.mem_cons_of_mem _ (List.mem_cons_of_mem _ (List.mem_cons_of_mem _ hp)))) (List.forall_mem_append.mpr ⟨hc₅, hex⟩)
      try dsimp only at F N ⊢
      k_steps
      refine' Turn.next ?F ?N ?O ?J
      case F => assumption
      case' J => refine ⟨a₅, t₅, b₅, u₅, k₅, _, kk + 1, (?DD, tupO [.ref T, _, .str _ to]) :: (ex₅ ++ ex), _, (by rw [em]; exact store_off rfl (store_off rfl (store_off rfl tmpM_off))), rfl, hb₅.mono (by omega), rows_next (o := ?o1) hex hc₅ hlen hrs hrk hE hys hT (show HeldAt _ (some _) from ll) (fun _ => ⟨_, rfl⟩)⟩
      case N => exact News.pick (by assumption) (by k_mem) (News.pick (by assumption) (by k_mem) (News.pick (by assumption) (by k_mem) (News.pick (by assumption) (by k_mem) (News.pick (by assumption) (by k_mem) fun p hp => News.all (by assumption) p (by repeat (first | exact hp | refine List.mem_cons_of_mem _ ?_))))))
      case O => exact List.forall_mem_cons.mpr ⟨nI, List.forall_mem_cons.mpr ⟨nj, List.forall_mem_cons.mpr ⟨nc, List.forall_mem_cons.mpr ⟨by k_ne, List.forall_mem_append.mpr ⟨oI₅, oI⟩⟩⟩⟩⟩
    | false =>
      k_steps
      rename OutAt _ _ => oo
      obtain ⟨to, rfl⟩ := oo
      rename News _ _ _ _ => N₀
      refine JCon.upd (law_symbols_ok w j c ws ns kc hjc hw h1 h4 n tn hn (by omega) false (d + 1 + 8 * i + 1) (by omega)) (by assumption) (by assumption) (by assumption) (by assumption) rfl rfl (by (try dsimp only); omega) N₀ (by k_mem) (by k_mem) hjc (by assumption) ?_
      rintro _ h₅ tk₅ a₅ t₅ b₅ u₅ k₅ ex₅ hb₅ ⟨T, ys, rfl, hys, hT⟩ hc₅ hf₅
      refine' ⟨_, ?U2, ?_⟩
      case U2 => k_upd
      intro F N
      have oI₅ : ∀ p ∈ ex₅, p.1 ≠ I := fun p hp e => by have q := hf₅ p hp; rw [e, News.get N₀ (show (I, io) ∈ _ by k_mem)] at q; cases q
      have N : News g L' h₅ ((I, io) :: (_, W.listOf va kk) :: (j, jarO a₅ t₅ b₅ u₅ c k₅) :: (c, W.listOf ws.toArray kc) :: (ex₅ ++ ex)) :=
        News.pick N (List.mem_append_right _ (by k_mem)) (News.pick N (List.mem_append_right _ (by k_mem)) (News.pick N (List.mem_append_right _ (by k_mem)) (News.pick N (List.mem_append_right _ (by k_mem)) (News.app (fun p hp => N p (List.mem_append_left _ hp)) (fun p hp => N p (List.mem_append_right _ (by repeat (first | exact hp | refine List.mem_cons_of_mem _ ?_))))))))
      have oM := tup_off N (List.mem_cons_of_mem _ List.mem_cons_self) (fun p hp => List.mem_cons_of_mem _ (List.mem_cons_of_mem _ (List.mem_cons_of_mem _ (List.mem_cons_of_mem _ hp)))) (List.forall_mem_append.mpr ⟨hc₅, hex⟩)
      try dsimp only at F N ⊢
      k_steps
      refine' Turn.next ?F2 ?N2 ?O2 ?J2
      case F2 => assumption
      case' J2 => refine ⟨a₅, t₅, b₅, u₅, k₅, _, kk + 1, (?DD2, tupO [.ref T, _, .str _ to]) :: (ex₅ ++ ex), _, (by rw [em]; exact store_off rfl (store_off rfl (store_off rfl tmpM_off))), rfl, hb₅.mono (by omega), rows_next (o := ?o2) hex hc₅ hlen hrs hrk hE hys hT (show HeldAt _ none from rfl) (fun h => by cases h)⟩
      case N2 => exact News.pick (by assumption) (by k_mem) (News.pick (by assumption) (by k_mem) (News.pick (by assumption) (by k_mem) (News.pick (by assumption) (by k_mem) (News.pick (by assumption) (by k_mem) fun p hp => News.all (by assumption) p (by repeat (first | exact hp | refine List.mem_cons_of_mem _ ?_))))))
      case O2 => exact List.forall_mem_cons.mpr ⟨nI, List.forall_mem_cons.mpr ⟨nj, List.forall_mem_cons.mpr ⟨nc, List.forall_mem_cons.mpr ⟨by k_ne, List.forall_mem_append.mpr ⟨oI₅, oI⟩⟩⟩⟩⟩
  · rintro h tk m₁ _ ⟨a, t, b, u, k, va, kk, ex, rs, hm, rfl, hb, hex, hlen, hrs, hrk, hE⟩ F N
    rw [tmpM_of hm, em] at F
    k_steps
    exact JPost.intro ((_, tupO va.toList) :: ex) (by assumption) (by assumption) (by k_mem) (by k_mem) (hb.mono (by omega)) (List.forall_mem_cons.mpr ⟨by k_mem, fun p hp => by repeat (first | exact hp | refine List.mem_cons_of_mem _ ?_)⟩) (List.forall_mem_cons.mpr ⟨rfl, hex⟩)
      ⟨_, rs, rfl, hrs, hrk, fun h' H => ⟨va.toList, IsTup.of (H _ List.mem_cons_self), hE h' fun p hp => H p (List.mem_cons_of_mem _ hp)⟩⟩
end
section
/-! L1 -/
theorem menu_b {t₁ t₂ t₃ : Tok} : Each (fun v c => ∃ t, v = .int c t) [.int 3 t₁, .int 0 t₂, .int 1 t₃] [3, 0, 1] :=
  .cons ⟨_, rfl⟩ (.cons ⟨_, rfl⟩ (.cons ⟨_, rfl⟩ .nil))
theorem take_one {ws : List Value} {l : List Int} (_ : IntsAre ws (List.take 40 (l ++ [0]))) : 1 ≤ (List.take 40 (l ++ [0])).length := by rw [List.length_take, List.length_append]; simp only [List.length_cons, List.length_nil]; omega
theorem take_forty {ws : List Value} {l : List Int} (_ : IntsAre ws (List.take 40 (l ++ [0]))) : (List.take 40 (l ++ [0])).length ≤ 40 := by rw [List.length_take]; omega
theorem ne_jar {g h : Heap} {L j c : Addr} {news : List (Addr × Obj)} {a b : Int} {t u : Tok} {k kc : Nat} {ws : List Value} {ns : List Int} (N : News g L h news) (hj : (j, jarO a t b u c k) ∈ news) (hc : (c, W.listOf ws.toArray kc) ∈ news) (hw : IntsAre ws ns) : c ≠ j := fun e => by
  subst e
  have e := (N _ hj).1.symm.trans (N _ hc).1
  simp only [jarO, W.listOf, Option.some.injEq, Obj.mk.injEq, Data.seq.injEq] at e
  have e' : [Value.int a t, .int b u, .ref c] = ws := by
    have := congrArg Array.toList e.2.2.1.1
    simpa using this
  subst e'
  cases hw with
  | cons _ _ h => cases h with
    | cons _ _ h => cases h
local macro_rules | `(tactic| walk_at "call ref") => `(tactic| refine Hold.out ?_)
local macro_rules | `(tactic| k_all) => `(tactic| assumption)
local macro_rules | `(tactic| walk_at "exec Assign cons ListComp") => `(tactic| k_dflt (refine LCg.Assign_ListComp_U (F₀ := by k_asm) (by rfl) (by with_unfolding_all rfl) (by with_unfolding_all rfl) (by decide) (by rfl) (by decide) (by rfl) (by rfl) (by rfl) ?_))
local macro_rules | `(tactic| walk_at "eval ListComp") => `(tactic| k_dflt (refine LCg.ListComp_U (F₀ := by k_asm) (by with_unfolding_all rfl) (by decide) (by rfl) (by decide) (by rfl) ?_))
local macro_rules | `(tactic| walk_at "subscriptTail") => `(tactic| (k_here; (with_reducible show wpAny _ _ (subscriptTail (PySem.Expr.BinOp _ _ _ _) _ _ _) _ _ _); k_dflt (refine kba_turn (value' := PySem.Expr.Name (PySem.Str.ofString "_") ⟨0, 0, 0, 0⟩) (fun _ => rfl) ?_)))
local macro_rules | `(tactic| walk_at "CompSrc") => `(tactic| refine Hold.out ?_)
theorem News.four {g h : Heap} {L : Addr} {p0 p1 p2 p3 p4 p5 p6 : Addr × Obj} {ex : List (Addr × Obj)} (N : News g L h (ex ++ [p0, p1, p2, p3, p4, p5, p6])) : News g L h (p0 :: p1 :: p5 :: p6 :: ex) := fun q hq => by
  refine N q ?_
  simp only [List.mem_cons, List.mem_append, List.not_mem_nil, or_false] at hq ⊢
  rcases hq with h | h | h | h | h
  · exact .inr (.inl h)
  · exact .inr (.inr (.inl h))
  · exact .inr (.inr (.inr (.inr (.inr (.inr (.inl h))))))
  · exact .inr (.inr (.inr (.inr (.inr (.inr (.inr h))))))
  · exact .inl h
theorem News.tl {g h : Heap} {L : Addr} {p : Addr × Obj} {l : List (Addr × Obj)} (N : News g L h (p :: l)) : News g L h l := fun q hq => N q (List.mem_cons_of_mem _ hq)
theorem IntsAre.snoc {vs : List Value} {ns : List Int} (x : IntsAre vs ns) (c : Int) (t : Tok) : IntsAre (vs ++ [.int c t]) (ns ++ [c]) := by
  induction x with
  | nil => exact .cons _ _ .nil
  | cons n t _ ih => exact .cons _ _ ih
theorem inC_of {c : Int} (h0 : 0 ≤ c) (h1 : c < 4) : inC c := by
  have h : c = 0 ∨ c = 1 ∨ c = 2 ∨ c = 3 := by omega
  rcases h with rfl | rfl | rfl | rfl
  · exact .inl (.inl rfl)
  · exact .inl (.inr (.inl rfl))
  · exact .inr rfl
  · exact .inl (.inr (.inr rfl))
theorem inC_snoc {ls : List Int} {c : Int} (h : ∀ d ∈ ls, inC d) (k : inC c) : ∀ d ∈ ls ++ [c], inC d := fun d hd => by
  rcases List.mem_append.mp hd with hd | hd
  · exact h d hd
  · rw [List.mem_singleton.mp hd]; exact k
theorem cell_off {g h : Heap} {L j c : Addr} {a b : Int} {t u : Tok} {k : Nat} {p1 p5 p6 : Addr × Obj} {ex : List (Addr × Obj)} {x y : Option Value} (N : News g L h ((j, jarO a t b u c k) :: p1 :: p5 :: p6 :: ex)) (h5 : p5.2.data = .cell x) (h6 : p6.2.data = .cell y) : p5.1 ≠ j ∧ p6.1 ≠ j := by
  have go : ∀ p ∈ (j, jarO a t b u c k) :: p1 :: p5 :: p6 :: ex, ∀ z, p.2.data = .cell z → p.1 ≠ j := fun p hp z hz e => by
    have e1 := (N p hp).1
    rw [e, (N _ List.mem_cons_self).1] at e1
    rw [← Option.some.inj e1] at hz
    cases hz
  exact ⟨go _ (by simp) _ h5, go _ (by simp) _ h6⟩
theorem News.six {g h : Heap} {L : Addr} {p1 p2 p3 p4 p5 p6 : Addr × Obj} {l : List (Addr × Obj)} (N : News g L h (p1 :: p2 :: p3 :: p4 :: p5 :: p6 :: l)) : ∀ p ∈ l, h.get? p.1 = some p.2 := fun p hp => (N p (List.mem_cons_of_mem _ (List.mem_cons_of_mem _ (List.mem_cons_of_mem _ (List.mem_cons_of_mem _ (List.mem_cons_of_mem _ (List.mem_cons_of_mem _ hp))))))).1
theorem News.drop {g h : Heap} {L : Addr} {l : List (Addr × Obj)} (_ : News g L h l) : News g L h [] := News.nil
theorem ite_nt {a b : Prop} (h : b) : if (!true) = true then a else b := h
theorem tup_in {g h : Heap} {L a : Addr} {news : List (Addr × Obj)} {vs : List Value} (N : News g L h news) (hm : (a, tupO vs) ∈ news) : IsTup h a (List.toArray vs) := IsTup.of (N _ hm).1
theorem lst_in {g h : Heap} {L a : Addr} {news : List (Addr × Obj)} {vs : List Value} {k : Nat} (N : News g L h news) (hm : (a, W.listOf (List.toArray vs) k) ∈ news) : h.IsList a (List.toArray vs) := PySem.IsL.isList (N _ hm).1
def fixedRows : List RowD := [⟨[.r, .l .q, .l .o], some .q, .o⟩, ⟨[.l .q, .l .o, .l .q], some .q, .z⟩, ⟨[.f, .l .z, .l .q], some .q, .k⟩]
def fixedChs : List (List Int) := [[1, 1, 1], [0, 0, 1], [1, 0, 1], [0, 0, 1], [0, 0, 2]]
theorem fixed_len : ∀ r ∈ fixedRows, r.ins.length = 3 := List.forall_mem_cons.mpr ⟨rfl, List.forall_mem_cons.mpr ⟨rfl, List.forall_mem_cons.mpr ⟨rfl, List.forall_mem_nil _⟩⟩⟩
theorem fixed_held : ∀ r ∈ fixedRows, ∃ l, r.held = some l := List.forall_mem_cons.mpr ⟨⟨_, rfl⟩, List.forall_mem_cons.mpr ⟨⟨_, rfl⟩, List.forall_mem_cons.mpr ⟨⟨_, rfl⟩, List.forall_mem_nil _⟩⟩⟩
theorem in3 {a b c : Int} (ha : inC a) (hb : inC b) (hc : inC c) : ∀ d ∈ [a, b, c], inC d := List.forall_mem_cons.mpr ⟨ha, List.forall_mem_cons.mpr ⟨hb, List.forall_mem_cons.mpr ⟨hc, List.forall_mem_nil _⟩⟩⟩
theorem inC0 : inC 0 := .inl (.inl rfl)
theorem inC1 : inC 1 := .inl (.inr (.inl rfl))
theorem inC2 : inC 2 := .inr rfl
theorem fixed_old : ∀ c ∈ [(0 : Int), 1, 1], inC c := in3 inC0 inC1 inC1
theorem fixed_chs : ∀ l ∈ fixedChs, l.length = 3 ∧ ∀ c ∈ l, inC c := List.forall_mem_cons.mpr ⟨⟨rfl, in3 inC1 inC1 inC1⟩, List.forall_mem_cons.mpr ⟨⟨rfl, in3 inC0 inC0 inC1⟩, List.forall_mem_cons.mpr ⟨⟨rfl, in3 inC1 inC0 inC1⟩, List.forall_mem_cons.mpr ⟨⟨rfl, in3 inC0 inC0 inC1⟩, List.forall_mem_cons.mpr ⟨⟨rfl, in3 inC0 inC0 inC2⟩, List.forall_mem_nil _⟩⟩⟩⟩⟩
theorem st_in {i : Int} (h0 : 0 ≤ i) (h1 : i < 3) : inB (([3, 0, 1] : List Int).getD i.toNat 0) := by
  have h : i = 0 ∨ i = 1 ∨ i = 2 := by omega
  rcases h with rfl | rfl | rfl
  · exact .inr (.inr rfl)
  · exact .inl rfl
  · exact .inr (.inl rfl)
theorem sub_in {p0 p1 p2 p3 p4 p5 p6 p7 q : Addr × Obj} {l : List (Addr × Obj)} : ∀ p ∈ [p0, p1, p2] ++ (p3 :: p4 :: p5 :: p6 :: p7 :: ((q :: l))), p ∈ q :: p0 :: p1 :: p2 :: p3 :: p4 :: p5 :: p6 :: p7 :: l := fun p hp => by
  simp only [List.mem_cons, List.mem_append, List.not_mem_nil, or_false] at hp ⊢
  rcases hp with (h | h | h) | h | h | h | h | h | h | h <;> simp only [h, true_or, or_true]
/-- the ledger within an inner comprehension -/
def InJ (pre : List (Addr × Obj)) (j c : Addr) (ws : List Value) (kc : Nat) (p5 p6 : Addr × Obj) (_ : Nat) (tl : List (Addr × Obj)) (d i : Nat) (ys : List Value) (nw : List (Addr × Obj)) : Prop :=
  ∃ a t b u k ls, nw = pre ++ (j, jarO a t b u c k) :: (c, W.listOf ws.toArray kc) :: p5 :: p6 :: tl ∧ JB (d + i) a b ∧ IntsAre ys ls ∧ ls.length = i ∧ ∀ c ∈ ls, inC c
/-- the ledger within the changes' comprehension -/
def ChJ (n : Nat) (DL : Addr) (ys0 : List Value) (j c : Addr) (ws : List Value) (kc : Nat) (p5 p6 : Addr × Obj) (ex : List (Addr × Obj)) (d i : Nat) (ys' : List Value) (nw : List (Addr × Obj)) : Prop :=
  ∃ a t b u k lst chs, nw = (DL, LCg.lst ys0) :: (j, jarO a t b u c k) :: (c, W.listOf ws.toArray kc) :: p5 :: p6 :: (lst ++ ex) ∧ JB (d + 3 * i) a b ∧ (∀ p ∈ lst, p.1 ≠ j) ∧ (∀ l ∈ chs, l.length = n ∧ ∀ c ∈ l, inC c) ∧
    ∀ h : Heap, (∀ p ∈ lst, h.get? p.1 = some p.2) → Each (fun v l => ∃ a, v = .ref a ∧ IntList h a l) ys' chs
theorem law_go : PySem.Challenge.rw_on0095_01.Holds := hd (by
  k_go0
  all_goals try k_fold
  k_steps
  refine Hold.in ?_
  rename IntsAre _ (List.take 40 _) => hws
  rename News _ _ _ _ => N0
  have hN1 := take_one hws
  have hN4 := take_forty hws
  have hjc := ne_jar N0 (by k_mem) (by k_mem) hws
  have hb0 : JB 0 0 0 := ⟨Int.le_refl _, by decide, Int.le_refl _, Int.le_refl _⟩
  refine draw_use (by k_asm) (by k_asm) (by k_asm) (by k_asm) rfl rfl (by decide) (by k_asm) (by k_mem) (by k_mem) (by with_reducible assumption) (by with_reducible assumption) (by with_reducible assumption) (by with_reducible assumption) (by with_reducible assumption) (by omega) (by omega) (by omega) ?_
  intro i1 v1 h1 tk1 a1 t1 b1 u1 k1 lo1 hi1 J1
  refine' ⟨_, ?U1, ?_⟩
  case U1 => k_upd
  intro F1 N1
  try dsimp only at F1 N1 ⊢
  try k_sweep
  obtain ⟨n, hn⟩ : ∃ n : Nat, 1 + i1 = (n : Int) := ⟨(1 + i1).toNat, by omega⟩
  k_steps
  refine Hold.in ?_
  refine draw_use (by k_asm) (by k_asm) (by k_asm) (by k_asm) rfl rfl (by decide) (by k_asm) (by k_mem) (by k_mem) (by with_reducible assumption) (by with_reducible assumption) (by with_reducible assumption) (by with_reducible assumption) (by with_reducible assumption) (by omega) (by omega) (by omega) ?_
  intro i2 v2 h2 tk2 a2 t2 b2 u2 k2 lo2 hi2 J2
  refine' ⟨_, ?U2, ?_⟩
  case U2 => k_upd
  intro F2 N2
  try dsimp only at F2 N2 ⊢
  try k_sweep
  k_steps
  refine Hold.in ?_
  rename _ = Data.cell (some (Value.int _ _)) => dS
  rw [hn] at dS ⊢
  refine JCon.upd (law_rows_ok _ _ _ _ _ _ hjc hws hN1 hN4 n _ (by omega) (by omega) (i2 != 3) 2 (by omega)) (by k_asm) (by k_asm) (by k_asm) (by k_asm) rfl rfl (by decide) (by k_asm) (by k_mem) (by k_mem) hjc J2 ?_
  rintro _ h₃ tk₃ a₃ t₃ b₃ u₃ k₃ ex J3 ⟨T, rows, rfl, hlen, hkept, hT⟩ hce hf
  refine' ⟨_, ?U3, ?_⟩
  case U3 => k_upd
  intro F N
  have N := News.four N
  have oj := tup_off N List.mem_cons_self (fun p hp => List.mem_cons_of_mem _ (List.mem_cons_of_mem _ (List.mem_cons_of_mem _ (List.mem_cons_of_mem _ hp)))) hce
  have hcell := cell_off N (by assumption) (by assumption)
  try dsimp only at F N oj hcell ⊢
  k_steps
  refine Hold.in ?_
  refine draw_use (by k_asm) (by k_asm) (by k_asm) (by k_asm) rfl rfl (by decide) (by k_asm) (by k_mem) (by k_mem) (by with_reducible assumption) (by with_reducible assumption) (by with_reducible assumption) (by with_reducible assumption) (by with_reducible assumption) (by omega) (by omega) (by omega) ?_
  intro i3 v3 h3 tk3 a3 t3 b3 u3 k3 lo3 hi3 J3
  refine' ⟨_, ?U3, ?_⟩
  case U3 => k_upd
  intro F3 N3
  try dsimp only at F3 N3 ⊢
  try k_sweep
  k_steps
  refine Hold.in ?_
  rename News _ _ _ _ => N4
  have N4 := News.tl N4
  refine comp_jar (fun i ys nw => ∃ a t b u k, nw = (_, jarO a t b u _ k) :: (_, W.listOf (List.toArray _) _) :: (_, _) :: (_, _) :: ex ∧ JB (2 + 49 + 1 + i) a b ∧ ∃ ls : List Int, IntsAre ys ls ∧ ls.length = i ∧ ∀ c ∈ ls, inC c)
    (by assumption) (by omega) (by assumption) N4 rfl ⟨_, _, _, _, _, rfl, by assumption, [], .nil, rfl, List.forall_mem_nil _⟩ ?_ ?_
  · rintro i t₁ I oI C oC D m₂ ys _ h tk hi hC hx ⟨a, t, b, u, k, rfl, hb, ls, hls, hll, hlc⟩ F N off ne
    have off' := off
    simp only [LCg.Off3] at off'
    k_steps
    refine Hold.in ?_
    refine draw_use (by k_asm) (by k_asm) (by k_asm) (by k_asm) rfl rfl (by decide) (by k_asm) (by k_mem) (by k_mem) (by with_reducible assumption) (by with_reducible assumption) (by with_reducible assumption) (by with_reducible assumption) (by with_reducible assumption) (by omega) (by omega) (by omega) ?_
    intro i5 v5 h5 tk5 a5 t5 b5 u5 k5 lo5 hi5 J5
    refine' ⟨_, ?U5, ?_⟩
    case U5 => k_upd
    intro F5 N5
    try dsimp only at F5 N5 ⊢
    try k_sweep
    exact ElJ.intro F5 N5 (fun p hp => hp) (by exact off) ⟨_, _, _, _, _, rfl, J5.mono (by omega), ls ++ [i5], IntsAre.snoc hls _ _, by rw [List.length_append, hll]; rfl, inC_snoc hlc (inC_of lo5 hi5)⟩
  · rintro h ys _ ⟨a, t, b, u, k, rfl, hb, ls, hls, hll, hlc⟩
    intro DL hL tkL FL NL oL
    dsimp only [LCg.Off1] at FL NL oL ⊢
    k_sweep
    obtain ⟨oL1, oL2, oL3, oL4, oL5⟩ := oL
    k_steps
    refine Hold.in ?_
    refine draw_use (by k_asm) (by k_asm) (by k_asm) (by k_asm) rfl rfl (by decide) (by k_asm) (by k_mem) (by k_mem) (by with_reducible assumption) (by with_reducible assumption) (by with_reducible assumption) (by with_reducible assumption) (by with_reducible assumption) (by omega) (by omega) (by omega) ?_
    intro i4 v4 h4 tk4 a4 t4 b4 u4 k4 lo4 hi4 J4
    refine' ⟨_, ?U4, ?_⟩
    case U4 => k_upd
    intro F4 N4
    try dsimp only at F4 N4 ⊢
    try k_sweep
    obtain ⟨q, rfl⟩ := Int.eq_ofNat_of_zero_le lo4
    have hn3 : n ≤ 3 := by omega
    k_steps
    refine Hold.in ?_
    rename News _ _ _ _ => N6
    refine comp_jar (ChJ n DL ys _ _ _ _ _ _ ex (2 + 49 + 1 + n + 1)) (by assumption) (by omega) (by assumption) N6 rfl ⟨_, _, _, _, _, [], [], rfl, by assumption, List.forall_mem_nil _, List.forall_mem_nil _, fun _ _ => .nil⟩ ?_ ?_
    · rintro i t₁ I oI C oC D m₂ ys' _ h tk hi hC hx ⟨a, t, b, u, k, lst, chs, rfl, hb, hlj, hch, hE⟩ F N off ne
      have off' := off
      simp only [LCg.Off3] at off'
      k_steps
      refine Hold.in ?_
      rename News _ _ _ _ => N7
      have olj := List.forall_mem_append.mpr ⟨hlj, oj⟩
      refine comp_jar (InJ [_, _, _, _] _ _ _ _ _ _ 0 (lst ++ ex) (2 + 49 + 1 + n + 1 + 3 * i)) (by assumption) (by omega) (by assumption) N7 rfl ⟨_, _, _, _, _, [], rfl, hb, .nil, rfl, List.forall_mem_nil _⟩ ?_ ?_
      · rintro i2 t₁ I2 oI2 C2 oC2 D2 m₂2 ys2 _ h tk hi2 hC2 hx2 ⟨a, t, b, u, k, ls2, rfl, hb, hls2, hll2, hlc2⟩ F N off2 ne2
        have off2' := off2
        dsimp only [List.cons_append, List.nil_append] at N off2 off2' ⊢
        simp only [LCg.Off3] at off2'
        k_steps
        refine Hold.in ?_
        have hj2 := off2'.2.2.2.2.1
        have hj := off'.2.1
        refine draw_use (by k_asm) (by k_asm) (by k_asm) (by k_asm) rfl rfl (by decide) (by k_asm) (by k_mem) (by k_mem) (by with_reducible assumption) (by with_reducible assumption) (by with_reducible assumption) (by with_reducible assumption) (by with_reducible assumption) (by omega) (by omega) (by omega) ?_
        intro i7 v7 h7 tk7 a7 t7 b7 u7 k7 lo7 hi7 J7
        refine ⟨_, Upd.tail (Ne.symm hj2.1) (Upd.tail (Ne.symm hj2.2.1) (Upd.tail (Ne.symm hj2.2.2) (Upd.tail (Ne.symm hj.1) (Upd.tail (Ne.symm hj.2.1) (Upd.tail (Ne.symm hj.2.2) (Upd.tail (Ne.symm oL1) (Upd.head (List.forall_mem_cons.mpr ⟨hjc, List.forall_mem_cons.mpr ⟨hcell.1, List.forall_mem_cons.mpr ⟨hcell.2, olj⟩⟩⟩)))))))), ?_⟩
        intro F7 N7
        try dsimp only at F7 N7 ⊢
        try k_sweep
        exact ElJ.intro F7 N7 (fun p hp => hp) (by exact off2) ⟨_, _, _, _, _, ls2 ++ [i7], rfl, J7.mono (by omega), IntsAre.snoc hls2 _ _, by rw [List.length_append, hll2]; rfl, inC_snoc hlc2 (inC_of lo7 hi7)⟩
      · rintro h2 ys2 _ ⟨a, t, b, u, k, ls2, rfl, hb2, hls2, hll2, hlc2⟩
        intro D2 h3 tk3 F3 N3 o3
        dsimp only [List.cons_append, List.nil_append, LCg.Off1] at F3 N3 o3 ⊢
        exact ElJ.intro F3 N3 sub_in ⟨off.1, off.2.1, off.2.2.1, off.2.2.2.1, off.2.2.2.2.1, ⟨Ne.symm o3.1, Ne.symm o3.2.1, Ne.symm o3.2.2.1⟩, off.2.2.2.2.2⟩
          ⟨a, t, b, u, k, (D2, LCg.lst ys2) :: lst, chs ++ [ls2], rfl, hb2.mono (by omega), List.forall_mem_cons.mpr ⟨fun e => o3.2.2.2.2.1 e.symm, hlj⟩, fun l hl => (by
            rcases List.mem_append.mp hl with hl | hl
            · exact hch l hl
            · rw [List.mem_singleton.mp hl]; exact ⟨hll2, hlc2⟩), fun h' H => (hE h' fun p hp => H p (List.mem_cons_of_mem _ hp)).snoc ⟨D2, rfl, ys2, PySem.IsL.isList (n := ys2.length) (H _ List.mem_cons_self), hls2⟩⟩
    · rintro h ys' _ ⟨a, t, b, u, k, lst, chs, rfl, hb, hlj, hch, hE⟩
      intro DC hC tkC FC NC oC
      dsimp only [LCg.Off1] at FC NC oC ⊢
      k_sweep
      k_steps
      refine Hold.in ?_
      rename News _ _ _ _ => N8
      have NT := News.six N8
      have q1 : IntList hC DL ls := ⟨ys, PySem.IsL.isList (n := ys.length) (N8 _ (List.mem_cons_of_mem _ List.mem_cons_self)).1, hls⟩
      have q2 : hC.IsList DC (List.toArray ys') := PySem.IsL.isList (n := ys'.length) (N8 _ List.mem_cons_self).1
      have q3 : TableAt hC T rows := hT hC fun p hp => NT p (List.mem_append_right _ hp)
      have q4 := hE hC fun p hp => NT p (List.mem_append_left _ hp)
      have CR := fun u => law_run_ok ‹World› T DL DC rows ls chs _ n tk1 u (i2 != 3) hll.symm hlen hkept (by omega) (st_in lo3 hi3) hlc hch
      refine PCon.use (CR _) (by k_asm) (by k_asm) (by k_asm) (by k_asm) rfl rfl (by decide) ⟨q3, q1, ys', q2, q4⟩ ?_
      rintro _ h₉ tk₉ F K rfl
      have N := News.drop (News.kept N8 K)
      k_sweep
      clear CR q4 q3 q2 q1 NT oC K hE hch hlj hb hlen hkept hT hce hf oj hcell
      refine wpAny_truthy_bool ?_
      try dsimp only
      refine ite_nt ?_
      refine wpAny_execs_nil ?_
      try dsimp only
      refine wpAny_execs_cons ?_
      k_steps
      refine Hold.in ?_
      rename News _ _ _ _ => N9
      refine PCon.use (law_run_ok _ _ _ _ fixedRows [0, 1, 1] fixedChs 3 3 _ _ true rfl fixed_len (fun _ => fixed_held) (by decide) (.inr (.inr rfl)) fixed_old fixed_chs) (by k_asm) (by k_asm) (by k_asm) (by k_asm) rfl rfl (by decide) ?PR ?_
      case PR =>
        refine ⟨⟨_, tup_in N9 (by k_mem), .cons ⟨_, _, _, _, rfl, tup_in N9 (by k_mem), ⟨_, tup_in N9 (by k_mem), .cons ⟨_, rfl⟩ (.cons ⟨_, rfl⟩ (.cons ⟨_, rfl⟩ .nil))⟩, ⟨_, rfl⟩⟩ (.cons ⟨_, _, _, _, rfl, tup_in N9 (by k_mem), ⟨_, tup_in N9 (by k_mem), .cons ⟨_, rfl⟩ (.cons ⟨_, rfl⟩ (.cons ⟨_, rfl⟩ .nil))⟩, ⟨_, rfl⟩⟩ (.cons ⟨_, _, _, _, rfl, tup_in N9 (by k_mem), ⟨_, tup_in N9 (by k_mem), .cons ⟨_, rfl⟩ (.cons ⟨_, rfl⟩ (.cons ⟨_, rfl⟩ .nil))⟩, ⟨_, rfl⟩⟩ .nil))⟩,
          ⟨_, lst_in N9 (by k_mem), .cons _ _ (.cons _ _ (.cons _ _ .nil))⟩, _, lst_in N9 (by k_mem), ?_⟩
        refine .cons ⟨_, rfl, _, lst_in N9 (by k_mem), .cons _ _ (.cons _ _ (.cons _ _ .nil))⟩ (.cons ⟨_, rfl, _, lst_in N9 (by k_mem), .cons _ _ (.cons _ _ (.cons _ _ .nil))⟩ (.cons ⟨_, rfl, _, lst_in N9 (by k_mem), .cons _ _ (.cons _ _ (.cons _ _ .nil))⟩ (.cons ⟨_, rfl, _, lst_in N9 (by k_mem), .cons _ _ (.cons _ _ (.cons _ _ .nil))⟩ (.cons ⟨_, rfl, _, lst_in N9 (by k_mem), .cons _ _ (.cons _ _ (.cons _ _ .nil))⟩ .nil))))
      rintro _ h₁₀ tk₁₀ F K rfl
      have N := News.drop (News.kept N9 K)
      k_sweep
      k_steps)
end
end Mine
theorem PySem.Challenge.cw_on0095_01_holds : PySem.Challenge.rw_on0095_01.Holds := by
  exact Mine.law_go
