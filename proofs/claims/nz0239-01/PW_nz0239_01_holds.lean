import PyProof.Rows.All
import Wide.All
import OpenK.AllK
import Wide.FinOn
import Lean
import PySem.Challenge.RW_nz0239_01
set_option Elab.async false
set_option compiler.extract_closed false

section
-- HD
open PySem PySem.W PyProof.Rows
set_option maxRecDepth 100000
set_option maxHeartbeats 400000000
namespace Mine
open_top hd for PySem.Challenge.rw_nz0239_01
end Mine
end

open PySem PySem.W PyProof.Rows PySem.Spec PySem.Calls
open Mine

section
-- LB
set_option maxRecDepth 100000
set_option maxHeartbeats 400000000
namespace Mine

section loops
variable {prog : Program} {w : World} {A : Around} {E : Value → Shared → Prop} {s : Shared} {env : Env} {h₀ : Heap} {x : Str} {body : List Stmt} {Q : Flow → Shared → Prop}

/-- what a turn leaves: the iterator as it was, a ledger that J tells -/
def EndJ (h₀ : Heap) (L I : Addr) (oI : Obj) (J : (Str → Option Value) → List (Addr × Obj) → Prop) (s₁ s₂ : Shared) : Prop :=
  ∃ h' tk m' nx, s₂ = { s₁ with heap := h', toks := tk } ∧ Fr h₀ L h' m' ∧ News h₀ L h' ((I, oI) :: nx) ∧ (∀ p ∈ nx, p.1 ≠ I) ∧ J m' nx
def TurnJ (h₀ : Heap) (L I : Addr) (oI : Obj) (J : (Str → Option Value) → List (Addr × Obj) → Prop) (s₁ : Shared) (Q : Flow → Shared → Prop) (f : Flow) (s₂ : Shared) : Prop :=
  match f with
  | .ret v => Q (.ret v) s₂
  | .brk => Q .next s₂
  | .next => EndJ h₀ L I oI J s₁ s₂
  | .cont => EndJ h₀ L I oI J s₁ s₂

theorem loop_J {I : Addr} {n : Nat} {P : Nat → Value → Prop} {St : Nat → Heap → Prop} {m₀ : Str → Option Value} {news : List (Addr × Obj)} (src : List (Addr × Obj))
    (J : Nat → (Str → Option Value) → List (Addr × Obj) → Prop) (W : Walks prog w A I (I :: src.map (·.1)) [I] n P St) (hIo : ∀ i h, St i h → ∃ o, h.get? I = some o)
    (hLI : env.locals ≠ I) (hLs : ∀ p ∈ src, p.1 ≠ env.locals) (hI0 : h₀.get? I = none) (off : ∀ p ∈ news, p.1 ≠ I) (hst : St 0 s.heap) (F : Fr h₀ env.locals s.heap m₀) (N : News h₀ env.locals s.heap news)
    (hsrc : ∀ i m nx, J i m nx → ∀ p ∈ src, p ∈ nx) (hj : J 0 m₀ news)
    (turn : ∀ i v m₁ nx h tk oI, i < n → P i v → J i m₁ nx → (∀ p ∈ nx, p.1 ≠ I) → Fr h₀ env.locals h (fun y => if y = x then some v else m₁ y) → News h₀ env.locals h ((I, oI) :: nx) →
      wpAny (model prog w) A (execs body env) (TurnJ h₀ env.locals I oI (J (i + 1)) { s with heap := h, toks := tk } Q) E { s with heap := h, toks := tk })
    (done : ∀ m₁ nx h tk, J n m₁ nx → Fr h₀ env.locals h m₁ → News h₀ env.locals h nx → Q .next { s with heap := h, toks := tk }) :
    LoopAtV prog w A h₀ env x body Q E (.ref I) s := by
  refine ⟨I, I :: src.map (·.1), [I], n, P, St, m₀, news, J, rfl, W, ?_, ?_, ?_, hst, F, N, hj, ?_, ?_⟩
  · intro hm
    rcases List.mem_cons.mp hm with e | hm
    · exact hLI e
    · obtain ⟨p, hp, e⟩ := List.mem_map.mp hm
      exact hLs p hp e
  · intro b hb
    rw [List.mem_singleton.mp hb]; exact hI0
  · intro p hp hm
    exact off p hp (List.mem_singleton.mp hm)
  · rintro i v m₁ news₁ s₁ own ⟨h, tk, rfl⟩ hi hP hJ hoff hown hget hmem hst' F₁ N₁
    obtain ⟨oI, hoI⟩ := hIo _ _ hst'
    have hIown : (I, oI) ∈ own := hmem I (List.mem_cons_self ..) hI0 oI hoI
    have N₂ : News h₀ env.locals h ((I, oI) :: news₁) := fun p hp => by
      rcases List.mem_cons.mp hp with rfl | hp
      · exact N₁ _ (List.mem_append.mpr (.inl hIown))
      · exact N₁ _ (List.mem_append.mpr (.inr hp))
    refine wpAny_mono (turn i v m₁ news₁ h tk oI hi hP hJ (fun p hp e => hoff p hp (by rw [e]; exact List.mem_singleton.mpr rfl)) F₁ N₂) (fun f s₂ p => ?_) fun _ _ e => e
    have fin : EndJ h₀ env.locals I oI (J (i + 1)) { s with heap := h, toks := tk } s₂ → LoopStepU h₀ env.locals [I] own (J (i + 1)) { s with heap := h, toks := tk } .next s₂ := by
      rintro ⟨h', tk', m', nx, e, F', N', ho, hJ'⟩
      refine ⟨rfl, h', tk', m', nx, e, F', fun p hp => ?_, fun p hp hq => ho p hp (List.mem_singleton.mp hq), hJ'⟩
      rcases List.mem_append.mp hp with hp | hp
      · have g := hget p hp
        rcases List.mem_cons.mp (hown p hp) with e1 | e1
        · have : p = (I, oI) := by
            obtain ⟨a, o⟩ := p
            simp only at e1 g
            subst e1
            rw [hoI] at g
            cases g; rfl
          rw [this]; exact N' _ (List.mem_cons_self ..)
        · obtain ⟨q, hq, e2⟩ := List.mem_map.mp e1
          have hq1 := (N₂ q (List.mem_cons_of_mem _ (hsrc _ _ _ hJ q hq))).1
          have : p = q := by
            obtain ⟨a, o⟩ := p
            obtain ⟨b, o'⟩ := q
            simp only at e2 g hq1
            subst e2
            have g' : h.get? b = some o := g
            rw [hq1] at g'
            cases g'; rfl
          rw [this]; exact N' _ (List.mem_cons_of_mem _ (hsrc _ _ _ hJ' q hq))
      · exact N' _ (List.mem_cons_of_mem _ hp)
    cases f with
    | ret v => exact .ret p
    | brk => exact .brk p
    | next => exact .next (fin p)
    | cont => exact .cont (fin p)
  · rintro h' tk m' news' F' N' _ hJ
    exact done m' news' h' tk hJ F' N'

/-- a for's loop, its source evaluated -/
def LoopIn (prog : Program) (w : World) (A : Around) (h₀ : Heap) (env : Env) (x : Str) (body : List Stmt) (Q : Flow → Shared → Prop) (E : Value → Shared → Prop) (xv : Value) (s₁ : Shared) : Prop :=
  wpAny (model prog w) A (pyIter xv) (fun it s₂ => LoopAtV prog w A h₀ env x body Q E it s₂) E s₁

theorem For_J {iter : PySem.Expr} {px pos : Pos} {m : Str → Option Value} (_F : Fr h₀ env.locals s.heap m) (hx : env.kindOf x = some .local)
    (hp : (env.scope.kind == .class || (env.scope.kind == .module && env.locals != env.globals)) = false)
    (h : wpAny (model prog w) A (eval iter env) (fun xv s₁ => LoopIn prog w A h₀ env x body Q E xv s₁) E s)
    (hs : ∀ x, foldedSetIterable iter env x = pure x := by intro _; rfl)
    (hE : PassesOwn (model prog w) A env E := by passes_own) :
    wpAny (model prog w) A (exec (.For (.Name x px) iter body [] pos) env) Q E s := For_invV h₀ hx hp h hs hE

theorem range_J {r : Addr} {b₀ : Int} {t₀ u₀ v₀ : Tok} {n : Nat} {m₀ : Str → Option Value} {news : List (Addr × Obj)} (J : Nat → (Str → Option Value) → List (Addr × Obj) → Prop)
    (hh : A.handled = none) (hr : IsRange s.heap r 0 b₀ 1 t₀ u₀ v₀) (hb : b₀ = (n : Int)) (hn : n < 2 ^ 62) (F : Fr h₀ env.locals s.heap m₀) (N : News h₀ env.locals s.heap news) (hj : J 0 m₀ news)
    (turn : ∀ (i : Nat) (t : Tok) m₁ nx h tk I oI, i < n → J i m₁ nx → (∀ p ∈ nx, p.1 ≠ I) → Fr h₀ env.locals h (fun y => if y = x then some (.int (i : Int) t) else m₁ y) → News h₀ env.locals h ((I, oI) :: nx) →
      wpAny (model prog w) A (execs body env) (TurnJ h₀ env.locals I oI (J (i + 1)) { s with heap := h, toks := tk } Q) E { s with heap := h, toks := tk })
    (done : ∀ m₁ nx h tk, J n m₁ nx → Fr h₀ env.locals h m₁ → News h₀ env.locals h nx → Q .next { s with heap := h, toks := tk }) :
    LoopIn prog w A h₀ env x body Q E (.ref r) s := by
  subst hb
  have hsz : Builtin.Range.rangeSize 0 (n : Int) 1 = (n : Int) := by rw [rangeSize_nat]; omega
  refine wpAny_pyIter_range hr (small_one (by omega) (by omega) (by omega) (by omega)) ?_
  have W : Walks prog w A s.heap.objs.size [s.heap.objs.size] [s.heap.objs.size] n (fun i v => ∃ t, v = .int (0 + i * 1) t)
      (fun i h => IsRangeIter h s.heap.objs.size (0 + (i : Nat) * 1) ((n : Int) - (i : Nat)) 1) := Walks.range hh _ 0 1 n
  refine loop_J [] J W (fun i h hi => ⟨_, hi⟩) (Nat.ne_of_lt F.ns.lt) (fun p hp => nomatch hp) (next_is_new F) (fun p hp => Nat.ne_of_lt (Heap.lt_size (N p hp).1))
    (by show IsRangeIter _ _ _ _ _; rw [hsz]; simpa using Heap.get?_push_size _ rfl) (F.push _) (fun p hp => ⟨Heap.get?_push_of_some _ (N p hp).1, (N p hp).2⟩) (fun _ _ _ _ p hp => nomatch hp) hj ?_ ?_
  · rintro i v m₁ nx h tk oI hi ⟨t, rfl⟩ hJ off F₁ N₁
    have e1 : (0 : Int) + (i : Int) * 1 = (i : Int) := by omega
    rw [e1] at F₁
    exact turn i t m₁ nx h tk _ oI hi hJ off F₁ N₁
  · exact done

theorem tuple_J {ax : Addr} {o : Obj} {vs : List Value} {k : Nat} {m₀ : Str → Option Value} {news : List (Addr × Obj)} (J : Nat → (Str → Option Value) → List (Addr × Obj) → Prop)
    (hh : A.handled = none) (hm : ∀ i m nx, J i m nx → (ax, o) ∈ nx) (hc : o.cls = .type "tuple") (hd : o.data = .seq (List.toArray vs) k) (F : Fr h₀ env.locals s.heap m₀) (N : News h₀ env.locals s.heap news) (hj : J 0 m₀ news)
    (turn : ∀ (i : Nat) (v : Value) m₁ nx h tk I oI, vs[i]? = some v → J i m₁ nx → (∀ p ∈ nx, p.1 ≠ I) → Fr h₀ env.locals h (fun y => if y = x then some v else m₁ y) → News h₀ env.locals h ((I, oI) :: nx) →
      wpAny (model prog w) A (execs body env) (TurnJ h₀ env.locals I oI (J (i + 1)) { s with heap := h, toks := tk } Q) E { s with heap := h, toks := tk })
    (done : ∀ m₁ nx h tk, J vs.length m₁ nx → Fr h₀ env.locals h m₁ → News h₀ env.locals h nx → Q .next { s with heap := h, toks := tk }) :
    LoopIn prog w A h₀ env x body Q E (.ref ax) s := by
  have hax := N _ (hm _ _ _ hj)
  have hl : s.heap.IsTuple ax (List.toArray vs) := ⟨o, hax.1, hc, k, hd⟩
  have hne : ax ≠ s.heap.objs.size := Nat.ne_of_lt (Heap.lt_size hax.1)
  refine wpAny_pyIter_tuple hl ?_
  have W := Walks.tuple (prog := prog) (w := w) hh s.heap.objs.size ax hne (List.toArray vs)
  have hsz : (List.toArray vs).size = vs.length := by simp
  rw [hsz] at W
  refine loop_J [(ax, o)] J W (fun i h hi => ?_) (Nat.ne_of_lt F.ns.lt) (fun p hp => ?_) (next_is_new F) (fun p hp => Nat.ne_of_lt (Heap.lt_size (N p hp).1))
    ⟨⟨_, Heap.get?_push_size _ rfl, rfl, rfl⟩, hl.at fun o e => Heap.get?_push_of_some _ e⟩ (F.push _) (fun p hp => ⟨Heap.get?_push_of_some _ (N p hp).1, (N p hp).2⟩) (fun i m nx hJ p hp => ?_) hj ?_ ?_
  · obtain ⟨it, hit, _⟩ := hi.1
    exact ⟨it, hit⟩
  · rw [List.mem_singleton.mp hp]; exact hax.2.1
  · rw [List.mem_singleton.mp hp]; exact hm _ _ _ hJ
  · rintro i v m₁ nx h tk oI hi hP hJ off F₁ N₁
    have hP' : (List.toArray vs)[i]? = some v := hP
    exact turn i v m₁ nx h tk _ oI (by simpa using hP') hJ off F₁ N₁
  · exact done

theorem list_J {ax : Addr} {o : Obj} {vs : List Value} {k : Nat} {m₀ : Str → Option Value} {news : List (Addr × Obj)} (J : Nat → (Str → Option Value) → List (Addr × Obj) → Prop)
    (hh : A.handled = none) (hm : ∀ i m nx, J i m nx → (ax, o) ∈ nx) (hc : o.cls = .type "list") (hd : o.data = .seq (List.toArray vs) k) (F : Fr h₀ env.locals s.heap m₀) (N : News h₀ env.locals s.heap news) (hj : J 0 m₀ news)
    (turn : ∀ (i : Nat) (v : Value) m₁ nx h tk I oI, vs[i]? = some v → J i m₁ nx → (∀ p ∈ nx, p.1 ≠ I) → Fr h₀ env.locals h (fun y => if y = x then some v else m₁ y) → News h₀ env.locals h ((I, oI) :: nx) →
      wpAny (model prog w) A (execs body env) (TurnJ h₀ env.locals I oI (J (i + 1)) { s with heap := h, toks := tk } Q) E { s with heap := h, toks := tk })
    (done : ∀ m₁ nx h tk, J vs.length m₁ nx → Fr h₀ env.locals h m₁ → News h₀ env.locals h nx → Q .next { s with heap := h, toks := tk }) :
    LoopIn prog w A h₀ env x body Q E (.ref ax) s := by
  have hax := N _ (hm _ _ _ hj)
  have hl : s.heap.IsList ax (List.toArray vs) := ⟨o, hax.1, hc, k, hd⟩
  have hne : ax ≠ s.heap.objs.size := Nat.ne_of_lt (Heap.lt_size hax.1)
  refine wpAny_pyIter_list hl ?_
  have W := Walks.list (prog := prog) (w := w) hh s.heap.objs.size ax hne (List.toArray vs)
  have hsz : (List.toArray vs).size = vs.length := by simp
  rw [hsz] at W
  refine loop_J [(ax, o)] J W (fun i h hi => ?_) (Nat.ne_of_lt F.ns.lt) (fun p hp => ?_) (next_is_new F) (fun p hp => Nat.ne_of_lt (Heap.lt_size (N p hp).1))
    ⟨⟨_, Heap.get?_push_size _ rfl, rfl, rfl⟩, hl.at fun o e => Heap.get?_push_of_some _ e⟩ (F.push _) (fun p hp => ⟨Heap.get?_push_of_some _ (N p hp).1, (N p hp).2⟩) (fun i m nx hJ p hp => ?_) hj ?_ ?_
  · obtain ⟨it, hit, _⟩ := hi.1
    exact ⟨it, hit⟩
  · rw [List.mem_singleton.mp hp]; exact hax.2.1
  · rw [List.mem_singleton.mp hp]; exact hm _ _ _ hJ
  · rintro i v m₁ nx h tk oI hi hP hJ off F₁ N₁
    have hP' : (List.toArray vs)[i]? = some v := hP
    exact turn i v m₁ nx h tk _ oI (by simpa using hP') hJ off F₁ N₁
  · exact done
end loops

section comps
variable {prog : Program} {w : World} {A : Around} {s : Shared} {h₀ : Heap} {L : Addr} {m : Str → Option Value} {env : Env} {elt : PySem.Expr} {x : Str} {scope : Scope} {cl : List (Str × Addr)} {S : List (Addr × Obj) → Prop} {P : Nat → Value → Prop} {Fin : List Value → List (Addr × Obj) → Prop}

theorem comp_J {n : Nat} (J : Nat → List Value → List (Addr × Obj) → Prop)
    (step : ∀ i ys nx v I oI C oC D m₂ h tk (E' : Value → Shared → Prop), i < n → P i v → J i ys nx → LCg.NsObj oC m₂ → m₂ x = some v → Fr h₀ L h m → News h₀ L h ((I, oI) :: (C, oC) :: (D, LCg.lst ys) :: nx) → LCg.Off3 I C D nx → ((@Ne Nat I C) ∧ (@Ne Nat I D) ∧ (@Ne Nat C D)) →
      wpAny (model prog w) A (eval elt (compEnvC scope cl C env)) (LCg.CompEnd h₀ L m { s with heap := h, toks := tk } I oI C oC D (LCg.lst ys) S (fun y nx' => J (i + 1) (ys ++ [y]) nx')) E' { s with heap := h, toks := tk })
    (fin : ∀ ys nx, J n ys nx → Fin ys nx) : ∀ k i ys nx, i + k = n → J i ys nx → LCg.CompRest prog w A h₀ L m env elt x scope cl s S P Fin k i ys nx := by
  intro k
  induction k with
  | zero => intro i ys nx e hJ; exact LCg.CompRest.zero (fin ys nx (by rw [← e]; exact hJ))
  | succ k ih =>
    intro i ys nx e hJ
    refine LCg.CompRest.succ fun v I oI C oC D m₂ h tk E' hP hC hx F N off ne => ?_
    refine wpAny_mono (step i ys nx v I oI C oC D m₂ h tk E' (by omega) hP hJ hC hx F N off ne) (fun y s₂ r => ?_) fun _ _ e => e
    obtain ⟨h', tk', nx', e', F', N', off', hS, hJ'⟩ := r
    exact ⟨h', tk', nx', e', F', N', off', hS, ih (i + 1) _ _ (by omega) hJ'⟩

/-- a comprehension, its source evaluated -/
def CompIn (prog : Program) (w : World) (A : Around) (h₀ : Heap) (L : Addr) (m : Str → Option Value) (env : Env) (elt : PySem.Expr) (x : Str) (scope : Scope) (cl : List (Str × Addr)) (Fin : Shared → List Value → List (Addr × Obj) → Prop) (xv : Value) (s₁ : Shared) : Prop :=
  LCg.CompSrc prog w A h₀ L m env elt x scope cl Fin xv s₁

theorem ListComp_J {E : Value → Shared → Prop} {iter : PySem.Expr} {px : Pos} {pos : Pos} {Q : Value → Shared → Prop} (F₀ : Fr h₀ L s.heap m)
    (hclos : closureFor scope env = pure cl) (hcell : ∀ y ∈ scope.names, y.2 ≠ .cell) (hkind : scope.kind = .function)
    (hnames : ∀ y ∈ scope.names, y.2 = .local → scope.names.lookup y.1 = some .local) (hx : scope.names.lookup x = some .local)
    (h : wpAny (model prog w) A (eval iter env) (fun xv s₁ => CompIn prog w A h₀ L m env elt x scope cl (fun s₂ => LCg.FinE h₀ L m s₂ Q) xv s₁) E s)
    (hs : ∀ x, foldedSetIterable iter env x = pure x := by intro _; rfl) :
    wpAny (model prog w) A (eval (.ListComp elt [⟨.Name x px, iter, [], 0⟩] scope pos) env) Q E s := LCg.ListComp_U F₀ hclos hcell hkind hnames hx h hs
/-- over range(n) -/
theorem crange_J {Fin : Shared → List Value → List (Addr × Obj) → Prop} {r : Addr} {b₀ : Int} {t u v : Tok} {n : Nat} {news : List (Addr × Obj)} {s₁ : Shared} (J : Nat → List Value → List (Addr × Obj) → Prop)
    (hh : A.handled = none) (F : Fr h₀ L s₁.heap m) (N : News h₀ L s₁.heap news) (hr : IsRange s₁.heap r 0 b₀ 1 t u v) (hb : b₀ = (n : Int)) (hn : n ≤ sizeLine) (hj : J 0 [] news)
    (step : ∀ (i : Nat) ys nx (t : Tok) I oI C oC D m₂ h tk (E' : Value → Shared → Prop), i < n → J i ys nx → LCg.NsObj oC m₂ → m₂ x = some (.int (i : Int) t) → Fr h₀ L h m → News h₀ L h ((I, oI) :: (C, oC) :: (D, LCg.lst ys) :: nx) → LCg.Off3 I C D nx → ((@Ne Nat I C) ∧ (@Ne Nat I D) ∧ (@Ne Nat C D)) →
      wpAny (model prog w) A (eval elt (compEnvC scope cl C env)) (LCg.CompEnd h₀ L m { s₁ with heap := h, toks := tk } I oI C oC D (LCg.lst ys) (fun _ => True) (fun y nx' => J (i + 1) (ys ++ [y]) nx')) E' { s₁ with heap := h, toks := tk })
    (fin : ∀ g ys nx, J n ys nx → Fin { s₁ with heap := g } ys nx) : CompIn prog w A h₀ L m env elt x scope cl Fin (.ref r) s₁ := by
  subst hb
  have h62 : sizeLine = 2 ^ 24 := rfl
  refine LCg.CompSrc.range hh F N hr (small_one (by omega) (by omega) (by omega) (by omega)) (by rw [rangeSize_nat]; simp) hn ?_
  intro g
  refine comp_J (n := n) J ?_ (fin g) n 0 [] news (by omega) hj
  rintro i ys nx v I oI C oC D m₂ h tk E' hi ⟨t, rfl⟩ hJ hC hx F' N' off ne
  rw [Int.zero_add] at hx
  exact step i ys nx t I oI C oC D m₂ h tk E' hi hJ hC hx F' N' off ne

/-- over a list of the ledger -/
theorem clist_J {Fin : Shared → List Value → List (Addr × Obj) → Prop} {ax : Addr} {vs : List Value} {k : Nat} {news : List (Addr × Obj)} {s₁ : Shared} (J : Nat → List Value → List (Addr × Obj) → Prop)
    (hh : A.handled = none) (F : Fr h₀ L s₁.heap m) (N : News h₀ L s₁.heap news) (hm : (ax, listOf (List.toArray vs) k) ∈ news) (hn : vs.length ≤ sizeLine) (hj : J 0 [] news)
    (step : ∀ (i : Nat) ys nx (v : Value) I oI C oC D m₂ h tk (E' : Value → Shared → Prop), vs[i]? = some v → J i ys nx → LCg.NsObj oC m₂ → m₂ x = some v → Fr h₀ L h m → News h₀ L h ((I, oI) :: (C, oC) :: (D, LCg.lst ys) :: nx) → LCg.Off3 I C D nx → ((@Ne Nat I C) ∧ (@Ne Nat I D) ∧ (@Ne Nat C D)) →
      wpAny (model prog w) A (eval elt (compEnvC scope cl C env)) (LCg.CompEnd h₀ L m { s₁ with heap := h, toks := tk } I oI C oC D (LCg.lst ys) (LCg.SrcAt h₀ ax (List.toArray vs)) (fun y nx' => J (i + 1) (ys ++ [y]) nx')) E' { s₁ with heap := h, toks := tk })
    (fin : ∀ g ys nx, J vs.length ys nx → Fin { s₁ with heap := g } ys nx) : CompIn prog w A h₀ L m env elt x scope cl Fin (.ref ax) s₁ := by
  have hsz : (List.toArray vs).size = vs.length := by simp
  refine LCg.CompSrc.ledger hh F N hm (by rw [hsz]; exact hn) ?_
  intro g
  rw [hsz]
  refine comp_J (n := vs.length) J ?_ (fin g) vs.length 0 [] news (by omega) hj
  rintro i ys nx v I oI C oC D m₂ h tk E' hi hP hJ hC hx F' N' off ne
  have hP' : (List.toArray vs)[i]? = some v := hP
  exact step i ys nx v I oI C oC D m₂ h tk E' (by simpa using hP') hJ hC hx F' N' off ne
end comps
end Mine
end

section
-- LA
set_option maxRecDepth 100000
set_option maxHeartbeats 400000000
namespace Mine
section
variable {prog : Program} {w : World} {A : Around} {E : Value → Shared → Prop} {s : Shared} {env : Env} {h₀ : Heap} {x : Str} {body : List Stmt} {Q : Flow → Shared → Prop}

theorem fr_as {h : Heap} {L : Addr} {m m' : Str → Option Value} (F : Fr h₀ L h m) (e : ∀ y, m y = m' y) : Fr h₀ L h m' := by
  have : m = m' := funext e
  subst this; exact F

/-- one int is kept, the ledger stays -/
def AccJ (x y : Str) (stored : List Str) (m₀ : Str → Option Value) (news : List (Addr × Obj)) (a : Int) (m : Str → Option Value) (nx : List (Addr × Obj)) : Prop :=
  nx = news ∧ (∃ t, m y = some (.int a t)) ∧ ∀ z, z ≠ x → z ≠ y → stored.contains z = false → m z = m₀ z

theorem acc_map {x y : Str} {stored : List Str} {m₀ m₁ : Str → Option Value} {a : Int} {t : Tok} {v : Option Value} (h1 : m₁ y = some (.int a t)) (h2 : ∀ z, z ≠ x → z ≠ y → stored.contains z = false → m₁ z = m₀ z) :
    ∀ z, (if z = x then v else m₁ z) = (if z = x then v else if z = y then some (.int a t) else if stored.contains z then m₁ z else m₀ z) := by
  intro z
  by_cases hx : z = x
  · rw [if_pos hx, if_pos hx]
  · rw [if_neg hx, if_neg hx]
    by_cases hy : z = y
    · rw [if_pos hy, hy, h1]
    · rw [if_neg hy]
      cases h3 : stored.contains z with
      | true => simp
      | false => simp only [Bool.false_eq_true, if_false]; exact h2 z hx hy h3
theorem acc_map' {x y : Str} {stored : List Str} {m₀ m₁ : Str → Option Value} {a : Int} {t : Tok} (h1 : m₁ y = some (.int a t)) (h2 : ∀ z, z ≠ x → z ≠ y → stored.contains z = false → m₁ z = m₀ z) :
    ∀ z, m₁ z = (if z = x then m₁ z else if z = y then some (.int a t) else if stored.contains z then m₁ z else m₀ z) := by
  intro z
  have := acc_map (x := x) (v := m₁ z) h1 h2 z
  by_cases hx : z = x
  · rw [if_pos hx]
  · rw [if_neg hx] at this; exact this

theorem tuple_acc {ax : Addr} {o : Obj} {vs : List Value} {k : Nat} {m₀ : Str → Option Value} {news : List (Addr × Obj)} (y : Str) (stored : List Str) (g : Nat → Int) {t₀ : Tok}
    (hh : A.handled = none) (hm : (ax, o) ∈ news) (hc : o.cls = .type "tuple") (hd : o.data = .seq (List.toArray vs) k) (F : Fr h₀ env.locals s.heap m₀) (N : News h₀ env.locals s.heap news) (hy : m₀ y = some (.int (g 0) t₀))
    (turn : ∀ (i : Nat) (v : Value) t (u : Str → Option Value) h tk I oI, vs[i]? = some v → (∀ p ∈ news, p.1 ≠ I) → Fr h₀ env.locals h (fun z => if z = x then some v else if z = y then some (.int (g i) t) else if stored.contains z then u z else m₀ z) → News h₀ env.locals h ((I, oI) :: news) →
      wpAny (model prog w) A (execs body env) (TurnJ h₀ env.locals I oI (AccJ x y stored m₀ news (g (i + 1))) { s with heap := h, toks := tk } Q) E { s with heap := h, toks := tk })
    (done : ∀ t (u : Str → Option Value) h tk, Fr h₀ env.locals h (fun z => if z = x then u z else if z = y then some (.int (g vs.length) t) else if stored.contains z then u z else m₀ z) → News h₀ env.locals h news → Q .next { s with heap := h, toks := tk }) :
    LoopIn prog w A h₀ env x body Q E (.ref ax) s := by
  refine tuple_J (fun i => AccJ x y stored m₀ news (g i)) hh (fun i m nx hJ => by rw [hJ.1]; exact hm) hc hd F N ⟨rfl, ⟨t₀, hy⟩, fun _ _ _ _ => rfl⟩ ?_ ?_
  · rintro i v m₁ nx h tk I oI hv ⟨rfl, ⟨t, h1⟩, h2⟩ off F₁ N₁
    exact turn i v t m₁ h tk I oI hv off (fr_as F₁ (acc_map h1 h2)) N₁
  · rintro m₁ nx h tk ⟨rfl, ⟨t, h1⟩, h2⟩ F₁ N₁
    exact done t m₁ h tk (fr_as F₁ (acc_map' h1 h2)) N₁

theorem acc_end {I : Addr} {oI : Obj} {L : Addr} {y : Str} {stored : List Str} {m₀ m' : Str → Option Value} {news : List (Addr × Obj)} {a : Int} {s₁ : Shared} {h' : Heap} {tk : Nat} (F : Fr h₀ L h' m') (N : News h₀ L h' ((I, oI) :: news)) (off : ∀ p ∈ news, p.1 ≠ I)
    (hy : ∃ t, m' y = some (.int a t)) (hr : ∀ z, z ≠ x → z ≠ y → stored.contains z = false → m' z = m₀ z) :
    TurnJ h₀ L I oI (AccJ x y stored m₀ news a) s₁ Q .next { s₁ with heap := h', toks := tk } :=
  ⟨h', tk, m', news, rfl, F, N, off, rfl, hy, hr⟩
end

/-- the values of the written tuple (-1, 0, 1) -/
theorem three_vals {t1 t2 t3 : Tok} {i : Nat} {v : Value} (h : ([.int (-1) t1, .int 0 t2, .int 1 t3] : List Value)[i]? = some v) : i < 3 ∧ ∃ t, v = .int ((i : Int) - 1) t := by
  rcases i with _ | _ | _ | i
  · cases h; exact ⟨by omega, _, rfl⟩
  · cases h; exact ⟨by omega, _, rfl⟩
  · cases h; exact ⟨by omega, _, rfl⟩
  · simp at h
end Mine
end

section
-- LT
set_option maxRecDepth 100000
set_option maxHeartbeats 400000000
namespace Mine

section loops
variable {prog : Program} {w : World} {A : Around} {E : Value → Shared → Prop} {s : Shared} {env : Env} {h₀ : Heap} {target : PySem.Expr} {body : List Stmt} {Q : Flow → Shared → Prop}

theorem loop_T {I : Addr} {n : Nat} {P : Nat → Value → Prop} {St : Nat → Heap → Prop} {m₀ : Str → Option Value} {news : List (Addr × Obj)} (src : List (Addr × Obj))
    (J : Nat → (Str → Option Value) → List (Addr × Obj) → Prop) (W : Walks prog w A I (I :: src.map (·.1)) [I] n P St) (hIo : ∀ i h, St i h → ∃ o, h.get? I = some o)
    (hgo : ∀ it v, letOwnedTupleGo target it v = pure ())
    (hLI : env.locals ≠ I) (hLs : ∀ p ∈ src, p.1 ≠ env.locals) (hI0 : h₀.get? I = none) (off : ∀ p ∈ news, p.1 ≠ I) (hst : St 0 s.heap) (F : Fr h₀ env.locals s.heap m₀) (N : News h₀ env.locals s.heap news)
    (hsrc : ∀ i m nx, J i m nx → ∀ p ∈ src, p ∈ nx) (hj : J 0 m₀ news)
    (turn : ∀ i v m₁ nx h tk oI, i < n → P i v → J i m₁ nx → (∀ p ∈ nx, p.1 ≠ I) → Fr h₀ env.locals h m₁ → News h₀ env.locals h ((I, oI) :: nx) →
      wpAny (model prog w) A (assign target env v) (fun _ s₃ => wpAny (model prog w) A (execs body env) (TurnJ h₀ env.locals I oI (J (i + 1)) { s with heap := h, toks := tk } Q) E s₃) E { s with heap := h, toks := tk })
    (done : ∀ m₁ nx h tk, J n m₁ nx → Fr h₀ env.locals h m₁ → News h₀ env.locals h nx → Q .next { s with heap := h, toks := tk }) :
    TurnsAt prog w A h₀ env target body Q E (.ref I) s := by
  refine ⟨I, I :: src.map (·.1), [I], n, _, _, St, m₀, news, J, rfl, KTurns.ofWalks W (fun i v s Q E _ q => by rw [hgo]; exact wpAny_pure q), ?_, ?_, ?_, hst, F, N, hj, ?_, ?_⟩
  · intro hm
    rcases List.mem_cons.mp hm with e | hm
    · exact hLI e
    · obtain ⟨p, hp, e⟩ := List.mem_map.mp hm
      exact hLs p hp e
  · intro b hb
    rw [List.mem_singleton.mp hb]; exact hI0
  · intro p hp hm
    exact off p hp (List.mem_singleton.mp hm)
  · rintro i v m₁ news₁ h tk own hi hP hJ hoff hown hget hmem hst' F₁ N₁
    obtain ⟨oI, hoI⟩ := hIo _ _ hst'
    have hIown : (I, oI) ∈ own := hmem I (List.mem_cons_self ..) hI0 oI hoI
    have N₂ : News h₀ env.locals h ((I, oI) :: news₁) := fun p hp => by
      rcases List.mem_cons.mp hp with rfl | hp
      · exact N₁ _ (List.mem_append.mpr (.inl hIown))
      · exact N₁ _ (List.mem_append.mpr (.inr hp))
    refine wpAny_mono (turn i v m₁ news₁ h tk oI hi hP hJ (fun p hp e => hoff p hp (by rw [e]; exact List.mem_singleton.mpr rfl)) F₁ N₂) (fun _ s₃ q => wpAny_mono q (fun f s₂ p => ?_) fun _ _ e => e) fun _ _ e => e
    have fin : EndJ h₀ env.locals I oI (J (i + 1)) { s with heap := h, toks := tk } s₂ → LoopStepU h₀ env.locals [I] own (J (i + 1)) { s with heap := h, toks := tk } .next s₂ := by
      rintro ⟨h', tk', m', nx, e, F', N', ho, hJ'⟩
      refine ⟨rfl, h', tk', m', nx, e, F', fun p hp => ?_, fun p hp hq => ho p hp (List.mem_singleton.mp hq), hJ'⟩
      rcases List.mem_append.mp hp with hp | hp
      · have g := hget p hp
        rcases List.mem_cons.mp (hown p hp) with e1 | e1
        · have : p = (I, oI) := by
            obtain ⟨a, o⟩ := p
            simp only at e1 g
            subst e1
            rw [hoI] at g
            cases g; rfl
          rw [this]; exact N' _ (List.mem_cons_self ..)
        · obtain ⟨q, hq, e2⟩ := List.mem_map.mp e1
          have hq1 := (N₂ q (List.mem_cons_of_mem _ (hsrc _ _ _ hJ q hq))).1
          have : p = q := by
            obtain ⟨a, o⟩ := p
            obtain ⟨b, o'⟩ := q
            simp only at e2 g hq1
            subst e2
            have g' : h.get? b = some o := g
            rw [hq1] at g'
            cases g'; rfl
          rw [this]; exact N' _ (List.mem_cons_of_mem _ (hsrc _ _ _ hJ' q hq))
      · exact N' _ (List.mem_cons_of_mem _ hp)
    cases f with
    | ret v => exact .ret p
    | brk => exact .brk p
    | next => exact .next (fin p)
    | cont => exact .cont (fin p)
  · rintro h' tk m' news' F' N' _ hJ
    exact done m' news' h' tk hJ F' N'

/-- a for's loop by any target, its source evaluated -/
def LoopTn (prog : Program) (w : World) (A : Around) (h₀ : Heap) (env : Env) (target : PySem.Expr) (body : List Stmt) (Q : Flow → Shared → Prop) (E : Value → Shared → Prop) (xv : Value) (s₁ : Shared) : Prop :=
  wpAny (model prog w) A (pyIter xv) (fun it s₂ => TurnsAt prog w A h₀ env target body Q E it s₂) E s₁
theorem For_T {iter : PySem.Expr} {pos : Pos} {m : Str → Option Value} (F : Fr h₀ env.locals s.heap m)
    (h : wpAny (model prog w) A (eval iter env) (fun xv s₁ => LoopTn prog w A h₀ env target body Q E xv s₁) E s)
    (hs : ∀ x, foldedSetIterable iter env x = pure x := by intro _; rfl)
    (hE : PassesOwn (model prog w) A env E := by passes_own) :
    wpAny (model prog w) A (exec (.For target iter body [] pos) env) Q E s := For_turns F h hs hE

theorem range_T {r : Addr} {b₀ : Int} {t₀ u₀ v₀ : Tok} {n : Nat} {m₀ : Str → Option Value} {news : List (Addr × Obj)} (J : Nat → (Str → Option Value) → List (Addr × Obj) → Prop)
    (hh : A.handled = none) (hgo : ∀ it v, letOwnedTupleGo target it v = pure ()) (hr : IsRange s.heap r 0 b₀ 1 t₀ u₀ v₀) (hb : b₀ = (n : Int)) (hn : n < 2 ^ 62) (F : Fr h₀ env.locals s.heap m₀) (N : News h₀ env.locals s.heap news) (hj : J 0 m₀ news)
    (turn : ∀ (i : Nat) (t : Tok) m₁ nx h tk I oI, i < n → J i m₁ nx → (∀ p ∈ nx, p.1 ≠ I) → Fr h₀ env.locals h m₁ → News h₀ env.locals h ((I, oI) :: nx) →
      wpAny (model prog w) A (assign target env (.int (i : Int) t)) (fun _ s₃ => wpAny (model prog w) A (execs body env) (TurnJ h₀ env.locals I oI (J (i + 1)) { s with heap := h, toks := tk } Q) E s₃) E { s with heap := h, toks := tk })
    (done : ∀ m₁ nx h tk, J n m₁ nx → Fr h₀ env.locals h m₁ → News h₀ env.locals h nx → Q .next { s with heap := h, toks := tk }) :
    LoopTn prog w A h₀ env target body Q E (.ref r) s := by
  subst hb
  have hsz : Builtin.Range.rangeSize 0 (n : Int) 1 = (n : Int) := by rw [rangeSize_nat]; omega
  refine wpAny_pyIter_range hr (small_one (by omega) (by omega) (by omega) (by omega)) ?_
  have W : Walks prog w A s.heap.objs.size [s.heap.objs.size] [s.heap.objs.size] n (fun i v => ∃ t, v = .int (0 + i * 1) t)
      (fun i h => IsRangeIter h s.heap.objs.size (0 + (i : Nat) * 1) ((n : Int) - (i : Nat)) 1) := Walks.range hh _ 0 1 n
  refine loop_T [] J W (fun i h hi => ⟨_, hi⟩) hgo (Nat.ne_of_lt F.ns.lt) (fun p hp => nomatch hp) (next_is_new F) (fun p hp => Nat.ne_of_lt (Heap.lt_size (N p hp).1))
    (by show IsRangeIter _ _ _ _ _; rw [hsz]; simpa using Heap.get?_push_size _ rfl) (F.push _) (fun p hp => ⟨Heap.get?_push_of_some _ (N p hp).1, (N p hp).2⟩) (fun _ _ _ _ p hp => nomatch hp) hj ?_ ?_
  · rintro i v m₁ nx h tk oI hi ⟨t, rfl⟩ hJ off F₁ N₁
    have e1 : (0 : Int) + (i : Int) * 1 = (i : Int) := by omega
    rw [e1]
    exact turn i t m₁ nx h tk _ oI hi hJ off F₁ N₁
  · exact done
end loops

/-- the ledger has grown by objects apart from it -/
def Grows (news news' : List (Addr × Obj)) : Prop := ∃ tl, news' = tl ++ news ∧ ∀ p ∈ tl, ∀ q ∈ news, p.1 ≠ q.1
theorem Grows.refl (news : List (Addr × Obj)) : Grows news news := ⟨[], rfl, fun _ h => nomatch h⟩
theorem Grows.cons {news news' : List (Addr × Obj)} {d : Addr} {o : Obj} (h : Grows news news') (hd : ∀ p ∈ news', p.1 ≠ d) : Grows news ((d, o) :: news') := by
  obtain ⟨tl, rfl, ht⟩ := h
  refine ⟨(d, o) :: tl, rfl, fun p hp q hq e => ?_⟩
  rcases List.mem_cons.mp hp with rfl | hp
  · exact hd q (List.mem_append.mpr (.inr hq)) e.symm
  · exact ht p hp q hq e
theorem Grows.trans {n1 n2 n3 : List (Addr × Obj)} (h : Grows n1 n2) (k : Grows n2 n3) : Grows n1 n3 := by
  obtain ⟨t1, rfl, h1⟩ := h
  obtain ⟨t2, rfl, h2⟩ := k
  refine ⟨t2 ++ t1, by rw [List.append_assoc], fun p hp q hq => ?_⟩
  rcases List.mem_append.mp hp with hp | hp
  · exact h2 p hp q (List.mem_append.mpr (.inr hq))
  · exact h1 p hp q hq
theorem Grows.sub {news news' : List (Addr × Obj)} (h : Grows news news') : ∀ q ∈ news, q ∈ news' := by
  obtain ⟨tl, rfl, _⟩ := h
  exact fun q hq => List.mem_append.mpr (.inr hq)
theorem allLt_ne {d : Addr} {l : List (Addr × Obj)} (h : AllLt d l) : ∀ p ∈ l, p.1 ≠ d := fun p hp => Nat.ne_of_lt (ktn_ltOf h p hp)
theorem off1_ne {d : Addr} {l : List (Addr × Obj)} (h : LCg.Off1 d l) : ∀ p ∈ l, p.1 ≠ d := by
  induction l with
  | nil => exact fun p hp => nomatch hp
  | cons q r ih =>
    intro p hp
    rcases List.mem_cons.mp hp with rfl | hp
    · exact h.1
    · exact ih h.2 p hp
theorem ne_cons {d : Addr} {q : Addr × Obj} {l : List (Addr × Obj)} (h : q.1 ≠ d) (k : ∀ p ∈ l, p.1 ≠ d) : ∀ p ∈ q :: l, p.1 ≠ d := by
  intro p hp
  rcases List.mem_cons.mp hp with rfl | hp
  · exact h
  · exact k p hp
end Mine
namespace Mine
section
variable {prog : Program} {w : World} {A : Around} {E : Value → Shared → Prop} {s : Shared} {env : Env} {h₀ : Heap} {target : PySem.Expr} {body : List Stmt} {Q : Flow → Shared → Prop}

/-- the frame's names stay -/
theorem range_Tm {r : Addr} {b₀ : Int} {t₀ u₀ v₀ : Tok} {n : Nat} {m₀ : Str → Option Value} {news : List (Addr × Obj)} (J : Nat → List (Addr × Obj) → Prop)
    (hh : A.handled = none) (hgo : ∀ it v, letOwnedTupleGo target it v = pure ()) (hr : IsRange s.heap r 0 b₀ 1 t₀ u₀ v₀) (hb : b₀ = (n : Int)) (hn : n < 2 ^ 62) (F : Fr h₀ env.locals s.heap m₀) (N : News h₀ env.locals s.heap news) (hj : J 0 news)
    (turn : ∀ (i : Nat) (t : Tok) nx h tk I oI, i < n → J i nx → (∀ p ∈ nx, p.1 ≠ I) → Fr h₀ env.locals h m₀ → News h₀ env.locals h ((I, oI) :: nx) →
      wpAny (model prog w) A (assign target env (.int (i : Int) t)) (fun _ s₃ => wpAny (model prog w) A (execs body env) (TurnJ h₀ env.locals I oI (fun m nx => m = m₀ ∧ J (i + 1) nx) { s with heap := h, toks := tk } Q) E s₃) E { s with heap := h, toks := tk })
    (done : ∀ nx h tk, J n nx → Fr h₀ env.locals h m₀ → News h₀ env.locals h nx → Q .next { s with heap := h, toks := tk }) :
    LoopTn prog w A h₀ env target body Q E (.ref r) s := by
  refine range_T (fun i m nx => m = m₀ ∧ J i nx) hh hgo hr hb hn F N ⟨rfl, hj⟩ ?_ ?_
  · rintro i t m₁ nx h tk I oI hi ⟨rfl, hJ⟩ off F₁ N₁
    exact turn i t nx h tk I oI hi hJ off F₁ N₁
  · rintro m₁ nx h tk ⟨rfl, hJ⟩ F₁ N₁
    exact done nx h tk hJ F₁ N₁

theorem led_head {L : Addr} {h : Heap} {d : Addr} {o : Obj} {r : List (Addr × Obj)} {P : Prop} (_N : News h₀ L h ((d, o) :: r)) (k : ∀ d', d' = d → P) : P := k d rfl
end
section
variable {prog : Program} {w : World} {A : Around} {s : Shared} {h₀ : Heap} {L : Addr} {m : Str → Option Value} {env : Env} {elt : PySem.Expr} {x : Str} {scope : Scope} {cl : List (Str × Addr)}

/-- over range(n), the ledger stays -/
theorem crange_Jm {Fin : Shared → List Value → List (Addr × Obj) → Prop} {r : Addr} {b₀ : Int} {t u v : Tok} {n : Nat} {news : List (Addr × Obj)} {s₁ : Shared} (J : Nat → List Value → Prop)
    (hh : A.handled = none) (F : Fr h₀ L s₁.heap m) (N : News h₀ L s₁.heap news) (hr : IsRange s₁.heap r 0 b₀ 1 t u v) (hb : b₀ = (n : Int)) (hn : n ≤ sizeLine) (hj : J 0 [])
    (step : ∀ (i : Nat) ys (t : Tok) I oI C oC D m₂ h tk (E' : Value → Shared → Prop), i < n → J i ys → LCg.NsObj oC m₂ → m₂ x = some (.int (i : Int) t) → Fr h₀ L h m → News h₀ L h ((I, oI) :: (C, oC) :: (D, LCg.lst ys) :: news) → LCg.Off3 I C D news → ((@Ne Nat I C) ∧ (@Ne Nat I D) ∧ (@Ne Nat C D)) →
      wpAny (model prog w) A (eval elt (compEnvC scope cl C env)) (LCg.CompEnd h₀ L m { s₁ with heap := h, toks := tk } I oI C oC D (LCg.lst ys) (fun _ => True) (fun y nx' => nx' = news ∧ J (i + 1) (ys ++ [y]))) E' { s₁ with heap := h, toks := tk })
    (fin : ∀ g ys, J n ys → Fin { s₁ with heap := g } ys news) : CompIn prog w A h₀ L m env elt x scope cl Fin (.ref r) s₁ := by
  refine crange_J (fun i ys nx => nx = news ∧ J i ys) hh F N hr hb hn ⟨rfl, hj⟩ ?_ ?_
  · rintro i ys nx t I oI C oC D m₂ h tk E' hi ⟨rfl, hJ⟩ hC hx F' N' off ne
    exact step i ys t I oI C oC D m₂ h tk E' hi hJ hC hx F' N' off ne
  · rintro g ys nx ⟨rfl, hJ⟩
    exact fin g ys hJ
/-- over a list of the ledger, the ledger stays -/
theorem clist_Jm {Fin : Shared → List Value → List (Addr × Obj) → Prop} {ax : Addr} {vs : List Value} {k : Nat} {news : List (Addr × Obj)} {s₁ : Shared} (J : Nat → List Value → Prop)
    (hh : A.handled = none) (F : Fr h₀ L s₁.heap m) (N : News h₀ L s₁.heap news) (hm : (ax, PySem.W.listOf (List.toArray vs) k) ∈ news) (hn : vs.length ≤ sizeLine) (hj : J 0 [])
    (step : ∀ (i : Nat) ys (v : Value) I oI C oC D m₂ h tk (E' : Value → Shared → Prop), vs[i]? = some v → J i ys → LCg.NsObj oC m₂ → m₂ x = some v → Fr h₀ L h m → News h₀ L h ((I, oI) :: (C, oC) :: (D, LCg.lst ys) :: news) → LCg.Off3 I C D news → ((@Ne Nat I C) ∧ (@Ne Nat I D) ∧ (@Ne Nat C D)) →
      wpAny (model prog w) A (eval elt (compEnvC scope cl C env)) (LCg.CompEnd h₀ L m { s₁ with heap := h, toks := tk } I oI C oC D (LCg.lst ys) (LCg.SrcAt h₀ ax (List.toArray vs)) (fun y nx' => nx' = news ∧ J (i + 1) (ys ++ [y]))) E' { s₁ with heap := h, toks := tk })
    (fin : ∀ g ys, J vs.length ys → Fin { s₁ with heap := g } ys news) : CompIn prog w A h₀ L m env elt x scope cl Fin (.ref ax) s₁ := by
  refine clist_J (fun i ys nx => nx = news ∧ J i ys) hh F N hm hn ⟨rfl, hj⟩ ?_ ?_
  · rintro i ys nx v I oI C oC D m₂ h tk E' hv ⟨rfl, hJ⟩ hC hx F' N' off ne
    exact step i ys v I oI C oC D m₂ h tk E' hv hJ hC hx F' N' off ne
  · rintro g ys nx ⟨rfl, hJ⟩
    exact fin g ys hJ
end
theorem ints_snoc {ys : List Value} {r : List Int} (h : IntsAre ys r) (a : Int) (t : Tok) : IntsAre (ys ++ [.int a t]) (r ++ [a]) := by
  induction h with
  | nil => exact .cons a t .nil
  | cons n t' _ ih => exact .cons n t' ih
end Mine
end

section
-- LC
set_option maxRecDepth 100000
set_option maxHeartbeats 400000000
namespace Mine

section
variable {h₀ h' : Heap} {L I C D d : Addr} {m : Str → Option Value} {s₁ : Shared} {oI oC oD o : Obj} {S : List (Addr × Obj) → Prop} {rest : Value → List (Addr × Obj) → Prop} {y : Value} {tk : Nat} {nx : List (Addr × Obj)}
/-- an element that makes nothing -/
theorem cend_same (F : Fr h₀ L h' m) (N : News h₀ L h' ((I, oI) :: (C, oC) :: (D, oD) :: nx)) (off : LCg.Off3 I C D nx) (hS : S nx) (r : rest y nx) :
    LCg.CompEnd h₀ L m s₁ I oI C oC D oD S rest y { s₁ with heap := h', toks := tk } := ⟨h', tk, nx, rfl, F, N, off, hS, r⟩
/-- an element that makes one object -/
theorem cend_new (F : Fr h₀ L h' m) (N : News h₀ L h' ((d, o) :: (I, oI) :: (C, oC) :: (D, oD) :: nx)) (n1 : d ≠ I) (n2 : d ≠ C) (n3 : d ≠ D) (off : LCg.Off3 I C D nx) (hS : S ((d, o) :: nx)) (r : rest y ((d, o) :: nx)) :
    LCg.CompEnd h₀ L m s₁ I oI C oC D oD S rest y { s₁ with heap := h', toks := tk } := by
  refine ⟨h', tk, (d, o) :: nx, rfl, F, fun q hq => N q ?_, ⟨⟨n1, n2, n3⟩, off⟩, hS, r⟩
  simp only [List.mem_cons] at hq ⊢
  rcases hq with h | h | h | h | h <;> simp [h]
end

/-- apart from four -/
def Off4 (I C c D : Addr) (l : List (Addr × Obj)) : Prop := ∀ p ∈ l, p.1 ≠ I ∧ p.1 ≠ C ∧ p.1 ≠ c ∧ p.1 ≠ D

def CEnd4 (h₀ : Heap) (L : Addr) (m : Str → Option Value) (s₁ : Shared) (I : Addr) (oI : Obj) (C : Addr) (oC : Obj) (c : Addr) (oc : Obj) (D : Addr) (oD : Obj) (rest : Value → List (Addr × Obj) → Prop) (y : Value) (s₂ : Shared) : Prop :=
  ∃ h' tk news', s₂ = { s₁ with heap := h', toks := tk } ∧ Fr h₀ L h' m ∧ News h₀ L h' ((I, oI) :: (C, oC) :: (c, oc) :: (D, oD) :: news') ∧ Off4 I C c D news' ∧ rest y news'

theorem cend4_new {h₀ h' : Heap} {L I C c D d : Addr} {m : Str → Option Value} {s₁ : Shared} {oI oC oc oD o : Obj} {rest : Value → List (Addr × Obj) → Prop} {y : Value} {tk : Nat} {nx : List (Addr × Obj)}
    (F : Fr h₀ L h' m) (N : News h₀ L h' ((d, o) :: (I, oI) :: (C, oC) :: (c, oc) :: (D, oD) :: nx)) (off1 : LCg.Off1 d ((I, oI) :: (C, oC) :: (c, oc) :: (D, oD) :: nx)) (off : Off4 I C c D nx) (r : rest y ((d, o) :: nx)) :
    CEnd4 h₀ L m s₁ I oI C oC c oc D oD rest y { s₁ with heap := h', toks := tk } := by
  refine ⟨h', tk, (d, o) :: nx, rfl, F, fun q hq => N q ?_, fun q hq => ?_, r⟩
  · simp only [List.mem_cons] at hq ⊢
    rcases hq with h | h | h | h | h | h <;> simp [h]
  · rcases List.mem_cons.mp hq with rfl | hq
    · exact ⟨Ne.symm off1.1, Ne.symm off1.2.1, Ne.symm off1.2.2.1, Ne.symm off1.2.2.2.1⟩
    · exact off q hq
section
variable {prog : Program} {w : World} {A : Around} {E : Value → Shared → Prop} {s : Shared} {h₀ : Heap} {L : Addr} {m : Str → Option Value} {env : Env}

theorem block_cell {elt iter : PySem.Expr} {x : Str} {px : Pos} {scope : Scope} {cl : List (Str × Addr)} {pos : Pos} {s₂ : Shared} {I : Addr} {n : Nat} {news : List (Addr × Obj)}
    {RR : Value → Addr → Result → Shared → Prop} (J : Nat → List Value → List (Addr × Obj) → Prop) (hh : A.handled = none) (hsz : n ≤ sizeLine)
    (hcells : ∀ k acc, cellsFrom k scope.names acc = (x, k) :: acc) (hpush : ∀ h : Heap, pushCells h scope.names = h.push { cls := .type "cell", data := .cell none })
    (hkind : scope.kind = .function) (hx : (relabel scope env).names.lookup x = some .cell) (hst : IsRangeIter s₂.heap I 0 (n : Int) 1)
    (F : Fr h₀ L s₂.heap m) (N : News h₀ L s₂.heap news) (hIL : L ≠ I) (hI₀ : h₀.get? I = none) (off : ∀ p ∈ news, p.1 ≠ I) (hj : J 0 [] news)
    (step : ∀ (i : Nat) ys nx (t : Tok) oI C oC c oc D h tk (E' : Value → Shared → Prop), i < n → J i ys nx → oc.data = .cell (some (.int (i : Int) t)) → Fr h₀ L h m → News h₀ L h ((I, oI) :: (C, oC) :: (c, oc) :: (D, LCg.lst ys) :: nx) → Off4 I C c D nx →
      ((@Ne Nat I C) ∧ (@Ne Nat I c) ∧ (@Ne Nat I D) ∧ (@Ne Nat C c) ∧ (@Ne Nat C D) ∧ (@Ne Nat c D)) →
      wpAny (model prog w) A (eval elt (compEnvC scope ((x, c) :: cl) C env)) (CEnd4 h₀ L m { s₂ with heap := h, toks := tk } I oI C oC c oc D (LCg.lst ys) (fun y nx' => J (i + 1) (ys ++ [y]) nx')) E' { s₂ with heap := h, toks := tk })
    (hRR : ∀ D C h tk m' ys nx, Fr h₀ L h m → News h₀ L h ((D, LCg.lst ys) :: nx) → LCg.Off1 D nx → h.Ns C m' → h₀.get? C = none → C ≠ L → C ≠ D → (∀ p ∈ nx, p.1 ≠ C) → J n ys nx → RR (.ref D) C (.ok .next) { s₂ with heap := h, toks := tk }) :
    wpAny (model prog w) A (newList []) (fun acc s₃ => wpAny (model prog w) A (newFunctionEnv scope env.globals cl [] env.qual none .none (some env)) (fun cenv s₄ =>
      codeAny (model prog w) A (.compStart (.ListComp elt [⟨.Name x px, iter, [], 0⟩] scope pos) 0 (.ref I) acc { cenv with scope := relabel scope env }) (RR acc cenv.locals) s₄) E s₃) E s₂ := by
  refine wpAny_newObj_type ?_
  simp only [newFunctionEnv, Option.isSome_some, if_true]
  refine wpAny_bind (wpAny_alloc ?_)
  refine wpAny_bind (wpAny_layCells _ (fun name kind cells => by cases hkc : kind == NameKind.cell <;> simp) _ _ _ _ ?_)
  rw [hcells, hpush]
  refine wpAny_bind ?_
  rw [List.forIn_nil]
  refine wpAny_pure (wpAny_pure ?_)
  dsimp only
  generalize hH1 : s₂.heap.push { cls := .type "list", dict := none, data := .seq ([] : List Value).toArray } = H1
  have e1 : H1.objs.size = s₂.heap.objs.size + 1 := by rw [← hH1, Heap.size_push]
  generalize hH2 : H1.push { cls := .type "dict", dict := none, data := .dict #[] } = H2
  have e2 : H2.objs.size = s₂.heap.objs.size + 2 := by rw [← hH2, Heap.size_push, e1]
  generalize hH3 : H2.push { cls := .type "cell", dict := none, data := .cell none } = H3
  generalize hD : s₂.heap.objs.size = D at *
  generalize hC : H1.objs.size = C at *
  generalize hc : H2.objs.size = c at *
  have k1 : ∀ b o, s₂.heap.get? b = some o → H1.get? b = some o := fun b o e => hH1 ▸ Heap.get?_push_of_some _ e
  have k2 : ∀ b o, H1.get? b = some o → H2.get? b = some o := fun b o e => hH2 ▸ Heap.get?_push_of_some _ e
  have k3 : ∀ b o, H2.get? b = some o → H3.get? b = some o := fun b o e => hH3 ▸ Heap.get?_push_of_some _ e
  have old : ∀ b o, s₂.heap.get? b = some o → H3.get? b = some o := fun b o e => k3 _ _ (k2 _ _ (k1 _ _ e))
  have gD : H3.get? D = some (LCg.lst []) := k3 _ _ (k2 _ _ (by rw [← hH1, ← hD]; exact Heap.get?_push_size _ rfl))
  have gC : H3.get? C = some { cls := .type "dict", data := .dict #[] } := k3 _ _ (by rw [← hH2, ← hC]; exact Heap.get?_push_size _ rfl)
  have gc : H3.get? c = some { cls := .type "cell", data := .cell none } := by rw [← hH3, ← hc]; exact Heap.get?_push_size _ rfl
  have lt : ∀ b o, s₂.heap.get? b = some o → @LT.lt Nat _ b D := fun b o e => hD ▸ Heap.lt_size e
  have fresh₀ : ∀ a, D ≤ a → h₀.get? a = none := fun a ha => by
    cases e : h₀.get? a with
    | none => rfl
    | some o' => exact absurd (lt _ _ (F.keep a o' e)) (Nat.not_lt.mpr ha)
  have hLlt : @LT.lt Nat _ L D := hD ▸ F.ns.lt
  have hIlt : @LT.lt Nat _ I D := lt _ _ hst
  have hD₀ := fresh₀ D (Nat.le_refl _)
  have hC₀ := fresh₀ C (by omega)
  have hc₀ := fresh₀ c (by omega)
  have nDL : D ≠ L := Nat.ne_of_gt hLlt
  have nCL : C ≠ L := Nat.ne_of_gt (by omega)
  have ncL : c ≠ L := Nat.ne_of_gt (by omega)
  have nIC : I ≠ C := Nat.ne_of_lt (by omega)
  have nIc : I ≠ c := Nat.ne_of_lt (by omega)
  have nID : I ≠ D := Nat.ne_of_lt hIlt
  have nCc : C ≠ c := Nat.ne_of_lt (by omega)
  have nCD : C ≠ D := Nat.ne_of_gt (by omega)
  have ncD : c ≠ D := Nat.ne_of_gt (by omega)
  have W : Walks prog w A I [I] [I] n (fun i v => ∃ t, v = .int (0 + i * 1) t)
      (fun i h => IsRangeIter h I (0 + (i : Nat) * 1) ((n : Int) - (i : Nat)) 1) := Walks.range hh _ 0 1 n
  have hst₁ : IsRangeIter H3 I (0 + ((0 : Nat) : Int) * 1) ((n : Int) - ((0 : Nat) : Int)) 1 := by
    have := old _ _ hst
    simpa using this
  have loop : ∀ s₃ : Shared, (∃ tk, s₃ = { s₂ with heap := H3, toks := tk }) →
      codeAny (model prog w) A (.compLoop (.ListComp elt [⟨.Name x px, iter, [], 0⟩] scope pos) 0 (.ref I) (.ref D) (compEnvC scope ((x, c) :: cl) C env)) (RR (.ref D) C) s₃ := by
    rintro s₃ ⟨tk0, rfl⟩
    refine codeAny_compLoop_tests
      (fun k s' => ∃ h' tk i ys nx oC oc v, s' = { s₂ with heap := h', toks := tk } ∧ i ≤ n ∧ k = n + 1 - i ∧ ys.length = i ∧ IsRangeIter h' I (0 + (i : Nat) * 1) ((n : Int) - (i : Nat)) 1 ∧ Fr h₀ L h' m ∧
        News h₀ L h' ((C, oC) :: (c, oc) :: (D, LCg.lst ys) :: nx) ∧ LCg.NsObj oC (fun _ => none) ∧ oc.data = .cell v ∧ Off4 I C c D nx ∧ J i ys nx) ?_ (n + 1)
      ⟨H3, tk0, 0, [], news, { cls := .type "dict", data := .dict #[] }, { cls := .type "cell", data := .cell none }, none, rfl, Nat.zero_le _, rfl, rfl, hst₁, F.keeps old, ?_, ⟨#[], 0, rfl, fun _ he => by simp at he, fun _ => rfl⟩, rfl, fun p hp => ?_, hj⟩
    · rintro k s' ⟨h', tk, i, ys, nx, oC, oc, v₀, rfl, hi, rfl, hyl, hst', F', N', hoC, hoc, off', hJ⟩
      have offI : ∀ p ∈ (C, oC) :: (c, oc) :: (D, LCg.lst ys) :: nx, p.1 ≠ I := by
        intro p hp
        simp only [List.mem_cons] at hp
        rcases hp with rfl | rfl | rfl | hp
        · exact nIC.symm
        · exact nIc.symm
        · exact nID.symm
        · exact (off' p hp).1
      by_cases hlt : i < n
      · refine W.item i _ _ _ hlt hst' fun v h₂ tk₂ hPv hst₂ hk₂ => ?_
        obtain ⟨t, rfl⟩ := hPv
        have e0 : (0 : Int) + (i : Int) * 1 = (i : Int) := by omega
        rw [e0]
        have F₂ : Fr h₀ L h₂ m := LCg.fr_but F' hk₂ hIL hI₀
        have N₂ := LCg.news_but N' hk₂ offI
        have zc := (N₂ (c, oc) (by simp)).1
        refine wpAny_assign_Name (wpAny_storeName_cell (c := c) (by simp [compEnvC, relabel, hkind]) hx (by simp [compEnvC]) ⟨oc, zc, hoc⟩ (fun h₃ hv₃ hs₃ => ?_))
        obtain ⟨oc', zc', hoc'⟩ := hv₃
        refine wpAny_tests_nil ?_
        simp only [if_true]
        have hst₃ : IsRangeIter h₃ I (0 + ((i + 1 : Nat) : Int) * 1) ((n : Int) - ((i + 1 : Nat) : Int)) 1 := hs₃.extBut I _ nIc hst₂
        have F₃ : Fr h₀ L h₃ m := F₂.change hs₃ ncL hc₀
        have N₃ : News h₀ L h₃ ((I, { cls := .type "range_iterator", data := .fields #[rawInt (0 + ((i + 1 : Nat) : Int) * 1), rawInt ((n : Int) - ((i + 1 : Nat) : Int)), rawInt 1] }) :: (C, oC) :: (c, oc') :: (D, LCg.lst ys) :: nx) := by
          intro p hp
          simp only [List.mem_cons] at hp
          rcases hp with rfl | rfl | rfl | rfl | hp
          · exact ⟨hst₃, hIL.symm, hI₀⟩
          · exact ⟨hs₃.extBut _ _ nCc (N₂ (C, oC) (by simp)).1, nCL, hC₀⟩
          · exact ⟨zc', ncL, hc₀⟩
          · exact ⟨hs₃.extBut _ _ ncD.symm (N₂ (D, LCg.lst ys) (by simp)).1, nDL, hD₀⟩
          · have z := N₂ p (by simp [hp])
            exact ⟨hs₃.extBut _ _ (off' p hp).2.2.1 z.1, z.2⟩
        refine wpAny_mono (step i ys nx t _ C oC c oc' D h₃ _ _ hlt hJ hoc' F₃ N₃ off' ⟨nIC, nIc, nID, nCc, nCD, ncD⟩) (fun y s₄ h₄ => ?_) fun _ _ e => e
        obtain ⟨h₄, tk₄, nx₄, rfl, F₄, N₄, off₄, hJ₄⟩ := h₄
        have zI := (N₄ (I, _) List.mem_cons_self).1
        have zC := N₄ (C, oC) (by simp)
        have zc4 := N₄ (c, oc') (by simp)
        have zD := (N₄ (D, LCg.lst ys) (by simp)).1
        refine append_at (hsz := by show ys.toArray.size ≤ sizeLine; rw [List.size_toArray, hyl]; exact Nat.le_trans hi hsz) zD fun h₅ hs₅ hD₅ => ?_
        refine ⟨n + 1 - (i + 1), by omega, h₅, tk₄, i + 1, ys ++ [y], nx₄, oC, oc', _, rfl, hlt, rfl, by rw [List.length_append, List.length_singleton, hyl], hs₅.extBut I _ nID zI, F₄.change hs₅ nDL hD₀, fun p hp => ?_, hoC, hoc', off₄, hJ₄⟩
        simp only [List.mem_cons] at hp
        rcases hp with rfl | rfl | rfl | hp
        · exact ⟨hs₅.extBut _ _ nCD zC.1, zC.2⟩
        · exact ⟨hs₅.extBut _ _ ncD zc4.1, zc4.2⟩
        · exact ⟨hD₅.trans (congrArg some (LCg.lst_snoc ys y)), nDL, hD₀⟩
        · have z := N₄ p (by simp [hp])
          exact ⟨hs₅.extBut _ _ (off₄ p hp).2.2.2 z.1, z.2⟩
      · obtain rfl : i = n := Nat.le_antisymm hi (Nat.not_lt.mp hlt)
        refine W.done _ _ _ hst' fun h₂ tk₂ hk₂ => ?_
        have F₂ : Fr h₀ L h₂ m := LCg.fr_but F' hk₂ hIL hI₀
        have N₂ := LCg.news_but N' hk₂ offI
        refine hRR D C h₂ tk₂ _ ys nx F₂ (fun p hp => N₂ p (by simp only [List.mem_cons] at hp ⊢; rcases hp with h | h <;> simp [h])) ?_ (hoC.ns (N₂ (C, oC) (by simp)).1) hC₀ nCL nCD (fun p hp => (off' p hp).2.1) hJ
        have : ∀ l : List (Addr × Obj), (∀ p ∈ l, p.1 ≠ D) → LCg.Off1 D l := by
          intro l
          induction l with
          | nil => intro _; trivial
          | cons q r ih => intro h; exact ⟨h q List.mem_cons_self, ih fun p hp => h p (List.mem_cons_of_mem _ hp)⟩
        exact this nx fun p hp => (off' p hp).2.2.2
    · intro p hp
      simp only [List.mem_cons] at hp
      rcases hp with rfl | rfl | rfl | hp
      · exact ⟨gC, nCL, hC₀⟩
      · exact ⟨gc, ncL, hc₀⟩
      · exact ⟨gD, nDL, hD₀⟩
      · exact ⟨old _ _ (N p hp).1, (N p hp).2⟩
    · have l := lt _ _ (N p hp).1
      exact ⟨off p hp, Nat.ne_of_lt (by omega), Nat.ne_of_lt (by omega), Nat.ne_of_lt l⟩
  exact codeAny_compStart_list (loop _ ⟨_, rfl⟩) (W.self 0 _ _ _ hst₁ (loop _ ⟨_, rfl⟩))

/-- a comprehension by a captured name, its source evaluated -/
def CCompIn (prog : Program) (w : World) (A : Around) (_h₀ : Heap) (_L : Addr) (_m : Str → Option Value) (env : Env) (elt iter : PySem.Expr) (x : Str) (px : Pos) (scope : Scope) (cl : List (Str × Addr)) (pos : Pos) (Q : Value → Shared → Prop) (E : Value → Shared → Prop) (xv : Value) (s₁ : Shared) : Prop :=
  wpAny (model prog w) A (pyIter xv) (fun it s₂ => wpAny (model prog w) A (newList []) (fun acc s₃ => wpAny (model prog w) A (newFunctionEnv scope env.globals cl [] env.qual none .none (some env)) (fun cenv s₄ =>
    codeAny (model prog w) A (.compStart (.ListComp elt [⟨.Name x px, iter, [], 0⟩] scope pos) 0 it acc { cenv with scope := relabel scope env }) (compPost (model prog w) A E none Q acc cenv.locals) s₄) E s₃) E s₂) E s₁

theorem ListComp_cellJ {elt iter : PySem.Expr} {x : Str} {px : Pos} {scope : Scope} {cl : List (Str × Addr)} {pos : Pos} {Q : Value → Shared → Prop} (_F₀ : Fr h₀ L s.heap m)
    (hclos : closureFor scope env = pure cl) (hkind : scope.kind = .function)
    (hnames : ∀ y ∈ scope.names, y.2 = .local → scope.names.lookup y.1 = some .local)
    (h : wpAny (model prog w) A (eval iter env) (fun xv s₁ => CCompIn prog w A h₀ L m env elt iter x px scope cl pos Q E xv s₁) E s)
    (hs : ∀ x, foldedSetIterable iter env x = pure x := by intro _; rfl) :
    wpAny (model prog w) A (eval (.ListComp elt [⟨.Name x px, iter, [], 0⟩] scope pos) env) Q E s := by
  rw [eval_ListComp]
  exact wpAny_comprehension_free (use := none) rfl hs hclos hkind hnames h

theorem ccrange_J {elt iter : PySem.Expr} {x : Str} {px : Pos} {scope : Scope} {cl : List (Str × Addr)} {pos : Pos} {Q : Value → Shared → Prop} {r : Addr} {b₀ : Int} {t u v : Tok} {n : Nat} {news : List (Addr × Obj)} {s₁ : Shared}
    (J : Nat → List Value → List (Addr × Obj) → Prop) (hh : A.handled = none)
    (hcells : ∀ k acc, cellsFrom k scope.names acc = (x, k) :: acc) (hpush : ∀ h : Heap, pushCells h scope.names = h.push { cls := .type "cell", data := .cell none })
    (hkind : scope.kind = .function) (hx : (relabel scope env).names.lookup x = some .cell)
    (F : Fr h₀ L s₁.heap m) (N : News h₀ L s₁.heap news) (hr : IsRange s₁.heap r 0 b₀ 1 t u v) (hb : b₀ = (n : Int)) (hn : n ≤ sizeLine) (hj : J 0 [] news)
    (step : ∀ (i : Nat) ys nx (t : Tok) I oI C oC c oc D h tk (E' : Value → Shared → Prop), i < n → J i ys nx → oc.data = .cell (some (.int (i : Int) t)) → Fr h₀ L h m → News h₀ L h ((I, oI) :: (C, oC) :: (c, oc) :: (D, LCg.lst ys) :: nx) → Off4 I C c D nx →
      ((@Ne Nat I C) ∧ (@Ne Nat I c) ∧ (@Ne Nat I D) ∧ (@Ne Nat C c) ∧ (@Ne Nat C D) ∧ (@Ne Nat c D)) →
      wpAny (model prog w) A (eval elt (compEnvC scope ((x, c) :: cl) C env)) (CEnd4 h₀ L m { s₁ with heap := h, toks := tk } I oI C oC c oc D (LCg.lst ys) (fun y nx' => J (i + 1) (ys ++ [y]) nx')) E' { s₁ with heap := h, toks := tk })
    (fin : ∀ D h tk ys nx, J n ys nx → Fr h₀ L h m → News h₀ L h ((D, LCg.lst ys) :: nx) → LCg.Off1 D nx → Q (.ref D) { s₁ with heap := h, toks := tk }) :
    CCompIn prog w A h₀ L m env elt iter x px scope cl pos Q E (.ref r) s₁ := by
  subst hb
  have hsz : Builtin.Range.rangeSize 0 (n : Int) 1 = (n : Int) := by rw [rangeSize_nat]; omega
  have h62 : sizeLine = 2 ^ 24 := rfl
  refine wpAny_pyIter_range hr (small_one (by omega) (by omega) (by omega) (by omega)) ?_
  refine block_cell (RR := fun acc C => compPost (model prog w) A E none Q acc C) J hh hn hcells hpush hkind hx (by show IsRangeIter _ _ _ _ _; unfold IsRangeIter; rw [hsz]; exact Heap.get?_push_size _ rfl) (F.push _) (fun p hp => ⟨Heap.get?_push_of_some _ (N p hp).1, (N p hp).2⟩)
    (Nat.ne_of_lt F.ns.lt) (next_is_new F) (fun p hp => Nat.ne_of_lt (Heap.lt_size (N p hp).1)) hj ?_ ?_
  · intro i ys nx t oI C oC c oc D h tk E' hi hJ hoc F' N' off ne
    exact step i ys nx t _ oI C oC c oc D h tk E' hi hJ hoc F' N' off ne
  · intro D C h tk m' ys nx F' N' o1 hn hC₀ hCL hCD offC hJ
    refine ⟨m', hn, fun h'' hs'' => fin D h'' tk ys nx hJ (F'.change hs'' hCL hC₀) (fun p hp => ?_) o1⟩
    refine ⟨hs''.extBut _ _ ?_ (N' p hp).1, (N' p hp).2⟩
    rcases List.mem_cons.mp hp with rfl | hp
    · exact hCD.symm
    · exact offC p hp
end
end Mine
end

section
-- B0
set_option maxRecDepth 100000
set_option maxHeartbeats 400000000
namespace Mine

/-- where the walk stops for us -/
structure Halt (P : Prop) : Prop where
  out : P
/-- and where it shall go on by itself -/
structure PassTok : Prop where

/-- a call of the def at f with vs, the ledger news: it hands on a value and a ledger that Out tells -/
def Con (w : World) (mean : ExcName → Option Value) (mg mb : Str → Option Value) (k : Nat) (f : Addr) (vs : List Value) (news : List (Addr × Obj)) (Out : Value → List (Addr × Obj) → Prop) : Prop :=
  ∀ (dp un : Nat) (gd : Option (List Code)) (cn : Str) (cs : Scope) (a : Addr) (ccd : Value) (cl : List (Str × Addr)) (outer : List Env) (A₀ : Around) (base h₀ : Heap) (L : Addr) (m : Str → Option Value) (s : Shared) (Q E : Value → Shared → Prop),
    Below A₀ base outer h₀ → Fr h₀ L s.heap m → (hd.heap_39 w.params).In h₀ → News h₀ L s.heap news → Top hd.view_39 (looseW hd.view_39 []) mean mg mb h₀ → cs.kind = .function → dp + k < recursionLimit → un + 16 * k < cLine →
    (∀ (r : Value) (news' : List (Addr × Obj)) (h' : Heap) (tk' : Nat), Fr h₀ L h' m → News h₀ L h' news' → Out r news' → Q r { s with heap := h', toks := tk' }) →
    wpAny (model PySem.Challenge.rw_nz0239_01.row.prog w) (ktrTop dp un gd cn cs L a ccd cl outer) (call (.ref f) vs) Q E s

def keptIn (place size : Int) : Int := if place < 0 then 0 else if place < size then place else size - 1

theorem kept_in_con {w : World} {mean : ExcName → Option Value} {mg mb : Str → Option Value} (news : List (Addr × Obj)) (x y : Int) (t u : Tok) :
    Con w mean mg mb 1 95 [.int x t, .int y u] news (fun r news' => news' = news ∧ ∃ t, r = .int (keptIn x y) t) := by
  w_on
  unfold Con
  k_fill
  intro dp un gd cn cs a ccd cl outer A₀ base h₀ L m s Q E B F X N T hk hd hu hret
  refine wpAny_call ?_
  k_dflt cell_enter
  ((repeat' (first | ((with_reducible refine Halt.mk ?_); first | (have tokzq : PassTok := PassTok.mk; walk1 <;> (try clear tokzq))) | (k_unfold; (try dsimp only)) | (k_end; wrow_close) | walk1 | (dsimp only; walk1) | (leave1; walk_say "STEP leave1"; try dsimp only) | fail "no step")); (all_goals (try (with_reducible refine Halt.mk ?_))))
  all_goals (refine hret _ _ _ _ (by assumption) (by assumption) ⟨rfl, ktn_int ?_⟩)
  all_goals (unfold keptIn)
  · rw [if_pos (by assumption)]
  · rw [if_neg (by assumption), if_pos (by assumption)]
  · rw [if_neg (by assumption), if_neg (by assumption)]
end Mine
end

section

local macro_rules | `(tactic| walk_at "subscriptTail") => `(tactic| ((fail_if_success (have := ‹PassTok›)); refine Halt.out ?_))
local macro_rules | `(tactic| walk_at "call ref") => `(tactic| ((fail_if_success (have := ‹PassTok›)); refine Halt.out ?_))
section
-- B1
set_option maxRecDepth 100000
set_option maxHeartbeats 400000000
namespace Mine

/-- the ledger bears a list of ints at v -/
def RowAt (news : List (Addr × Obj)) (v : Value) (r : List Int) : Prop := ∃ b us n, v = .ref b ∧ (b, listOf (List.toArray us) n) ∈ news ∧ IntsAre us r
/-- the ledger bears a list of rows at b -/
def RowsAt (news : List (Addr × Obj)) (b : Addr) (rows : List (List Int)) : Prop :=
  ∃ vs n, (b, listOf (List.toArray vs) n) ∈ news ∧ vs.length = rows.length ∧ ∀ (i : Nat) r, rows[i]? = some r → ∃ v, vs[i]? = some v ∧ RowAt news v r
/-- the ledger bears a plane at p -/
def PlaneAt (P : Params) (news : List (Addr × Obj)) (p : Addr) (W H : Int) (b : Addr) : Prop :=
  ∃ dx t1 t2 t3 u1 u2 n, (p, instObj 84 dx) ∈ news ∧ (dx, dictOf [⟨PyData.keyHash P (Str.ofString "width"), .str (Str.ofString "width") t1, .int W u1⟩, ⟨PyData.keyHash P (Str.ofString "height"), .str (Str.ofString "height") t2, .int H u2⟩, ⟨PyData.keyHash P (Str.ofString "rows"), .str (Str.ofString "rows") t3, .ref b⟩] n) ∈ news

def cell (rows : List (List Int)) (y x : Int) : Int := (rows.getD y.toNat []).getD x.toNat 0

section
variable {prog : Program} {w : World} {A : Around} {E : Value → Shared → Prop} {s : Shared} {h₀ : Heap} {L : Addr} {news : List (Addr × Obj)}
theorem item_led {value slice : PySem.Expr} {l : Addr} {vs : List Value} {n : Nat} {k : Int} {u : Tok} {v : Value} {Q : Value → Shared → Prop}
    (N : News h₀ L s.heap news) (hm : (l, listOf (List.toArray vs) n) ∈ news) (h0 : 0 ≤ k) (h1 : k < 2 ^ 63) (hx : vs[k.toNat]? = some v) (h : Q v s)
    (hs : subscripted slice false (.ref l) (.int k u) = operate [.ref l, .int k u] (getItem (.ref l) (.int k u))) :
    wpAny (model prog w) A (subscriptTail value slice (.ref l) (.int k u)) Q E s := by
  have hl : s.heap.IsList l (List.toArray vs) := ⟨_, (N _ hm).1, rfl, n, rfl⟩
  exact tail_any hl.typeIs slot_list_getitem.lookup (wpAny_getItem_list hl h0 h1 (by simpa using hx) h) hs
theorem int_at {us : List Value} {r : List Int} (h : IntsAre us r) {i : Nat} (hi : i < r.length) : ∃ t, us[i]? = some (.int (r.getD i 0) t) := by
  obtain ⟨t, e⟩ := h.get i (r.getD i 0) (by simp [List.getD_eq_getElem?_getD, hi])
  exact ⟨t, e⟩
theorem row_at {b : Addr} {rows : List (List Int)} (h : RowsAt news b rows) {i : Nat} (hi : i < rows.length) :
    ∃ vs n c us k, (b, listOf (List.toArray vs) n) ∈ news ∧ vs[i]? = some (.ref c) ∧ (c, listOf (List.toArray us) k) ∈ news ∧ IntsAre us (rows.getD i []) := by
  obtain ⟨vs, n, hm, hl, hr⟩ := h
  obtain ⟨v, hv, c, us, k, rfl, hc, hi'⟩ := hr i (rows.getD i []) (by simp [List.getD_eq_getElem?_getD, hi])
  exact ⟨vs, n, c, us, k, hm, hv, hc, hi'⟩
theorem keptIn_lo {p n : Int} (h : 0 < n) : 0 ≤ keptIn p n := by unfold keptIn; split <;> (try split) <;> omega
theorem keptIn_hi {p n : Int} (h : 0 < n) : keptIn p n < n := by unfold keptIn; split <;> (try split) <;> omega
end


theorem at_con {w : World} {mean : ExcName → Option Value} {mg mb : Str → Option Value} (news : List (Addr × Obj)) (p b : Addr) (W H : Int) (rows : List (List Int)) (x y : Int) (t u : Tok)
    (hp : PlaneAt w.params news p W H b) (hr : RowsAt news b rows) (hH : rows.length = H.toNat) (h0 : 0 < H) (h1 : 0 < W) (hW : ∀ r ∈ rows, r.length = W.toNat) (hH2 : H < 2 ^ 63) (hW2 : W < 2 ^ 63) :
    Con w mean mg mb 2 74 [.ref p, .int x t, .int y u] news (fun r news' => news' = news ∧ ∃ t, r = .int (cell rows (keptIn y H) (keptIn x W)) t) := by
  w_on
  unfold Con
  k_fill
  intro dp un gd cn cs a ccd cl outer A₀ base h₀ L m s Q E B F X N T hk hd hu hret
  obtain ⟨dx, t1, t2, t3, u1, u2, n, hp1, hp2⟩ := hp
  have a0 := keptIn_lo (p := y) h0
  have a1 := keptIn_hi (p := y) h0
  have b0 := keptIn_lo (p := x) h1
  have b1 := keptIn_hi (p := x) h1
  obtain ⟨vs, nv, c, us, nu, hm, hv, hc, hi⟩ := row_at hr (i := (keptIn y H).toNat) (by omega)
  have hlen : (rows.getD (keptIn y H).toNat []).length = W.toNat := by
    refine hW _ ?_
    rw [List.getD_eq_getElem?_getD, List.getElem?_eq_getElem (by omega)]
    exact List.getElem_mem _
  obtain ⟨tv, hx⟩ := int_at hi (i := (keptIn x W).toNat) (by omega)
  have a2 : keptIn y H < 2 ^ 63 := by omega
  have b2 : keptIn x W < 2 ^ 63 := by omega
  refine wpAny_call ?_
  k_dflt cell_enter
  ((repeat' (first | ((with_reducible refine Halt.mk ?_); first | (safely (with_reducible (k_here; (with_reducible show wpAny _ _ (call (Value.ref 95) [Value.int _ _, Value.int _ _]) _ _ _); k_dflt (refine' kept_in_con _ _ _ _ _ _ _ _ _ _ _ _ _ _ _ _ _ _ _ _ _ _ ?k1zq ?k2zq ?k3zq ?k4zq ?k5zq ?kKzq ?kdzq ?kuzq ?_; (case k1zq => k_asm); (case k2zq => k_asm); (case k3zq => k_asm); (case k4zq => k_asm); (case k5zq => k_asm); (case kKzq => first | exact rfl | assumption); (case kdzq => ktr_room); (case kuzq => ktr_units)); (intro r9zq news9zq h9zq tk9zq F9zq N9zq hOzq; obtain ⟨e1zq, t9zq, e2zq⟩ := hOzq; rw [e1zq] at N9zq; clear e1zq; subst e2zq; (try dsimp only); (try k_fold))))) | (safely (with_reducible (k_here; (with_reducible show wpAny _ _ (subscriptTail _ _ (Value.ref _) (Value.int _ _)) _ _ _); (with_unfolding_all refine' item_led ?Nzq ?mzq ?azq ?bzq ?xzq ?_ ?szq; (case Nzq => assumption); (case mzq => first | assumption | k_mem); (case azq => assumption); (case bzq => assumption); (case xzq => assumption); (case szq => with_unfolding_all rfl)); k_whole))) | (have tokzq : PassTok := PassTok.mk; walk1 <;> (try clear tokzq))) | (k_unfold; (try dsimp only)) | (k_end; wrow_close) | walk1 | (dsimp only; walk1) | (leave1; walk_say "STEP leave1"; try dsimp only) | fail "no step")); (all_goals (try (with_reducible refine Halt.mk ?_))))
  exact hret _ _ _ _ (by assumption) (by assumption) ⟨rfl, _, rfl⟩
end Mine
end

local macro_rules | `(tactic| k_mem) => `(tactic| first | exact List.mem_cons_self | (refine List.mem_cons_of_mem _ ?_; k_mem))
section
-- B2
set_option maxRecDepth 100000
set_option maxHeartbeats 400000000
namespace Mine

/-- the plane's facts -/
structure Pl (P : Params) (news : List (Addr × Obj)) (p : Addr) (W H : Int) (b : Addr) (rows : List (List Int)) : Prop where
  pl : PlaneAt P news p W H b
  rs : RowsAt news b rows
  hl : rows.length = H.toNat
  h0 : 0 < H
  w0 : 0 < W
  wl : ∀ r ∈ rows, r.length = W.toNat
  h4 : H ≤ 4
  w4 : W ≤ 4
  cells : ∀ r ∈ rows, ∀ c ∈ r, 0 ≤ c ∧ c < 65536

def at2 (rows : List (List Int)) (W H x y : Int) : Int := cell rows (keptIn y H) (keptIn x W)

theorem News.tail {h₀ h : Heap} {L : Addr} {p : Addr × Obj} {news : List (Addr × Obj)} (N : News h₀ L h (p :: news)) : News h₀ L h news := fun q hq => N q (List.mem_cons_of_mem _ hq)
theorem RowAt.mono {n1 n2 : List (Addr × Obj)} {v : Value} {r : List Int} (h : RowAt n1 v r) (hs : ∀ q ∈ n1, q ∈ n2) : RowAt n2 v r := by
  obtain ⟨b, us, n, e, hm, hi⟩ := h
  exact ⟨b, us, n, e, hs _ hm, hi⟩
theorem RowsAt.mono {n1 n2 : List (Addr × Obj)} {b : Addr} {rows : List (List Int)} (h : RowsAt n1 b rows) (hs : ∀ q ∈ n1, q ∈ n2) : RowsAt n2 b rows := by
  obtain ⟨vs, n, hm, hl, hr⟩ := h
  exact ⟨vs, n, hs _ hm, hl, fun i r e => let ⟨v, h1, h2⟩ := hr i r e; ⟨v, h1, h2.mono hs⟩⟩
theorem PlaneAt.mono {P : Params} {n1 n2 : List (Addr × Obj)} {p b : Addr} {W H : Int} (h : PlaneAt P n1 p W H b) (hs : ∀ q ∈ n1, q ∈ n2) : PlaneAt P n2 p W H b := by
  obtain ⟨dx, t1, t2, t3, u1, u2, n, h1, h2⟩ := h
  exact ⟨dx, t1, t2, t3, u1, u2, n, hs _ h1, hs _ h2⟩
/-- values that bear rows -/
def RowVals (news : List (Addr × Obj)) (vs : List Value) (rs : List (List Int)) : Prop := vs.length = rs.length ∧ ∀ (i : Nat) r, rs[i]? = some r → ∃ v, vs[i]? = some v ∧ RowAt news v r
theorem RowVals.nil (news : List (Addr × Obj)) : RowVals news [] [] := ⟨rfl, fun i r h => by simp at h⟩
theorem RowVals.mono {n1 n2 : List (Addr × Obj)} {vs : List Value} {rs : List (List Int)} (h : RowVals n1 vs rs) (hs : ∀ q ∈ n1, q ∈ n2) : RowVals n2 vs rs :=
  ⟨h.1, fun i r e => let ⟨v, h1, h2⟩ := h.2 i r e; ⟨v, h1, h2.mono hs⟩⟩
theorem RowVals.snoc {news : List (Addr × Obj)} {vs : List Value} {rs : List (List Int)} {v : Value} {r : List Int} (h : RowVals news vs rs) (k : RowAt news v r) : RowVals news (vs ++ [v]) (rs ++ [r]) := by
  refine ⟨by simp [h.1], fun i r' e => ?_⟩
  rcases Nat.lt_trichotomy i rs.length with q | q | q
  · rw [List.getElem?_append_left q] at e
    obtain ⟨v', h1, h2⟩ := h.2 i r' e
    exact ⟨v', by rw [List.getElem?_append_left (by rw [h.1]; exact q)]; exact h1, h2⟩
  · subst q
    simp at e
    subst e
    exact ⟨v, by rw [← h.1]; simp, k⟩
  · rw [List.getElem?_eq_none (by simp; omega)] at e
    cases e
theorem RowVals.rows {news : List (Addr × Obj)} {b : Addr} {vs : List Value} {rs : List (List Int)} {n : Nat} (h : RowVals news vs rs) (hm : (b, listOf (List.toArray vs) n) ∈ news) : RowsAt news b rs := ⟨vs, n, hm, h.1, h.2⟩

theorem Pl.mono {P : Params} {n1 n2 : List (Addr × Obj)} {p b : Addr} {W H : Int} {rows : List (List Int)} (h : Pl P n1 p W H b rows) (hs : ∀ q ∈ n1, q ∈ n2) : Pl P n2 p W H b rows :=
  ⟨h.pl.mono hs, h.rs.mono hs, h.hl, h.h0, h.w0, h.wl, h.h4, h.w4, h.cells⟩

theorem at2_con {w : World} {mean : ExcName → Option Value} {mg mb : Str → Option Value} (news sub : List (Addr × Obj)) (p b : Addr) (W H : Int) (rows : List (List Int)) (x y : Int) (t u : Tok) (h' : Pl w.params sub p W H b rows) (hs : ∀ q ∈ sub, q ∈ news) :
    Con w mean mg mb 2 74 [.ref p, .int x t, .int y u] news (fun r news' => news' = news ∧ ∃ t, r = .int (at2 rows W H x y) t) := by
  have h := h'.mono hs
  have h4 := h.h4
  have w4 := h.w4
  exact at_con news p b W H rows x y t u h.pl h.rs h.hl h.h0 h.w0 h.wl (by omega) (by omega)

theorem at2_range {P : Params} {news : List (Addr × Obj)} {p b : Addr} {W H : Int} {rows : List (List Int)} (h : Pl P news p W H b rows) (x y : Int) : 0 ≤ at2 rows W H x y ∧ at2 rows W H x y < 65536 := by
  have a0 := keptIn_lo (p := y) h.h0
  have a1 := keptIn_hi (p := y) h.h0
  have b0 := keptIn_lo (p := x) h.w0
  have b1 := keptIn_hi (p := x) h.w0
  have hl := h.hl
  unfold at2 cell
  have hm : rows.getD (keptIn y H).toNat [] ∈ rows := by
    rw [List.getD_eq_getElem?_getD, List.getElem?_eq_getElem (by omega)]
    exact List.getElem_mem _
  have hw := h.wl _ hm
  refine h.cells _ hm _ ?_
  rw [List.getD_eq_getElem?_getD (l := rows.getD (keptIn y H).toNat []), List.getElem?_eq_getElem (by omega)]
  exact List.getElem_mem _


def around (f : Int → Int → Int) (x y : Int) : Int := f (x - 1) (y - 1) + f x (y - 1) + f (x + 1) (y - 1) + f (x - 1) y + f (x + 1) y + f (x - 1) (y + 1) + f x (y + 1) + f (x + 1) (y + 1)
def smooth1 (f : Int → Int → Int) (s x y : Int) : Int := (f x y * (1024 - 8 * s) + around f x y * s + 512) / 1024


local macro_rules | `(tactic| walk_at "exec For Name Tuple cons nil") => `(tactic| (k_here; (rename Fr _ _ _ _ => lF'); (with_unfolding_all refine' For_J lF' ?k1 ?k2 ?_; (case k1 => exact rfl); (case k2 => exact rfl); k_whole)))

def rowS (f : Int → Int → Int) (x yy a : Int) : Nat → Int
  | 0 => a
  | j + 1 => rowS f x yy a j + f (x + ((j : Int) - 1)) yy
def colS (f : Int → Int → Int) (x y a : Int) : Nat → Int
  | 0 => a
  | j + 1 => rowS f x (y + ((j : Int) - 1)) (colS f x y a j) 3

theorem smoothed_at_con {w : World} {mean : ExcName → Option Value} {mg mb : Str → Option Value} (news : List (Addr × Obj)) (p b : Addr) (W H : Int) (rows : List (List Int)) (x y sh : Int) (t u v : Tok)
    (h : Pl w.params news p W H b rows) (s0 : 0 ≤ sh) (s1 : sh ≤ 100) :
    Con w mean mg mb 3 112 [.ref p, .int x t, .int y u, .int sh v] news (fun r news' => news' = news ∧ ∃ t, r = .int (smooth1 (at2 rows W H) sh x y) t) := by
  w_on
  unfold Con
  k_fill
  intro dp un gd cn cs a ccd cl outer A₀ base h₀ L m s Q E B F X N T hk hd hu hret
  have hp := h
  obtain ⟨⟨dx, t1, t2, t3, u1, u2, n, hp1, hp2⟩, -, -, -, -, -, -, -, -⟩ := hp
  have R := at2_range h
  refine wpAny_call ?_
  k_dflt cell_enter
  ((repeat' (first | ((with_reducible refine Halt.mk ?_); first | (safely (with_reducible (k_here; (with_reducible show wpAny _ _ (call (Value.ref 74) [Value.ref _, Value.int _ _, Value.int _ _]) _ _ _); k_dflt (refine' at2_con _ _ _ _ _ _ _ _ _ _ _ ?khzq ?kszq _ _ _ _ _ _ _ _ _ _ _ _ _ _ _ _ _ ?k1zq ?k2zq ?k3zq ?k4zq ?k5zq ?kKzq ?kdzq ?kuzq ?_; (case k1zq => k_asm); (case k2zq => k_asm); (case k3zq => k_asm); (case k4zq => k_asm); (case k5zq => k_asm); (case khzq => assumption); (case kszq => intro q9zq hq9zq; repeat (first | exact hq9zq | refine List.mem_cons_of_mem _ ?_)); (case kKzq => first | exact rfl | assumption); (case kdzq => ktr_room); (case kuzq => ktr_units)); (intro r9zq news9zq h9zq tk9zq F9zq N9zq hOzq; obtain ⟨e1zq, t9zq, e2zq⟩ := hOzq; rw [e1zq] at N9zq; clear e1zq; subst e2zq; (try dsimp only); (try k_fold))))) | (have tokzq : PassTok := PassTok.mk; walk1 <;> (try clear tokzq))) | (k_unfold; (try dsimp only)) | (k_end; wrow_close) | walk1 | (dsimp only; walk1) | (leave1; walk_say "STEP leave1"; try dsimp only) | fail "no step")); (all_goals (try (with_reducible refine Halt.mk ?_))))
  rename Fr _ _ _ _ => lF'
  rename News _ _ _ _ => lN'
  dsimp only at lN'
  with_unfolding_all refine tuple_acc (Str.ofString "around") [Str.ofString "turn"] (colS (at2 rows W H) x y (0 - at2 rows W H x y)) rfl (List.mem_cons_self ..) rfl rfl lF' lN' rfl ?_ ?_
  · intro i v9 t9 u9 h9 tk9 I9 oI9 hv off F9 N9
    obtain ⟨hi, t8, rfl⟩ := three_vals hv
    clear lF' lN'
    k_fold
    ((repeat' (first | ((with_reducible refine Halt.mk ?_); first | (safely (with_reducible (k_here; (with_reducible show wpAny _ _ (call (Value.ref 74) [Value.ref _, Value.int _ _, Value.int _ _]) _ _ _); k_dflt (refine' at2_con _ _ _ _ _ _ _ _ _ _ _ ?khzq ?kszq _ _ _ _ _ _ _ _ _ _ _ _ _ _ _ _ _ ?k1zq ?k2zq ?k3zq ?k4zq ?k5zq ?kKzq ?kdzq ?kuzq ?_; (case k1zq => k_asm); (case k2zq => k_asm); (case k3zq => k_asm); (case k4zq => k_asm); (case k5zq => k_asm); (case khzq => assumption); (case kszq => intro q9zq hq9zq; repeat (first | exact hq9zq | refine List.mem_cons_of_mem _ ?_)); (case kKzq => first | exact rfl | assumption); (case kdzq => ktr_room); (case kuzq => ktr_units)); (intro r9zq news9zq h9zq tk9zq F9zq N9zq hOzq; obtain ⟨e1zq, t9zq, e2zq⟩ := hOzq; rw [e1zq] at N9zq; clear e1zq; subst e2zq; (try dsimp only); (try k_fold))))) | (have tokzq : PassTok := PassTok.mk; walk1 <;> (try clear tokzq))) | (k_unfold; (try dsimp only)) | (k_end; wrow_close) | walk1 | (dsimp only; walk1) | (leave1; walk_say "STEP leave1"; try dsimp only) | fail "no step")); (all_goals (try (with_reducible refine Halt.mk ?_))))
    rename Fr _ _ _ _ => lF'
    rename News _ _ _ _ => lN'
    dsimp only at lN'
    with_unfolding_all refine tuple_acc (Str.ofString "around") [] (rowS (at2 rows W H) x (y + ((i : Int) - 1)) (colS (at2 rows W H) x y (0 - at2 rows W H x y) i)) rfl (List.mem_cons_self ..) rfl rfl lF' lN' rfl ?_ ?_
    · intro j v8 t8 u8 h8 tk8 I8 oI8 hv8 off8 F8 N8
      obtain ⟨hj, t7, rfl⟩ := three_vals hv8
      clear lF' lN'
      k_fold
      ((repeat' (first | ((with_reducible refine Halt.mk ?_); first | (safely (with_reducible (k_here; (with_reducible show wpAny _ _ (call (Value.ref 74) [Value.ref _, Value.int _ _, Value.int _ _]) _ _ _); k_dflt (refine' at2_con _ _ _ _ _ _ _ _ _ _ _ ?khzq ?kszq _ _ _ _ _ _ _ _ _ _ _ _ _ _ _ _ _ ?k1zq ?k2zq ?k3zq ?k4zq ?k5zq ?kKzq ?kdzq ?kuzq ?_; (case k1zq => k_asm); (case k2zq => k_asm); (case k3zq => k_asm); (case k4zq => k_asm); (case k5zq => k_asm); (case khzq => assumption); (case kszq => intro q9zq hq9zq; repeat (first | exact hq9zq | refine List.mem_cons_of_mem _ ?_)); (case kKzq => first | exact rfl | assumption); (case kdzq => ktr_room); (case kuzq => ktr_units)); (intro r9zq news9zq h9zq tk9zq F9zq N9zq hOzq; obtain ⟨e1zq, t9zq, e2zq⟩ := hOzq; rw [e1zq] at N9zq; clear e1zq; subst e2zq; (try dsimp only); (try k_fold))))) | (have tokzq : PassTok := PassTok.mk; walk1 <;> (try clear tokzq))) | (k_unfold; (try dsimp only)) | (k_end; wrow_close) | walk1 | (dsimp only; walk1) | (leave1; walk_say "STEP leave1"; try dsimp only) | fail "no step")); (all_goals (try (with_reducible refine Halt.mk ?_))))
      refine acc_end (by assumption) (by assumption) off8 ?_ ?_
      · exact ⟨_, by with_unfolding_all rfl⟩
      intro z h1 h2 h3
      simp only [if_neg h1, if_neg h2, List.contains_nil, Bool.false_eq_true, if_false]
    · intro t8 u8 h8 tk8 F8 N8
      clear lF' lN'
      (try dsimp only)
      (try k_fold)
      ((repeat' (first | ((with_reducible refine Halt.mk ?_); first | (safely (with_reducible (k_here; (with_reducible show wpAny _ _ (call (Value.ref 74) [Value.ref _, Value.int _ _, Value.int _ _]) _ _ _); k_dflt (refine' at2_con _ _ _ _ _ _ _ _ _ _ _ ?khzq ?kszq _ _ _ _ _ _ _ _ _ _ _ _ _ _ _ _ _ ?k1zq ?k2zq ?k3zq ?k4zq ?k5zq ?kKzq ?kdzq ?kuzq ?_; (case k1zq => k_asm); (case k2zq => k_asm); (case k3zq => k_asm); (case k4zq => k_asm); (case k5zq => k_asm); (case khzq => assumption); (case kszq => intro q9zq hq9zq; repeat (first | exact hq9zq | refine List.mem_cons_of_mem _ ?_)); (case kKzq => first | exact rfl | assumption); (case kdzq => ktr_room); (case kuzq => ktr_units)); (intro r9zq news9zq h9zq tk9zq F9zq N9zq hOzq; obtain ⟨e1zq, t9zq, e2zq⟩ := hOzq; rw [e1zq] at N9zq; clear e1zq; subst e2zq; (try dsimp only); (try k_fold))))) | (have tokzq : PassTok := PassTok.mk; walk1 <;> (try clear tokzq))) | (k_unfold; (try dsimp only)) | (k_end; wrow_close) | walk1 | (dsimp only; walk1) | (leave1; walk_say "STEP leave1"; try dsimp only) | fail "no step")); (all_goals (try (with_reducible refine Halt.mk ?_))))
      refine acc_end (by assumption) (News.tail (by assumption)) off ?_ ?_
      · exact ⟨_, by with_unfolding_all rfl⟩
      intro z h1 h2 h3
      have h4 : z ≠ Str.ofString "turn" := by
        intro e
        rw [e] at h3
        revert h3
        decide
      simp only [if_neg h1, if_neg h2, if_neg h4, h3, List.contains_nil, Bool.false_eq_true, if_false]
  · intro t9 u9 h9 tk9 F9 N9
    clear lF' lN'
    (try dsimp only)
    (try k_fold)
    ((repeat' (first | ((with_reducible refine Halt.mk ?_); first | (safely (with_reducible (k_here; (with_reducible show wpAny _ _ (call (Value.ref 74) [Value.ref _, Value.int _ _, Value.int _ _]) _ _ _); k_dflt (refine' at2_con _ _ _ _ _ _ _ _ _ _ _ ?khzq ?kszq _ _ _ _ _ _ _ _ _ _ _ _ _ _ _ _ _ ?k1zq ?k2zq ?k3zq ?k4zq ?k5zq ?kKzq ?kdzq ?kuzq ?_; (case k1zq => k_asm); (case k2zq => k_asm); (case k3zq => k_asm); (case k4zq => k_asm); (case k5zq => k_asm); (case khzq => assumption); (case kszq => intro q9zq hq9zq; repeat (first | exact hq9zq | refine List.mem_cons_of_mem _ ?_)); (case kKzq => first | exact rfl | assumption); (case kdzq => ktr_room); (case kuzq => ktr_units)); (intro r9zq news9zq h9zq tk9zq F9zq N9zq hOzq; obtain ⟨e1zq, t9zq, e2zq⟩ := hOzq; rw [e1zq] at N9zq; clear e1zq; subst e2zq; (try dsimp only); (try k_fold))))) | (have tokzq : PassTok := PassTok.mk; walk1 <;> (try clear tokzq))) | (k_unfold; (try dsimp only)) | (k_end; wrow_close) | walk1 | (dsimp only; walk1) | (leave1; walk_say "STEP leave1"; try dsimp only) | fail "no step")); (all_goals (try (with_reducible refine Halt.mk ?_))))
    refine hret _ _ _ _ (by assumption) (News.tail (by assumption)) ⟨rfl, ktn_int ?_⟩
    rw [Int.fdiv_eq_ediv_of_nonneg _ (by decide)]
    unfold smooth1
    have e : colS (at2 rows W H) x y (0 - at2 rows W H x y) 3 = around (at2 rows W H) x y := by
      simp only [colS, rowS, around]
      have e1 : x + (((0 : Nat) : Int) - 1) = x - 1 := by omega
      have e2 : x + (((1 : Nat) : Int) - 1) = x := by omega
      have e3 : x + (((2 : Nat) : Int) - 1) = x + 1 := by omega
      have e4 : y + (((0 : Nat) : Int) - 1) = y - 1 := by omega
      have e5 : y + (((1 : Nat) : Int) - 1) = y := by omega
      have e6 : y + (((2 : Nat) : Int) - 1) = y + 1 := by omega
      rw [e1, e2, e3, e4, e5, e6]
      omega
    rw [← e]
    rfl
end Mine
end

local macro_rules | `(tactic| k_all) => `(tactic| first | assumption | exact allLt_ne (by assumption) | exact off1_ne (by assumption) | (refine ne_cons ?a ?b; (case a => first | exact Ne.symm (by assumption) | assumption | k_ne); (case b => k_all)))
section
-- BP
set_option maxRecDepth 100000
set_option maxHeartbeats 400000000
namespace Mine


theorem plane_con {w : World} {mean : ExcName → Option Value} {mg mb : Str → Option Value} (news : List (Addr × Obj)) (b : Addr) (W H : Int) (t u : Tok) :
    Con w mean mg mb 2 84 [.int W t, .int H u, .ref b] news (fun r news' => ∃ q, r = .ref q ∧ Grows news news' ∧ PlaneAt w.params news' q W H b) := by
  w_on
  unfold Con
  k_fill
  intro dp un gd cn cs a ccd cl outer A₀ base h₀ L m s Q E B F X N T hk hd hu hret
  k_dflt (refine' call_cls ?k1 ?k2 ?k3 ?k4 ?k5 ?k6 ?_; (case k1 => k_asm); (case k2 => k_asm); (case k3 => k_asm); (case k4 => k_is); (case k5 => k_is); (case k6 => k_is); k_whole)
  intro x9 d9 h9 F9 N9 l1 l2
  have lx : @LT.lt Nat _ d9 x9 := l2
  have hnd : ∀ q ∈ news, q.1 ≠ d9 := fun q hq => Nat.ne_of_lt (l1 q hq)
  have hnx : ∀ q ∈ news, q.1 ≠ x9 := fun q hq => Nat.ne_of_lt (Nat.lt_trans (l1 q hq) l2)
  k_dflt cell_enter
  ((repeat' (first | ((with_reducible refine Halt.mk ?_); first | (have tokzq : PassTok := PassTok.mk; walk1 <;> (try clear tokzq))) | (k_unfold; (try dsimp only)) | (k_end; wrow_close) | walk1 | (dsimp only; walk1) | (leave1; walk_say "STEP leave1"; try dsimp only) | fail "no step")); (all_goals (try (with_reducible refine Halt.mk ?_))))
  refine hret _ _ _ _ (by assumption) (by assumption) ⟨x9, rfl, Grows.cons (Grows.cons (Grows.refl _) hnd) (ne_cons (Nat.ne_of_lt lx) hnx), d9, _, _, _, _, _, _, List.mem_cons_self, List.mem_cons_of_mem _ List.mem_cons_self⟩
end Mine
end

section
-- B3
set_option maxRecDepth 100000
set_option maxHeartbeats 400000000
namespace Mine

local macro_rules | `(tactic| walk_at "exec For Name Call cons nil") => `(tactic| (k_here; (rename Fr _ _ _ _ => lF'); (with_unfolding_all refine' For_T lF' ?_; k_whole)))
local macro_rules | `(tactic| walk_at "eval ListComp") => `(tactic| (k_here; k_dflt (refine ListComp_J (F₀ := by k_asm) (by rfl) (by decide) (by rfl) (by decide) (by rfl) ?_)))


theorem around_range {f : Int → Int → Int} (hf : ∀ x y, 0 ≤ f x y ∧ f x y < 65536) (x y : Int) : 0 ≤ around f x y ∧ around f x y ≤ 524280 := by
  have u : ∀ x y, f x y ≤ 65535 := fun x y => Int.le_of_lt_add_one (hf x y).2
  unfold around
  refine ⟨?_, Int.le_trans (b := 65535 + 65535 + 65535 + 65535 + 65535 + 65535 + 65535 + 65535) ?_ (by decide)⟩
  · iterate 7 refine Int.add_nonneg ?_ (hf _ _).1
    exact (hf _ _).1
  · iterate 7 refine Int.add_le_add ?_ (u _ _)
    exact u _ _
theorem smooth1_range {f : Int → Int → Int} (hf : ∀ x y, 0 ≤ f x y ∧ f x y < 65536) {s : Int} (s0 : 0 ≤ s) (s1 : s ≤ 100) (x y : Int) : 0 ≤ smooth1 f s x y ∧ smooth1 f s x y < 65536 := by
  unfold smooth1
  have ha := around_range hf x y
  have h0 := hf x y
  have m1 : 0 ≤ f x y * (1024 - 8 * s) := Int.mul_nonneg h0.1 (by omega)
  have m2 : 0 ≤ around f x y * s := Int.mul_nonneg ha.1 s0
  have m3 : f x y * (1024 - 8 * s) ≤ 65535 * (1024 - 8 * s) := Int.mul_le_mul_of_nonneg_right (by omega) (by omega)
  have m4 : around f x y * s ≤ 524280 * s := Int.mul_le_mul_of_nonneg_right ha.2 s0
  generalize f x y * (1024 - 8 * s) = u at *
  generalize around f x y * s = v at *
  omega

theorem tail_apart {news nx t : List (Addr × Obj)} (h : Grows news nx) (e : nx = t ++ news) : ∀ p ∈ t, ∀ q ∈ news, p.1 ≠ q.1 := by
  obtain ⟨t', e', ht⟩ := h
  have : t' = t := List.append_cancel_right (e'.symm.trans e)
  exact this ▸ ht
/-- rows smoothed -/
def smoothRows (f : Int → Int → Int) (W H sh : Int) : List (List Int) := (List.range H.toNat).map fun (y : Nat) => (List.range W.toNat).map fun (x : Nat) => smooth1 f sh (x : Int) (y : Int)

theorem smoothed_con {w : World} {mean : ExcName → Option Value} {mg mb : Str → Option Value} (news : List (Addr × Obj)) (p b : Addr) (W H : Int) (rows : List (List Int)) (sh : Int) (t : Tok)
    (h : Pl w.params news p W H b rows) (s0 : 0 ≤ sh) (s1 : sh ≤ 100) :
    Con w mean mg mb 4 105 [.ref p, .int sh t] news (fun r news' => ∃ q c tl, r = .ref q ∧ news' = tl ++ news ∧ Grows news news' ∧ Pl w.params news' q W H c (smoothRows (at2 rows W H) W H sh) ∧ RowsAt tl c (smoothRows (at2 rows W H) W H sh)) := by
  w_on
  unfold Con
  k_fill
  intro dp un gd cn cs a ccd cl outer A₀ base h₀ L m s Q E B F X N T hk hd hu hret
  have hp := h
  obtain ⟨⟨dx, t1, t2, t3, u1, u2, n, hp1, hp2⟩, -, -, -, -, -, -, -, -⟩ := hp
  refine wpAny_call ?_
  k_dflt (refine' code_defC ?k1 ?k2 ?k3 ?k4 ?k5 ?kA ?kF ?kK ?k6 ?k7 ?k8 ?k9 ?kB ?kD ?_ ?c2 ?c3 ?c4; (case kA => exact rfl); (case kF => exact rfl); (case kK => assumption); (case k1 => k_asm); (case k2 => k_asm); (case k3 => k_asm); (case k4 => k_asm); (case k5 => k_asm); (case k6 => k_is); (case k7 => k_is); (case k8 => ktr_room); (case k9 => exact BindsTo.of_eq rfl); (case kB => exact rfl); (case kD => decide +kernel); (case c2 => exact rfl); (case c3 => exact rfl); (case c4 => exact rfl); k_whole; intro g' L' h' tk' cells' FG' F' N' Y' B' X' T' l1; (try k_lt l1); (have hY := CellsAre.three Y'; obtain ⟨oy, osh, opl, hE', dy, dsh, dpl⟩ := hY; subst hE'; clear Y'); (try simp only [List.cons_append, List.nil_append] at N'); (try dsimp only); (try k_lift B'); (try k_fold))
  ((repeat' (first | ((with_reducible refine Halt.mk ?_); first | (safely (with_reducible (k_here; (with_reducible show wpAny _ _ (call (Value.ref 84) [Value.int _ _, Value.int _ _, Value.ref _]) _ _ _); k_dflt (refine' plane_con _ _ _ _ _ _ _ _ _ _ _ _ _ _ _ _ _ _ _ _ _ _ _ ?k1zq ?k2zq ?k3zq ?k4zq ?k5zq ?kKzq ?kdzq ?kuzq ?_; (case k1zq => k_asm); (case k2zq => k_asm); (case k3zq => k_asm); (case k4zq => k_asm); (case k5zq => k_asm); (case kKzq => first | exact rfl | assumption); (case kdzq => ktr_room); (case kuzq => ktr_units)); (intro r9zq news9zq h9zq tk9zq F9zq N9zq hOzq; obtain ⟨q9zq, e2zq, hG9zq, hP9zq⟩ := hOzq; subst e2zq; (try dsimp only); (try k_fold))))) | (safely (with_reducible (k_here; (with_reducible show wpAny _ _ (call (Value.ref 112) [Value.ref _, Value.int _ _, Value.int _ _, Value.int _ _]) _ _ _); k_dflt (refine' smoothed_at_con _ _ _ _ _ _ _ _ _ _ _ _ ?kszq ?kazq ?kbzq _ _ _ _ _ _ _ _ _ _ _ _ _ _ _ _ _ ?k1zq ?k2zq ?k3zq ?k4zq ?k5zq ?kKzq ?kdzq ?kuzq ?_; (case k1zq => k_asm); (case k2zq => k_asm); (case k3zq => k_asm); (case k4zq => k_asm); (case k5zq => k_asm); (case kszq => refine Pl.mono (by assumption) ?_; intro q9zq hq9zq; repeat (first | exact hq9zq | refine List.mem_cons_of_mem _ ?_)); (case kazq => assumption); (case kbzq => assumption); (case kKzq => first | exact rfl | assumption); (case kdzq => ktr_room); (case kuzq => ktr_units)); (intro r9zq news9zq h9zq tk9zq F9zq N9zq hOzq; obtain ⟨e1zq, t9zq, e2zq⟩ := hOzq; rw [e1zq] at N9zq; clear e1zq; subst e2zq; (try dsimp only); (try k_fold))))) | (have tokzq : PassTok := PassTok.mk; walk1 <;> (try clear tokzq))) | (k_unfold; (try dsimp only)) | (k_end; wrow_close) | walk1 | (dsimp only; walk1) | (leave1; walk_say "STEP leave1"; try dsimp only) | fail "no step")); (all_goals (try (with_reducible refine Halt.mk ?_))))
  dsimp only
  rename Fr _ _ _ _ => lF'
  rename News _ _ _ _ => lN'
  rename IsRange _ _ _ _ _ _ _ _ => rgX
  dsimp only at rgX
  rename (@LT.lt Nat _ _ _ ∧ _) => lo
  refine led_head lN' fun ρ eρ => ?_
  subst eρ
  have hHn : H = ((H.toNat : Nat) : Int) := by have := h.h0; omega
  have hWn : W = ((W.toNat : Nat) : Int) := by have := h.w0; omega
  have h4 := h.h4
  have w4 := h.w4
  have dsh' : osh.data = .cell (some (.int sh t)) := dsh
  have dpl' : opl.data = .cell (some (.ref p)) := dpl
  clear dsh dpl
  have hnews : ∀ q ∈ news, q.1 < L' := by assumption
  with_unfolding_all refine range_Tm (fun i nx => ∃ oy v vs k rest, nx = (ρ, listOf (List.toArray vs) k) :: (L' + 1 + 1 + 1, oy) :: (L' + 1 + 1, osh) :: (L' + 1, opl) :: rest ∧ oy.data = .cell v ∧ Grows news rest ∧ (∀ q ∈ rest, q.1 ≠ ρ) ∧ (∀ q ∈ rest, q.1 ≠ L' + 1 + 1 + 1) ∧ (∀ q ∈ rest, q.1 ≠ L' + 1 + 1) ∧ (∀ q ∈ rest, q.1 ≠ L' + 1) ∧
      ∃ tl, rest = tl ++ news ∧ RowVals tl vs ((List.range i).map fun (y : Nat) => (List.range W.toNat).map fun (x : Nat) => smooth1 (at2 rows W H) sh (x : Int) (y : Int))) rfl (fun _ _ => rfl) rgX hHn (by omega) lF' lN' ⟨_, _, [], _, _, rfl, dy, Grows.refl _, ?_, ?_, ?_, ?_, [], rfl, RowVals.nil _⟩ ?_ ?_
  · exact allLt_ne lo.2.2.2
  · exact fun q hq => Nat.ne_of_lt (Nat.lt_of_lt_of_le (hnews q hq) (by omega))
  · exact fun q hq => Nat.ne_of_lt (Nat.lt_of_lt_of_le (hnews q hq) (by omega))
  · exact fun q hq => Nat.ne_of_lt (Nat.lt_of_lt_of_le (hnews q hq) (by omega))
  · rintro i t9 nx h9 tk9 I9 oI9 hi ⟨oy9, v9, vs, k9, rest, rfl, dy9, hG, n1, n2, n3, n4, tl, etl, hR⟩ off F9 N9
    clear lF' lN' rgX
    have f1 : @Ne Nat ρ I9 := off _ (by k_mem)
    have f2 : @Ne Nat (L' + 1 + 1 + 1) I9 := off (L' + 1 + 1 + 1, oy9) (by k_mem)
    have f3 : @Ne Nat (L' + 1 + 1) I9 := off (L' + 1 + 1, osh) (by k_mem)
    have f4 : @Ne Nat (L' + 1) I9 := off (L' + 1, opl) (by k_mem)
    have f5 : ∀ q ∈ rest, q.1 ≠ I9 := fun q hq => off q (List.mem_cons_of_mem _ (List.mem_cons_of_mem _ (List.mem_cons_of_mem _ (List.mem_cons_of_mem _ hq))))
    have hs9 := hG.sub
    have h9' := h.mono hs9
    have hp1' := hs9 _ hp1
    have hp2' := hs9 _ hp2
    (try k_fold)
    ((repeat' (first | ((with_reducible refine Halt.mk ?_); first | (safely (with_reducible (k_here; (with_reducible show wpAny _ _ (call (Value.ref 84) [Value.int _ _, Value.int _ _, Value.ref _]) _ _ _); k_dflt (refine' plane_con _ _ _ _ _ _ _ _ _ _ _ _ _ _ _ _ _ _ _ _ _ _ _ ?k1zq ?k2zq ?k3zq ?k4zq ?k5zq ?kKzq ?kdzq ?kuzq ?_; (case k1zq => k_asm); (case k2zq => k_asm); (case k3zq => k_asm); (case k4zq => k_asm); (case k5zq => k_asm); (case kKzq => first | exact rfl | assumption); (case kdzq => ktr_room); (case kuzq => ktr_units)); (intro r9zq news9zq h9zq tk9zq F9zq N9zq hOzq; obtain ⟨q9zq, e2zq, hG9zq, hP9zq⟩ := hOzq; subst e2zq; (try dsimp only); (try k_fold))))) | (safely (with_reducible (k_here; (with_reducible show wpAny _ _ (call (Value.ref 112) [Value.ref _, Value.int _ _, Value.int _ _, Value.int _ _]) _ _ _); k_dflt (refine' smoothed_at_con _ _ _ _ _ _ _ _ _ _ _ _ ?kszq ?kazq ?kbzq _ _ _ _ _ _ _ _ _ _ _ _ _ _ _ _ _ ?k1zq ?k2zq ?k3zq ?k4zq ?k5zq ?kKzq ?kdzq ?kuzq ?_; (case k1zq => k_asm); (case k2zq => k_asm); (case k3zq => k_asm); (case k4zq => k_asm); (case k5zq => k_asm); (case kszq => refine Pl.mono (by assumption) ?_; intro q9zq hq9zq; repeat (first | exact hq9zq | refine List.mem_cons_of_mem _ ?_)); (case kazq => assumption); (case kbzq => assumption); (case kKzq => first | exact rfl | assumption); (case kdzq => ktr_room); (case kuzq => ktr_units)); (intro r9zq news9zq h9zq tk9zq F9zq N9zq hOzq; obtain ⟨e1zq, t9zq, e2zq⟩ := hOzq; rw [e1zq] at N9zq; clear e1zq; subst e2zq; (try dsimp only); (try k_fold))))) | (have tokzq : PassTok := PassTok.mk; walk1 <;> (try clear tokzq))) | (k_unfold; (try dsimp only)) | (k_end; wrow_close) | walk1 | (dsimp only; walk1) | (leave1; walk_say "STEP leave1"; try dsimp only) | fail "no step")); (all_goals (try (with_reducible refine Halt.mk ?_))))
    dsimp only
    rename Fr _ _ _ _ => lF'
    rename News _ _ _ _ => lN'
    rename IsRange _ _ _ _ _ _ _ _ => rgX
    dsimp only at rgX
    with_unfolding_all refine crange_Jm (fun i9 ys => IntsAre ys ((List.range i9).map fun (x : Nat) => smooth1 (at2 rows W H) sh (x : Int) (i : Int))) rfl lF' lN' rgX hWn (by simp only [sizeLine]; omega) .nil ?_ ?_
    · intro i8 ys t8 I8 oI8 C8 oC8 D8 m8 h8 tk8 E8 hi8 hys hC8 hx8 F8 N8 off8 ne8
      clear lF' lN' rgX
      (try k_fold)
      ((repeat' (first | ((with_reducible refine Halt.mk ?_); first | (safely (with_reducible (k_here; (with_reducible show wpAny _ _ (call (Value.ref 84) [Value.int _ _, Value.int _ _, Value.ref _]) _ _ _); k_dflt (refine' plane_con _ _ _ _ _ _ _ _ _ _ _ _ _ _ _ _ _ _ _ _ _ _ _ ?k1zq ?k2zq ?k3zq ?k4zq ?k5zq ?kKzq ?kdzq ?kuzq ?_; (case k1zq => k_asm); (case k2zq => k_asm); (case k3zq => k_asm); (case k4zq => k_asm); (case k5zq => k_asm); (case kKzq => first | exact rfl | assumption); (case kdzq => ktr_room); (case kuzq => ktr_units)); (intro r9zq news9zq h9zq tk9zq F9zq N9zq hOzq; obtain ⟨q9zq, e2zq, hG9zq, hP9zq⟩ := hOzq; subst e2zq; (try dsimp only); (try k_fold))))) | (safely (with_reducible (k_here; (with_reducible show wpAny _ _ (call (Value.ref 112) [Value.ref _, Value.int _ _, Value.int _ _, Value.int _ _]) _ _ _); k_dflt (refine' smoothed_at_con _ _ _ _ _ _ _ _ _ _ _ _ ?kszq ?kazq ?kbzq _ _ _ _ _ _ _ _ _ _ _ _ _ _ _ _ _ ?k1zq ?k2zq ?k3zq ?k4zq ?k5zq ?kKzq ?kdzq ?kuzq ?_; (case k1zq => k_asm); (case k2zq => k_asm); (case k3zq => k_asm); (case k4zq => k_asm); (case k5zq => k_asm); (case kszq => refine Pl.mono (by assumption) ?_; intro q9zq hq9zq; repeat (first | exact hq9zq | refine List.mem_cons_of_mem _ ?_)); (case kazq => assumption); (case kbzq => assumption); (case kKzq => first | exact rfl | assumption); (case kdzq => ktr_room); (case kuzq => ktr_units)); (intro r9zq news9zq h9zq tk9zq F9zq N9zq hOzq; obtain ⟨e1zq, t9zq, e2zq⟩ := hOzq; rw [e1zq] at N9zq; clear e1zq; subst e2zq; (try dsimp only); (try k_fold))))) | (have tokzq : PassTok := PassTok.mk; walk1 <;> (try clear tokzq))) | (k_unfold; (try dsimp only)) | (k_end; wrow_close) | walk1 | (dsimp only; walk1) | (leave1; walk_say "STEP leave1"; try dsimp only) | fail "no step")); (all_goals (try (with_reducible refine Halt.mk ?_))))
      refine ⟨_, _, _, rfl, by assumption, by assumption, off8, trivial, rfl, ?_⟩
      rw [List.range_succ, List.map_append]
      exact ints_snoc hys _ _
    · intro g8 ys hys
      unfold LCg.FinE
      intro D8 h8 tk8 F8 N8 off8
      clear lF' lN' rgX
      have g1 : @Ne Nat I9 D8 := off1_ne off8 _ (by k_mem)
      have g2 : @Ne Nat ρ D8 := off1_ne off8 (ρ, _) (by k_mem)
      have g3 : @Ne Nat (L' + 1 + 1 + 1) D8 := off1_ne off8 (L' + 1 + 1 + 1, _) (by k_mem)
      have g4 : @Ne Nat (L' + 1 + 1) D8 := off1_ne off8 (L' + 1 + 1, _) (by k_mem)
      have g5 : @Ne Nat (L' + 1) D8 := off1_ne off8 (L' + 1, _) (by k_mem)
      have g6 : ∀ q ∈ rest, q.1 ≠ D8 := fun q hq => off1_ne off8 q (List.mem_cons_of_mem _ (List.mem_cons_of_mem _ (List.mem_cons_of_mem _ (List.mem_cons_of_mem _ (List.mem_cons_of_mem _ hq)))))
      have hvl : vs.length = i := by simpa using hR.1
      replace f2 := Halt.mk f2
      replace f3 := Halt.mk f3
      replace f4 := Halt.mk f4
      replace g3 := Halt.mk g3
      replace g4 := Halt.mk g4
      replace g5 := Halt.mk g5
      (try k_fold)
      ((repeat' (first | ((with_reducible refine Halt.mk ?_); first | (safely (with_reducible (k_here; (with_reducible show wpAny _ _ (call (Value.ref 84) [Value.int _ _, Value.int _ _, Value.ref _]) _ _ _); k_dflt (refine' plane_con _ _ _ _ _ _ _ _ _ _ _ _ _ _ _ _ _ _ _ _ _ _ _ ?k1zq ?k2zq ?k3zq ?k4zq ?k5zq ?kKzq ?kdzq ?kuzq ?_; (case k1zq => k_asm); (case k2zq => k_asm); (case k3zq => k_asm); (case k4zq => k_asm); (case k5zq => k_asm); (case kKzq => first | exact rfl | assumption); (case kdzq => ktr_room); (case kuzq => ktr_units)); (intro r9zq news9zq h9zq tk9zq F9zq N9zq hOzq; obtain ⟨q9zq, e2zq, hG9zq, hP9zq⟩ := hOzq; subst e2zq; (try dsimp only); (try k_fold))))) | (safely (with_reducible (k_here; (with_reducible show wpAny _ _ (call (Value.ref 112) [Value.ref _, Value.int _ _, Value.int _ _, Value.int _ _]) _ _ _); k_dflt (refine' smoothed_at_con _ _ _ _ _ _ _ _ _ _ _ _ ?kszq ?kazq ?kbzq _ _ _ _ _ _ _ _ _ _ _ _ _ _ _ _ _ ?k1zq ?k2zq ?k3zq ?k4zq ?k5zq ?kKzq ?kdzq ?kuzq ?_; (case k1zq => k_asm); (case k2zq => k_asm); (case k3zq => k_asm); (case k4zq => k_asm); (case k5zq => k_asm); (case kszq => refine Pl.mono (by assumption) ?_; intro q9zq hq9zq; repeat (first | exact hq9zq | refine List.mem_cons_of_mem _ ?_)); (case kazq => assumption); (case kbzq => assumption); (case kKzq => first | exact rfl | assumption); (case kdzq => ktr_room); (case kuzq => ktr_units)); (intro r9zq news9zq h9zq tk9zq F9zq N9zq hOzq; obtain ⟨e1zq, t9zq, e2zq⟩ := hOzq; rw [e1zq] at N9zq; clear e1zq; subst e2zq; (try dsimp only); (try k_fold))))) | (have tokzq : PassTok := PassTok.mk; walk1 <;> (try clear tokzq))) | (k_unfold; (try dsimp only)) | (k_end; wrow_close) | walk1 | (dsimp only; walk1) | (leave1; walk_say "STEP leave1"; try dsimp only) | fail "no step")); (all_goals (try (with_reducible refine Halt.mk ?_))))
      simp only [List.cons_append, List.nil_append]
      ((repeat' (first | ((with_reducible refine Halt.mk ?_); first | (safely (with_reducible (k_here; (with_reducible show wpAny _ _ (call (Value.ref 84) [Value.int _ _, Value.int _ _, Value.ref _]) _ _ _); k_dflt (refine' plane_con _ _ _ _ _ _ _ _ _ _ _ _ _ _ _ _ _ _ _ _ _ _ _ ?k1zq ?k2zq ?k3zq ?k4zq ?k5zq ?kKzq ?kdzq ?kuzq ?_; (case k1zq => k_asm); (case k2zq => k_asm); (case k3zq => k_asm); (case k4zq => k_asm); (case k5zq => k_asm); (case kKzq => first | exact rfl | assumption); (case kdzq => ktr_room); (case kuzq => ktr_units)); (intro r9zq news9zq h9zq tk9zq F9zq N9zq hOzq; obtain ⟨q9zq, e2zq, hG9zq, hP9zq⟩ := hOzq; subst e2zq; (try dsimp only); (try k_fold))))) | (safely (with_reducible (k_here; (with_reducible show wpAny _ _ (call (Value.ref 112) [Value.ref _, Value.int _ _, Value.int _ _, Value.int _ _]) _ _ _); k_dflt (refine' smoothed_at_con _ _ _ _ _ _ _ _ _ _ _ _ ?kszq ?kazq ?kbzq _ _ _ _ _ _ _ _ _ _ _ _ _ _ _ _ _ ?k1zq ?k2zq ?k3zq ?k4zq ?k5zq ?kKzq ?kdzq ?kuzq ?_; (case k1zq => k_asm); (case k2zq => k_asm); (case k3zq => k_asm); (case k4zq => k_asm); (case k5zq => k_asm); (case kszq => refine Pl.mono (by assumption) ?_; intro q9zq hq9zq; repeat (first | exact hq9zq | refine List.mem_cons_of_mem _ ?_)); (case kazq => assumption); (case kbzq => assumption); (case kKzq => first | exact rfl | assumption); (case kdzq => ktr_room); (case kuzq => ktr_units)); (intro r9zq news9zq h9zq tk9zq F9zq N9zq hOzq; obtain ⟨e1zq, t9zq, e2zq⟩ := hOzq; rw [e1zq] at N9zq; clear e1zq; subst e2zq; (try dsimp only); (try k_fold))))) | (have tokzq : PassTok := PassTok.mk; walk1 <;> (try clear tokzq))) | (k_unfold; (try dsimp only)) | (k_end; wrow_close) | walk1 | (dsimp only; walk1) | (leave1; walk_say "STEP leave1"; try dsimp only) | fail "no step")); (all_goals (try (with_reducible refine Halt.mk ?_))))
      replace f2 := f2.out
      replace f3 := f3.out
      replace f4 := f4.out
      replace g3 := g3.out
      replace g4 := g4.out
      replace g5 := g5.out
      rename News _ _ _ _ => lN'
      have q : PySem.W.listOf ((List.toArray vs).push (.ref D8)) (k9 + 1) = PySem.W.listOf (List.toArray (vs ++ [.ref D8])) (k9 + 1) := by simp
      rw [q] at lN'
      refine ⟨_, _, _, _, rfl, by assumption, ?_, ?_, rfl, _, _, vs ++ [.ref D8], k9 + 1, (D8, LCg.lst ys) :: rest, rfl, by assumption, Grows.cons hG g6, ?_, ?_, ?_, ?_, (D8, LCg.lst ys) :: tl, by rw [etl]; rfl, ?_⟩
      · intro q9 hq9
        refine lN' q9 ?_
        simp only [List.mem_cons] at hq9 ⊢
        rcases hq9 with h | h | h | h | h | h | h <;> simp [h]
      · exact ne_cons f1 (ne_cons f2 (ne_cons f3 (ne_cons f4 (ne_cons (Ne.symm g1) f5))))
      · exact ne_cons (Ne.symm g2) n1
      · exact ne_cons (Ne.symm g3) n2
      · exact ne_cons (Ne.symm g4) n3
      · exact ne_cons (Ne.symm g5) n4
      · rw [List.range_succ, List.map_append]
        refine RowVals.snoc (hR.mono fun q9 hq9 => List.mem_cons_of_mem _ hq9) ⟨_, _, _, rfl, List.mem_cons_self, hys⟩
  · rintro nx h9 tk9 ⟨oy9, v9, vs, k9, rest, rfl, dy9, hG, n1, n2, n3, n4, tl, etl, hR⟩ F9 N9
    clear lF' lN' rgX
    (try dsimp only)
    (try k_fold)
    have hs9 := hG.sub
    have h9' := h.mono hs9
    have hp1' := hs9 _ hp1
    have hp2' := hs9 _ hp2
    ((repeat' (first | ((with_reducible refine Halt.mk ?_); first | (safely (with_reducible (k_here; (with_reducible show wpAny _ _ (call (Value.ref 84) [Value.int _ _, Value.int _ _, Value.ref _]) _ _ _); k_dflt (refine' plane_con _ _ _ _ _ _ _ _ _ _ _ _ _ _ _ _ _ _ _ _ _ _ _ ?k1zq ?k2zq ?k3zq ?k4zq ?k5zq ?kKzq ?kdzq ?kuzq ?_; (case k1zq => k_asm); (case k2zq => k_asm); (case k3zq => k_asm); (case k4zq => k_asm); (case k5zq => k_asm); (case kKzq => first | exact rfl | assumption); (case kdzq => ktr_room); (case kuzq => ktr_units)); (intro r9zq news9zq h9zq tk9zq F9zq N9zq hOzq; obtain ⟨q9zq, e2zq, hG9zq, hP9zq⟩ := hOzq; subst e2zq; (try dsimp only); (try k_fold))))) | (safely (with_reducible (k_here; (with_reducible show wpAny _ _ (call (Value.ref 112) [Value.ref _, Value.int _ _, Value.int _ _, Value.int _ _]) _ _ _); k_dflt (refine' smoothed_at_con _ _ _ _ _ _ _ _ _ _ _ _ ?kszq ?kazq ?kbzq _ _ _ _ _ _ _ _ _ _ _ _ _ _ _ _ _ ?k1zq ?k2zq ?k3zq ?k4zq ?k5zq ?kKzq ?kdzq ?kuzq ?_; (case k1zq => k_asm); (case k2zq => k_asm); (case k3zq => k_asm); (case k4zq => k_asm); (case k5zq => k_asm); (case kszq => refine Pl.mono (by assumption) ?_; intro q9zq hq9zq; repeat (first | exact hq9zq | refine List.mem_cons_of_mem _ ?_)); (case kazq => assumption); (case kbzq => assumption); (case kKzq => first | exact rfl | assumption); (case kdzq => ktr_room); (case kuzq => ktr_units)); (intro r9zq news9zq h9zq tk9zq F9zq N9zq hOzq; obtain ⟨e1zq, t9zq, e2zq⟩ := hOzq; rw [e1zq] at N9zq; clear e1zq; subst e2zq; (try dsimp only); (try k_fold))))) | (have tokzq : PassTok := PassTok.mk; walk1 <;> (try clear tokzq))) | (k_unfold; (try dsimp only)) | (k_end; wrow_close) | walk1 | (dsimp only; walk1) | (leave1; walk_say "STEP leave1"; try dsimp only) | fail "no step")); (all_goals (try (with_reducible refine Halt.mk ?_))))
    rename PlaneAt _ _ _ _ _ _ => hP9
    rename Grows _ _ => hGx
    have hGall : Grows news _ := (Grows.cons (Grows.cons (Grows.cons (Grows.cons hG n4) (ne_cons (Nat.ne_of_lt (by omega)) n3)) (ne_cons (Nat.ne_of_lt (by omega)) (ne_cons (Nat.ne_of_lt (by omega)) n2))) (ne_cons (Nat.ne_of_lt lo.1) (ne_cons (Nat.ne_of_lt lo.2.1) (ne_cons (Nat.ne_of_lt lo.2.2.1) n1)))).trans hGx
    obtain ⟨tx, ex, -⟩ := id hGx
    have hRt : RowsAt (tx ++ ((ρ, listOf (List.toArray vs) k9) :: (L' + 1 + 1 + 1, oy9) :: (L' + 1 + 1, osh) :: (L' + 1, opl) :: tl)) ρ _ := RowVals.rows (n := k9) (b := ρ) (hR.mono (n2 := _) (fun q hq => List.mem_append.mpr (.inr (List.mem_cons_of_mem _ (List.mem_cons_of_mem _ (List.mem_cons_of_mem _ (List.mem_cons_of_mem _ hq))))))) (List.mem_append.mpr (.inr List.mem_cons_self))
    have eall : ∀ {l}, l = tx ++ ((ρ, listOf (List.toArray vs) k9) :: (L' + 1 + 1 + 1, oy9) :: (L' + 1 + 1, osh) :: (L' + 1, opl) :: rest) → l = (tx ++ ((ρ, listOf (List.toArray vs) k9) :: (L' + 1 + 1 + 1, oy9) :: (L' + 1 + 1, osh) :: (L' + 1, opl) :: tl)) ++ news := by
      intro l e
      rw [e, etl]
      simp
    have hR' := hRt.mono (n2 := _) (fun q hq => (eall ex) ▸ List.mem_append.mpr (.inl hq))
    refine hret _ _ _ _ (by assumption) (by assumption) ⟨_, ρ, _, rfl, eall ex, hGall, ⟨hP9, hR', ?_, h.h0, h.w0, ?_, h.h4, h.w4, ?_⟩, hRt⟩
    · simp [smoothRows]
    · intro r hr
      obtain ⟨y, hy, rfl⟩ := List.mem_map.mp hr
      simp
    · intro r hr c hc
      obtain ⟨y, hy, rfl⟩ := List.mem_map.mp hr
      obtain ⟨x, hx, rfl⟩ := List.mem_map.mp hc
      exact smooth1_range (at2_range h) s0 s1 _ _
end Mine
end

local macro_rules | `(tactic| walk_at "subscriptTail Name Slice ref ref") => `(tactic| ((fail_if_success (have := ‹PassTok›)); refine Halt.out ?_))
local macro_rules | `(tactic| walk_at "call builtin:len") => `(tactic| ((fail_if_success (have := ‹PassTok›)); refine Halt.out ?_))
section
-- B4
set_option maxRecDepth 100000
set_option maxHeartbeats 400000000
namespace Mine

local macro_rules | `(tactic| walk_at "eval ListComp") => `(tactic| (k_here; k_dflt (refine ListComp_cellJ (_F₀ := by k_asm) (by rfl) (by rfl) (by decide) ?_)))
local macro_rules | `(tactic| walk_at "eval ListComp") => `(tactic| (k_here; k_dflt (refine ListComp_J (F₀ := by k_asm) (by rfl) (by decide) (by rfl) (by decide) (by rfl) ?_)))

theorem rev_led {prog : Program} {w : World} {A : Around} {E : Value → Shared → Prop} {s : Shared} {h₀ : Heap} {L l : Addr} {m : Str → Option Value} {news : List (Addr × Obj)} {value slice : PySem.Expr} {vs : List Value} {n : Nat} {vk : Value} {ops : List Value} {Q : Value → Shared → Prop}
    (F : Fr h₀ L s.heap m) (N : News h₀ L s.heap news) (hm : (l, PySem.W.listOf (List.toArray vs) n) ∈ news) (pk : IsPart vk (some (-1)))
    (h : ∀ D h', Fr h₀ L h' m → News h₀ L h' ((D, PySem.W.listOf (List.toArray vs.reverse) 0) :: news) → (∀ p ∈ news, p.1 < D) → Q (.ref D) { s with heap := h' })
    (hs : subscripted slice false (.ref l) (.ref s.heap.objs.size) = operate ops (getItem (.ref l) (.ref s.heap.objs.size))) (ht : ∀ r, letTemporaryGo value (.ref l) r = pure ()) (hz : vs.length ≤ sizeLine) :
    wpAny (model prog w) A (subscriptTail value slice (.ref l) (.ref s.heap.objs.size)) Q E { s with heap := s.heap.push { cls := .type "slice", data := .fields #[.none, .none, vk] } } :=
  krv_lit (its := List.toArray vs) (zs := vs.reverse) F N ⟨_, (N _ hm).1, rfl, n, rfl⟩ pk rfl h hs ht (by simpa using hz)
theorem len_led {prog : Program} {w : World} {A : Around} {E : Value → Shared → Prop} {s : Shared} {h₀ : Heap} {L l : Addr} {news : List (Addr × Obj)} {vs : List Value} {n : Nat} {k : Int} {Q : Value → Shared → Prop}
    (N : News h₀ L s.heap news) (hm : (l, PySem.W.listOf (List.toArray vs) n) ∈ news) (e : vs.length = k.toNat) (k0 : 0 < k) (k4 : k ≤ 4)
    (h : Q (.int k (s.toks + 1)) { s with toks := s.toks + 1 + 1 }) : wpAny (model prog w) A (call (.builtin "len") [.ref l]) Q E s := by
  have e1 : (((List.toArray vs).size : Nat) : Int) = k := by simp; omega
  refine len_list (items := List.toArray vs) ⟨_, (N _ hm).1, rfl, n, rfl⟩ (by rw [e1]; exact Int.lt_of_le_of_lt k4 (by decide)) ?_
  rw [e1]
  exact h
def words7 : List Str := [Str.ofString "left", Str.ofString "back", Str.ofString "right", Str.ofString "mirror", Str.ofString "flip", Str.ofString "swap", Str.ofString "cross"]
theorem word_absurd {word : Str} {P : Prop} (hw : word ∈ words7) (h3 : ([Str.ofString "back", Str.ofString "flip", Str.ofString "left", Str.ofString "cross"].any fun x => x == word) = false)
    (h4 : ([Str.ofString "stay", Str.ofString "mirror", Str.ofString "right", Str.ofString "swap"].any fun x => x == word) = false) : P := by
  unfold words7 at hw
  simp only [List.mem_cons, List.not_mem_nil, or_false] at hw
  rcases hw with rfl | rfl | rfl | rfl | rfl | rfl | rfl
  · exact absurd h3 (by decide)
  · exact absurd h3 (by decide)
  · exact absurd h4 (by decide)
  · exact absurd h4 (by decide)
  · exact absurd h3 (by decide)
  · exact absurd h4 (by decide)
  · exact absurd h3 (by decide)
local macro_rules | `(tactic| walk_at "exec Raise some none") => `(tactic| exact word_absurd (by assumption) (by assumption) (by assumption))
theorem RowVals.rev {news : List (Addr × Obj)} {vs : List Value} {rs : List (List Int)} (h : RowVals news vs rs) : RowVals news vs.reverse rs.reverse := by
  refine ⟨by simp [h.1], fun i r e => ?_⟩
  have hi : i < rs.reverse.length := (List.getElem?_eq_some_iff.mp e).1
  rw [List.length_reverse] at hi
  rw [List.getElem?_reverse hi] at e
  obtain ⟨v, h1, h2⟩ := h.2 _ _ e
  exact ⟨v, by rw [List.getElem?_reverse (by rw [h.1]; exact hi), h.1]; exact h1, h2⟩

/-- cut a statement from what follows -/
theorem cut_stmt {M : Model} {A : Around} {E : Value → Shared → Prop} {s : Shared} {env : Env} {st : Stmt} {Q : Flow → Shared → Prop} (Mid : Shared → Prop)
    (h : wpAny M A (exec st env) (fun f s' => f = .next ∧ Mid s') E s) (k : ∀ s', Mid s' → Q .next s') : wpAny M A (exec st env) Q E s :=
  wpAny_mono h (fun f s' q => by obtain ⟨rfl, q⟩ := q; exact k s' q) fun _ _ e => e

theorem led_obj {h₀ h : Heap} {L d : Addr} {o : Obj} {r : List (Addr × Obj)} {P : Prop} (_N : News h₀ L h ((d, o) :: r)) (k : ∀ o', o' = o → P) : P := k o rfl
theorem apart_nil {l : List (Addr × Obj)} : ∀ p ∈ ([] : List (Addr × Obj)), ∀ q ∈ l, p.1 ≠ q.1 := fun _ h => nomatch h
/-- the names of turned_plane's frame -/
def mT (p : Addr) (word : Str) (t : Tok) : Str → Option Value := fun y => if y = Str.ofString "word" then some (.str word t) else if y = Str.ofString "plane" then some (.ref p) else none
/-- between two statements: the cell of rows, what it bears -/
def Stage (s : Shared) (g : Heap) (L : Addr) (m₀ : Str → Option Value) (c : Addr) (news : List (Addr × Obj)) (rws : List (List Int)) (s' : Shared) : Prop :=
  ∃ h tk led oc B, s' = { s with heap := h, toks := tk } ∧ Fr g L h m₀ ∧ News g L h ((c, oc) :: led) ∧ oc.data = .cell (some (.ref B)) ∧ (∀ q ∈ led, q.1 ≠ c) ∧ Grows news led ∧ RowsAt led B rws

theorem stage_end {s : Shared} {g h : Heap} {L c D : Addr} {m₀ : Str → Option Value} {news led : List (Addr × Obj)} {rws : List (List Int)} {oc : Obj} {zs : List Value} {tk : Nat} (F : Fr g L h m₀) (N : News g L h ((c, oc) :: (D, LCg.lst zs) :: led))
    (hc : oc.data = .cell (some (.ref D))) (hne : ∀ q ∈ (D, LCg.lst zs) :: led, q.1 ≠ c) (hG : Grows news ((D, LCg.lst zs) :: led)) (hR : RowVals ((D, LCg.lst zs) :: led) zs rws) : Stage s g L m₀ c news rws { s with heap := h, toks := tk } :=
  ⟨h, tk, _, oc, D, rfl, F, N, hc, hne, hG, hR.rows (n := zs.length) List.mem_cons_self⟩

def transp (W : Int) (rows : List (List Int)) : List (List Int) := (List.range W.toNat).map fun (x : Nat) => rows.map fun r => r.getD x 0
def tall (word : Str) : Bool := [Str.ofString "left", Str.ofString "right", Str.ofString "swap", Str.ofString "cross"].any (· == word)
def turn1 (W : Int) (word : Str) (rows : List (List Int)) : List (List Int) := if tall word then transp W rows else rows
def turn2 (word : Str) (rows : List (List Int)) : List (List Int) := if [Str.ofString "back", Str.ofString "mirror", Str.ofString "right", Str.ofString "cross"].any (· == word) then rows.map List.reverse else rows
def turn3 (word : Str) (rows : List (List Int)) : List (List Int) := if [Str.ofString "back", Str.ofString "flip", Str.ofString "left", Str.ofString "cross"].any (· == word) then rows.reverse else rows

/-- the rows of the turned plane, its width, its height -/
def turned (W : Int) (word : Str) (rows : List (List Int)) : List (List Int) := turn3 word (turn2 word (turn1 W word rows))
def tW (word : Str) (W H : Int) : Int := if tall word then H else W
def tH (word : Str) (W H : Int) : Int := if tall word then W else H

theorem turned_dims {P : Params} {news : List (Addr × Obj)} {p b : Addr} {W H : Int} {rows : List (List Int)} (h : Pl P news p W H b rows) (word : Str) :
    (turned W word rows).length = (tH word W H).toNat ∧ (∀ r ∈ turned W word rows, r.length = (tW word W H).toNat) ∧ 0 < tH word W H ∧ 0 < tW word W H ∧ tH word W H ≤ 4 ∧ tW word W H ≤ 4 ∧ ∀ r ∈ turned W word rows, ∀ c ∈ r, 0 ≤ c ∧ c < 65536 := by
  have h0 := h.h0
  have w0 := h.w0
  have h4 := h.h4
  have w4 := h.w4
  have hl := h.hl
  have hwl := h.wl
  have hc := h.cells
  have e1 : (turn1 W word rows).length = (tH word W H).toNat ∧ (∀ r ∈ turn1 W word rows, r.length = (tW word W H).toNat) ∧ ∀ r ∈ turn1 W word rows, ∀ c ∈ r, 0 ≤ c ∧ c < 65536 := by
    unfold turn1 tH tW
    cases ht : tall word with
    | true =>
      simp only [if_true]
      refine ⟨by simp [transp], fun r hr => ?_, fun r hr c hcr => ?_⟩
      · obtain ⟨x, hx, rfl⟩ := List.mem_map.mp hr
        simp [hl]
      · obtain ⟨x, hx, rfl⟩ := List.mem_map.mp hr
        obtain ⟨r0, hr0, rfl⟩ := List.mem_map.mp hcr
        refine hc r0 hr0 _ ?_
        have hxl : x < r0.length := by rw [hwl r0 hr0]; exact List.mem_range.mp hx
        rw [List.getD_eq_getElem?_getD, List.getElem?_eq_getElem hxl]
        exact List.getElem_mem _
    | false =>
      simp only [Bool.false_eq_true, if_false]
      exact ⟨hl, hwl, hc⟩
  have e2 : (turn2 word (turn1 W word rows)).length = (tH word W H).toNat ∧ (∀ r ∈ turn2 word (turn1 W word rows), r.length = (tW word W H).toNat) ∧ ∀ r ∈ turn2 word (turn1 W word rows), ∀ c ∈ r, 0 ≤ c ∧ c < 65536 := by
    unfold turn2
    split
    · refine ⟨by simp [e1.1], fun r hr => ?_, fun r hr c hcr => ?_⟩
      · obtain ⟨x, hx, rfl⟩ := List.mem_map.mp hr
        simp [e1.2.1 x hx]
      · obtain ⟨x, hx, rfl⟩ := List.mem_map.mp hr
        exact e1.2.2 x hx c (List.mem_reverse.mp hcr)
    · exact e1
  have e3 : (turned W word rows).length = (tH word W H).toNat ∧ (∀ r ∈ turned W word rows, r.length = (tW word W H).toNat) ∧ ∀ r ∈ turned W word rows, ∀ c ∈ r, 0 ≤ c ∧ c < 65536 := by
    unfold turned turn3
    split
    · exact ⟨by simp [e2.1], fun r hr => e2.2.1 r (List.mem_reverse.mp hr), fun r hr => e2.2.2 r (List.mem_reverse.mp hr)⟩
    · exact e2
  refine ⟨e3.1, e3.2.1, ?_, ?_, ?_, ?_, e3.2.2⟩ <;> (first | unfold tH | unfold tW) <;> split <;> assumption

theorem turn1_small {P : Params} {news : List (Addr × Obj)} {p b : Addr} {W H : Int} {rows : List (List Int)} (h : Pl P news p W H b rows) (word : Str) :
    (turn1 W word rows).length ≤ 4 ∧ ∀ r ∈ turn1 W word rows, r.length ≤ 4 := by
  have h4 := h.h4
  have w4 := h.w4
  have hl := h.hl
  unfold turn1
  split
  · refine ⟨by unfold transp; simp; omega, fun r hr => ?_⟩
    obtain ⟨x, hx, rfl⟩ := List.mem_map.mp hr
    simp
    omega
  · refine ⟨by omega, fun r hr => ?_⟩
    rw [h.wl r hr]
    omega

theorem turn2_small {R : List (List Int)} (h : R.length ≤ 4 ∧ ∀ r ∈ R, r.length ≤ 4) (word : Str) : (turn2 word R).length ≤ 4 ∧ ∀ r ∈ turn2 word R, r.length ≤ 4 := by
  unfold turn2
  split
  · refine ⟨by simp; exact h.1, fun r hr => ?_⟩
    obtain ⟨x, hx, rfl⟩ := List.mem_map.mp hr
    simp
    exact h.2 x hx
  · exact h

theorem turned_con {w : World} {mean : ExcName → Option Value} {mg mb : Str → Option Value} (news : List (Addr × Obj)) (p b : Addr) (W H : Int) (rows : List (List Int)) (word : Str) (t : Tok)
    (h : Pl w.params news p W H b rows) (hword : word ∈ words7) :
    Con w mean mg mb 4 100 [.ref p, .str word t] news (fun r news' => ∃ q c, r = .ref q ∧ Grows news news' ∧ Pl w.params news' q (tW word W H) (tH word W H) c (turned W word rows)) := by
  w_on
  unfold Con
  k_fill
  intro dp un gd cn cs a ccd cl outer A₀ base h₀ L m s Q E B F X N T hk hd hu hret
  have hp := h
  obtain ⟨⟨dx, t1, t2, t3, u1, u2, n, hp1, hp2⟩, -, -, -, -, -, -, -, -⟩ := hp
  refine wpAny_call ?_
  k_dflt (refine' code_defC ?k1 ?k2 ?k3 ?k4 ?k5 ?kA ?kF ?kK ?k6 ?k7 ?k8 ?k9 ?kB ?kD ?_ ?c2 ?c3 ?c4; (case kA => exact rfl); (case kF => exact rfl); (case kK => assumption); (case k1 => k_asm); (case k2 => k_asm); (case k3 => k_asm); (case k4 => k_asm); (case k5 => k_asm); (case k6 => k_is); (case k7 => k_is); (case k8 => ktr_room); (case k9 => exact BindsTo.of_eq rfl); (case kB => exact rfl); (case kD => decide +kernel); (case c2 => exact rfl); (case c3 => exact rfl); (case c4 => exact rfl); k_whole; intro g' L' h' tk' cells' FG' F' N' Y' B' X' T' l1; (try k_lt l1); (have hY := CellsAre.one Y'; obtain ⟨orow, hE', dr⟩ := hY; subst hE'; clear Y'); (try simp only [List.cons_append, List.nil_append] at N'); (try dsimp only); (try k_lift B'); (try k_fold))
  have hnews : ∀ q ∈ news, q.1 < L' := by assumption
  have hL1 : ∀ q ∈ news, q.1 ≠ L' + 1 := fun q hq => Nat.ne_of_lt (Nat.lt_of_lt_of_le (hnews q hq) (by omega))
  ((repeat' (first | ((with_reducible refine Halt.mk ?_); first | (safely (with_reducible (k_here; (with_reducible show wpAny _ _ (call (Value.builtin "len") [Value.ref _]) _ _ _); k_dflt (refine' len_led ?Nzq ?mzq ?ezq ?azq ?bzq ?_; (case Nzq => k_asm); (case mzq => first | assumption | exact List.mem_cons_of_mem _ (by assumption)); (case ezq => assumption); (case azq => assumption); (case bzq => assumption))))) | (safely (with_reducible (k_here; (with_reducible show wpAny _ _ (subscriptTail (PySem.Expr.Name (PySem.Str.ofString "rows") _) (PySem.Expr.Slice none none (some _) _) (Value.ref _) (Value.ref _)) _ _ _); k_dflt (refine' rev_led ?Fzq ?Nzq ?lzq ?kzq ?_ ?szq ?tzq ?zzq; (case Fzq => k_asm); (case Nzq => k_asm); (case lzq => k_mem); (case kzq => exact IsPart.int _ _); (case szq => with_unfolding_all rfl); (case tzq => kmk_pure); (case zzq => assumption)); intro D'zq h'zq F'zq N'zq l1zq; (try k_lt l1zq); (try k_sweep)))) | (safely (with_reducible (k_here; (with_reducible show wpAny _ _ (subscriptTail _ _ (Value.ref _) (Value.int _ _)) _ _ _); (with_unfolding_all refine' item_led ?Nzq ?mzq ?azq ?bzq ?xzq ?_ ?szq; (case Nzq => assumption); (case mzq => first | assumption | k_mem); (case azq => first | assumption | decide); (case bzq => first | assumption | decide); (case xzq => assumption); (case szq => with_unfolding_all rfl)); k_whole))) | (safely (with_reducible (k_here; (with_reducible show wpAny _ _ (call (Value.ref 84) [Value.int _ _, Value.int _ _, Value.ref _]) _ _ _); k_dflt (refine' plane_con _ _ _ _ _ _ _ _ _ _ _ _ _ _ _ _ _ _ _ _ _ _ _ ?k1zq ?k2zq ?k3zq ?k4zq ?k5zq ?kKzq ?kdzq ?kuzq ?_; (case k1zq => k_asm); (case k2zq => k_asm); (case k3zq => k_asm); (case k4zq => k_asm); (case k5zq => k_asm); (case kKzq => first | exact rfl | assumption); (case kdzq => ktr_room); (case kuzq => ktr_units)); (intro r9zq news9zq h9zq tk9zq F9zq N9zq hOzq; obtain ⟨q9zq, e2zq, hG9zq, hP9zq⟩ := hOzq; subst e2zq; (try dsimp only); (try k_fold))))) | (have tokzq : PassTok := PassTok.mk; walk1 <;> (try clear tokzq))) | (k_unfold; (try dsimp only)) | (k_end; wrow_close) | walk1 | (dsimp only; walk1) | (leave1; walk_say "STEP leave1"; try dsimp only) | fail "no step")); (all_goals (try (with_reducible refine Halt.mk ?_))))
  rename Fr _ _ _ _ => lF'
  rename News _ _ _ _ => lN'
  obtain ⟨vs, nv, hm, hvl, hvr⟩ := h.rs
  have hlen : rows.length ≤ 4 := by have := h.hl; have := h.h4; omega
  with_unfolding_all refine clist_J (fun i ys nx => ∃ tl, nx = tl ++ ((L' + 1, orow) :: news) ∧ (∀ p ∈ tl, ∀ q ∈ (L' + 1, orow) :: news, p.1 ≠ q.1) ∧ RowVals tl ys (rows.take i)) rfl lF' lN' (List.mem_cons_of_mem _ hm) (by simp only [sizeLine]; omega) ⟨[], rfl, apart_nil, RowVals.nil _⟩ ?_ ?_
  · rintro i ys nx v I8 oI8 C8 oC8 D8 m8 h8 tk8 E8 hv ⟨tl, rfl, htl, hR⟩ hC8 hx8 F8 N8 off8 ne8
    have hi : i < rows.length := by
      rw [← hvl]
      exact (List.getElem?_eq_some_iff.mp hv).1
    obtain ⟨v', hv', bi, us, ni, rfl, hmi, hii⟩ := hvr i (rows.getD i []) (by simp [List.getD_eq_getElem?_getD, hi])
    rw [hv] at hv'
    cases hv'
    have hmi' : _ ∈ tl ++ ((L' + 1, orow) :: news) := List.mem_append.mpr (.inr (List.mem_cons_of_mem _ hmi))
    have hul : us.length ≤ 4 := by
      have e1 := hii.length
      have e2 := h.wl (rows.getD i []) (by rw [List.getD_eq_getElem?_getD, List.getElem?_eq_getElem hi]; exact List.getElem_mem _)
      have e3 := h.w4
      omega
    have hmi8 := N8 _ (List.mem_cons_of_mem _ (List.mem_cons_of_mem _ (List.mem_cons_of_mem _ hmi')))
    have hisl : h8.IsList bi us.toArray := ⟨_, hmi8.1, rfl, ni, rfl⟩
    clear lF' lN'
    (try k_fold)
    ((repeat' (first | ((with_reducible refine Halt.mk ?_); first | (safely (with_reducible (k_here; (with_reducible show wpAny _ _ (call (Value.builtin "len") [Value.ref _]) _ _ _); k_dflt (refine' len_led ?Nzq ?mzq ?ezq ?azq ?bzq ?_; (case Nzq => k_asm); (case mzq => first | assumption | exact List.mem_cons_of_mem _ (by assumption)); (case ezq => assumption); (case azq => assumption); (case bzq => assumption))))) | (safely (with_reducible (k_here; (with_reducible show wpAny _ _ (subscriptTail (PySem.Expr.Name (PySem.Str.ofString "rows") _) (PySem.Expr.Slice none none (some _) _) (Value.ref _) (Value.ref _)) _ _ _); k_dflt (refine' rev_led ?Fzq ?Nzq ?lzq ?kzq ?_ ?szq ?tzq ?zzq; (case Fzq => k_asm); (case Nzq => k_asm); (case lzq => k_mem); (case kzq => exact IsPart.int _ _); (case szq => with_unfolding_all rfl); (case tzq => kmk_pure); (case zzq => assumption)); intro D'zq h'zq F'zq N'zq l1zq; (try k_lt l1zq); (try k_sweep)))) | (safely (with_reducible (k_here; (with_reducible show wpAny _ _ (subscriptTail _ _ (Value.ref _) (Value.int _ _)) _ _ _); (with_unfolding_all refine' item_led ?Nzq ?mzq ?azq ?bzq ?xzq ?_ ?szq; (case Nzq => assumption); (case mzq => first | assumption | k_mem); (case azq => first | assumption | decide); (case bzq => first | assumption | decide); (case xzq => assumption); (case szq => with_unfolding_all rfl)); k_whole))) | (safely (with_reducible (k_here; (with_reducible show wpAny _ _ (call (Value.ref 84) [Value.int _ _, Value.int _ _, Value.ref _]) _ _ _); k_dflt (refine' plane_con _ _ _ _ _ _ _ _ _ _ _ _ _ _ _ _ _ _ _ _ _ _ _ ?k1zq ?k2zq ?k3zq ?k4zq ?k5zq ?kKzq ?kdzq ?kuzq ?_; (case k1zq => k_asm); (case k2zq => k_asm); (case k3zq => k_asm); (case k4zq => k_asm); (case k5zq => k_asm); (case kKzq => first | exact rfl | assumption); (case kdzq => ktr_room); (case kuzq => ktr_units)); (intro r9zq news9zq h9zq tk9zq F9zq N9zq hOzq; obtain ⟨q9zq, e2zq, hG9zq, hP9zq⟩ := hOzq; subst e2zq; (try dsimp only); (try k_fold))))) | (have tokzq : PassTok := PassTok.mk; walk1 <;> (try clear tokzq))) | (k_unfold; (try dsimp only)) | (k_end; wrow_close) | walk1 | (dsimp only; walk1) | (leave1; walk_say "STEP leave1"; try dsimp only) | fail "no step")); (all_goals (try (with_reducible refine Halt.mk ?_))))
    rename News _ _ _ _ => lN'
    rename (@LT.lt Nat _ _ _ ∧ _) => lo8
    refine led_head lN' fun D7 e7 => ?_
    subst e7
    have q1 := allLt_ne lo8.2.2.2
    refine cend_new (by assumption) lN' (Nat.ne_of_gt lo8.1) (Nat.ne_of_gt lo8.2.1) (Nat.ne_of_gt lo8.2.2.1) off8 (Or.inr ⟨_, List.mem_cons_of_mem _ (List.mem_append.mpr (.inr (List.mem_cons_of_mem _ hm))), rfl, _, rfl⟩) ⟨(D7, _) :: tl, rfl, ?_, ?_⟩
    · intro p hp q hq e
      rcases List.mem_cons.mp hp with rfl | hp
      · exact q1 q (List.mem_append.mpr (.inr hq)) e.symm
      · exact htl p hp q hq e
    rw [List.take_add_one, List.getElem?_eq_getElem hi]
    refine RowVals.snoc (hR.mono fun q hq => List.mem_cons_of_mem _ hq) ⟨_, _, _, rfl, List.mem_cons_self, ?_⟩
    have e : rows.getD i [] = rows[i] := by rw [List.getD_eq_getElem?_getD, List.getElem?_eq_getElem hi]; rfl
    exact e ▸ hii
  · rintro g8 ys nx ⟨tl, rfl, htl, hR⟩
    unfold LCg.FinE
    intro D8 h8 tk8 F8 N8 off8
    clear lF' lN'
    rw [hvl, List.take_length] at hR
    have hDn := off1_ne off8
    have d1 : @Ne Nat D8 (L' + 1) := Ne.symm (hDn (L' + 1, orow) (List.mem_append.mpr (.inr List.mem_cons_self)))
    have hled : ∀ q ∈ tl ++ news, q.1 ≠ L' + 1 := by
      intro q hq
      rcases List.mem_append.mp hq with hq | hq
      · exact htl q hq _ List.mem_cons_self
      · exact hL1 q hq
    have hG2 : Grows news ((D8, LCg.lst ys) :: (tl ++ news)) := Grows.cons ⟨tl, rfl, fun p hp q hq => htl p hp q (List.mem_cons_of_mem _ hq)⟩ (fun q hq => hDn q (by
      rcases List.mem_append.mp hq with hq | hq
      · exact List.mem_append.mpr (.inl hq)
      · exact List.mem_append.mpr (.inr (List.mem_cons_of_mem _ hq))))
    have N9 : News g' L' h8 ((L' + 1, orow) :: (D8, LCg.lst ys) :: (tl ++ news)) := fun q hq => N8 q (by
      simp only [List.mem_cons, List.mem_append] at hq ⊢
      rcases hq with h | h | h | h <;> simp [h])
    have hled2 : ∀ q ∈ (D8, LCg.lst ys) :: (tl ++ news), q.1 ≠ L' + 1 := ne_cons d1 hled
    clear N8
    have F9 : Fr g' L' h8 (mT p word t) := by with_unfolding_all exact F8
    clear F8
    walk1
    dsimp only
    refine wpAny_execs_cons ?_
    refine cut_stmt (Stage s g' L' (mT p word t) (L' + 1) news (turn1 W word rows)) ?_ ?_
    · ((repeat' (first | ((with_reducible refine Halt.mk ?_); first | (safely (with_reducible (k_here; (with_reducible show wpAny _ _ (call (Value.builtin "len") [Value.ref _]) _ _ _); k_dflt (refine' len_led ?Nzq ?mzq ?ezq ?azq ?bzq ?_; (case Nzq => k_asm); (case mzq => first | assumption | exact List.mem_cons_of_mem _ (by assumption)); (case ezq => assumption); (case azq => assumption); (case bzq => assumption))))) | (safely (with_reducible (k_here; (with_reducible show wpAny _ _ (subscriptTail (PySem.Expr.Name (PySem.Str.ofString "rows") _) (PySem.Expr.Slice none none (some _) _) (Value.ref _) (Value.ref _)) _ _ _); k_dflt (refine' rev_led ?Fzq ?Nzq ?lzq ?kzq ?_ ?szq ?tzq ?zzq; (case Fzq => k_asm); (case Nzq => k_asm); (case lzq => k_mem); (case kzq => exact IsPart.int _ _); (case szq => with_unfolding_all rfl); (case tzq => kmk_pure); (case zzq => assumption)); intro D'zq h'zq F'zq N'zq l1zq; (try k_lt l1zq); (try k_sweep)))) | (safely (with_reducible (k_here; (with_reducible show wpAny _ _ (subscriptTail _ _ (Value.ref _) (Value.int _ _)) _ _ _); (with_unfolding_all refine' item_led ?Nzq ?mzq ?azq ?bzq ?xzq ?_ ?szq; (case Nzq => assumption); (case mzq => first | assumption | k_mem); (case azq => first | assumption | decide); (case bzq => first | assumption | decide); (case xzq => assumption); (case szq => with_unfolding_all rfl)); k_whole))) | (safely (with_reducible (k_here; (with_reducible show wpAny _ _ (call (Value.ref 84) [Value.int _ _, Value.int _ _, Value.ref _]) _ _ _); k_dflt (refine' plane_con _ _ _ _ _ _ _ _ _ _ _ _ _ _ _ _ _ _ _ _ _ _ _ ?k1zq ?k2zq ?k3zq ?k4zq ?k5zq ?kKzq ?kdzq ?kuzq ?_; (case k1zq => k_asm); (case k2zq => k_asm); (case k3zq => k_asm); (case k4zq => k_asm); (case k5zq => k_asm); (case kKzq => first | exact rfl | assumption); (case kdzq => ktr_room); (case kuzq => ktr_units)); (intro r9zq news9zq h9zq tk9zq F9zq N9zq hOzq; obtain ⟨q9zq, e2zq, hG9zq, hP9zq⟩ := hOzq; subst e2zq; (try dsimp only); (try k_fold))))) | (have tokzq : PassTok := PassTok.mk; walk1 <;> (try clear tokzq))) | (k_unfold; (try dsimp only)) | (k_end; wrow_close) | walk1 | (dsimp only; walk1) | (leave1; walk_say "STEP leave1"; try dsimp only) | fail "no step")); (all_goals (try (with_reducible refine Halt.mk ?_))))
      · dsimp only
        rename Fr _ _ _ _ => lF'
        rename News _ _ _ _ => lN'
        rename IsRange _ _ _ _ _ _ _ _ => rgX
        rename (List.any _ _ = true) => hw
        dsimp only at rgX
        refine led_obj (News.tail lN') fun oc1 e1 => ?_
        subst e1
        have hWn : W = ((W.toNat : Nat) : Int) := by have := h.w0; omega
        rename (_ = Data.cell (some (Value.ref D8))) => hcell
        have N2 := News.tail lN'
        clear lN'
        have hRv : RowVals ((D8, LCg.lst ys) :: (tl ++ news)) ys rows := hR.mono fun q hq => List.mem_cons_of_mem _ (List.mem_append.mpr (.inl hq))
        have hRl : ys.length ≤ 4 := by rw [hR.1]; exact hlen
        with_unfolding_all refine ccrange_J (fun i2 zs nx => ∃ t2, nx = t2 ++ ((L' + 1, oc1) :: (D8, LCg.lst ys) :: (tl ++ news)) ∧ (∀ p ∈ t2, ∀ q ∈ (L' + 1, oc1) :: (D8, LCg.lst ys) :: (tl ++ news), p.1 ≠ q.1) ∧ RowVals t2 zs ((List.range i2).map fun (x : Nat) => rows.map fun r => r.getD x 0)) rfl (fun _ _ => rfl) (fun _ => rfl) rfl rfl lF' N2 rgX hWn (by have := h.w4; simp only [sizeLine]; omega) ⟨[], rfl, apart_nil, RowVals.nil _⟩ ?_ ?_
        · rintro i2 zs nx t8 I2 oI2 C2 oC2 c2 oc2 D2 h2 tk2 E2 hi2 ⟨t2, rfl, ht2, hR2⟩ hoc2 F2 N2' off2 ne2
          (try k_fold)
          ((repeat' (first | ((with_reducible refine Halt.mk ?_); first | (safely (with_reducible (k_here; (with_reducible show wpAny _ _ (call (Value.builtin "len") [Value.ref _]) _ _ _); k_dflt (refine' len_led ?Nzq ?mzq ?ezq ?azq ?bzq ?_; (case Nzq => k_asm); (case mzq => first | assumption | exact List.mem_cons_of_mem _ (by assumption)); (case ezq => assumption); (case azq => assumption); (case bzq => assumption))))) | (safely (with_reducible (k_here; (with_reducible show wpAny _ _ (subscriptTail (PySem.Expr.Name (PySem.Str.ofString "rows") _) (PySem.Expr.Slice none none (some _) _) (Value.ref _) (Value.ref _)) _ _ _); k_dflt (refine' rev_led ?Fzq ?Nzq ?lzq ?kzq ?_ ?szq ?tzq ?zzq; (case Fzq => k_asm); (case Nzq => k_asm); (case lzq => k_mem); (case kzq => exact IsPart.int _ _); (case szq => with_unfolding_all rfl); (case tzq => kmk_pure); (case zzq => assumption)); intro D'zq h'zq F'zq N'zq l1zq; (try k_lt l1zq); (try k_sweep)))) | (safely (with_reducible (k_here; (with_reducible show wpAny _ _ (subscriptTail _ _ (Value.ref _) (Value.int _ _)) _ _ _); (with_unfolding_all refine' item_led ?Nzq ?mzq ?azq ?bzq ?xzq ?_ ?szq; (case Nzq => assumption); (case mzq => first | assumption | k_mem); (case azq => first | assumption | decide); (case bzq => first | assumption | decide); (case xzq => assumption); (case szq => with_unfolding_all rfl)); k_whole))) | (safely (with_reducible (k_here; (with_reducible show wpAny _ _ (call (Value.ref 84) [Value.int _ _, Value.int _ _, Value.ref _]) _ _ _); k_dflt (refine' plane_con _ _ _ _ _ _ _ _ _ _ _ _ _ _ _ _ _ _ _ _ _ _ _ ?k1zq ?k2zq ?k3zq ?k4zq ?k5zq ?kKzq ?kdzq ?kuzq ?_; (case k1zq => k_asm); (case k2zq => k_asm); (case k3zq => k_asm); (case k4zq => k_asm); (case k5zq => k_asm); (case kKzq => first | exact rfl | assumption); (case kdzq => ktr_room); (case kuzq => ktr_units)); (intro r9zq news9zq h9zq tk9zq F9zq N9zq hOzq; obtain ⟨q9zq, e2zq, hG9zq, hP9zq⟩ := hOzq; subst e2zq; (try dsimp only); (try k_fold))))) | (have tokzq : PassTok := PassTok.mk; walk1 <;> (try clear tokzq))) | (k_unfold; (try dsimp only)) | (k_end; wrow_close) | walk1 | (dsimp only; walk1) | (leave1; walk_say "STEP leave1"; try dsimp only) | fail "no step")); (all_goals (try (with_reducible refine Halt.mk ?_))))
          rename News _ _ _ _ => lN'
          rename Fr _ _ _ _ => lF'
          with_unfolding_all refine clist_Jm (fun i3 us => IntsAre us ((rows.take i3).map fun r => r.getD i2 0)) rfl lF' lN' (vs := ys) (k := ys.length) ?_ (by simp only [sizeLine]; omega) .nil ?_ ?_
          · simp only [List.mem_cons, List.mem_append]
            simp
          · intro i3 us v3 I3 oI3 C3 oC3 D3 m3 h3 tk3 E3 hv3 hus hC3 hx3 F3 N3 off3 ne3
            have hi3 : i3 < rows.length := by
              rw [← hR.1]
              exact (List.getElem?_eq_some_iff.mp hv3).1
            obtain ⟨v', hv', bi, ws, ni, rfl, hmi, hii⟩ := hR.2 i3 (rows.getD i3 []) (by simp [List.getD_eq_getElem?_getD, hi3])
            rw [hv3] at hv'
            cases hv'
            have hrow : rows.getD i3 [] ∈ rows := by rw [List.getD_eq_getElem?_getD, List.getElem?_eq_getElem hi3]; exact List.getElem_mem _
            have hwl := h.wl _ hrow
            obtain ⟨tv, hxv⟩ := int_at hii (i := i2) (by omega)
            have a0 : (0 : Int) ≤ (i2 : Int) := by omega
            have a1 : (i2 : Int) < 2 ^ 63 := by have := h.w4; omega
            have hxv' : ws[((i2 : Int)).toNat]? = some (.int ((rows.getD i3 []).getD i2 0) tv) := by simpa using hxv
            have hmi' : (bi, PySem.W.listOf (List.toArray ws) ni) ∈ t2 ++ ((L' + 1, oc1) :: (D8, LCg.lst ys) :: (tl ++ news)) := by
              simp only [List.mem_cons, List.mem_append]
              exact .inr (.inr (.inr (.inl hmi)))
            (try k_fold)
            ((repeat' (first | ((with_reducible refine Halt.mk ?_); first | (safely (with_reducible (k_here; (with_reducible show wpAny _ _ (call (Value.builtin "len") [Value.ref _]) _ _ _); k_dflt (refine' len_led ?Nzq ?mzq ?ezq ?azq ?bzq ?_; (case Nzq => k_asm); (case mzq => first | assumption | exact List.mem_cons_of_mem _ (by assumption)); (case ezq => assumption); (case azq => assumption); (case bzq => assumption))))) | (safely (with_reducible (k_here; (with_reducible show wpAny _ _ (subscriptTail (PySem.Expr.Name (PySem.Str.ofString "rows") _) (PySem.Expr.Slice none none (some _) _) (Value.ref _) (Value.ref _)) _ _ _); k_dflt (refine' rev_led ?Fzq ?Nzq ?lzq ?kzq ?_ ?szq ?tzq ?zzq; (case Fzq => k_asm); (case Nzq => k_asm); (case lzq => k_mem); (case kzq => exact IsPart.int _ _); (case szq => with_unfolding_all rfl); (case tzq => kmk_pure); (case zzq => assumption)); intro D'zq h'zq F'zq N'zq l1zq; (try k_lt l1zq); (try k_sweep)))) | (safely (with_reducible (k_here; (with_reducible show wpAny _ _ (subscriptTail _ _ (Value.ref _) (Value.int _ _)) _ _ _); (with_unfolding_all refine' item_led ?Nzq ?mzq ?azq ?bzq ?xzq ?_ ?szq; (case Nzq => assumption); (case mzq => first | assumption | k_mem); (case azq => first | assumption | decide); (case bzq => first | assumption | decide); (case xzq => assumption); (case szq => with_unfolding_all rfl)); k_whole))) | (safely (with_reducible (k_here; (with_reducible show wpAny _ _ (call (Value.ref 84) [Value.int _ _, Value.int _ _, Value.ref _]) _ _ _); k_dflt (refine' plane_con _ _ _ _ _ _ _ _ _ _ _ _ _ _ _ _ _ _ _ _ _ _ _ ?k1zq ?k2zq ?k3zq ?k4zq ?k5zq ?kKzq ?kdzq ?kuzq ?_; (case k1zq => k_asm); (case k2zq => k_asm); (case k3zq => k_asm); (case k4zq => k_asm); (case k5zq => k_asm); (case kKzq => first | exact rfl | assumption); (case kdzq => ktr_room); (case kuzq => ktr_units)); (intro r9zq news9zq h9zq tk9zq F9zq N9zq hOzq; obtain ⟨q9zq, e2zq, hG9zq, hP9zq⟩ := hOzq; subst e2zq; (try dsimp only); (try k_fold))))) | (have tokzq : PassTok := PassTok.mk; walk1 <;> (try clear tokzq))) | (k_unfold; (try dsimp only)) | (k_end; wrow_close) | walk1 | (dsimp only; walk1) | (leave1; walk_say "STEP leave1"; try dsimp only) | fail "no step")); (all_goals (try (with_reducible refine Halt.mk ?_))))
            refine cend_same (by assumption) (by assumption) off3 (Or.inr ⟨LCg.lst ys, ?_, rfl, _, rfl⟩) ⟨rfl, ?_⟩
            · simp only [List.mem_cons, List.mem_append]
              simp
            · rw [List.take_add_one, List.getElem?_eq_getElem hi3, List.map_append]
              have e : rows.getD i3 [] = rows[i3] := by rw [List.getD_eq_getElem?_getD, List.getElem?_eq_getElem hi3]; rfl
              have e' : ((i2 : Int)).toNat = i2 := by omega
              rw [← e, e']
              exact ints_snoc hus _ _
          · intro g3 us hus
            unfold LCg.FinE
            intro D3 h3 tk3 F3 N3 off3
            clear lF' lN'
            rw [hR.1, List.take_length] at hus
            have hDn := off1_ne off3
            refine cend4_new F3 N3 off3 off2 ⟨(D3, LCg.lst us) :: t2, rfl, ?_, ?_⟩
            · intro p hp q hq e
              rcases List.mem_cons.mp hp with rfl | hp
              · exact hDn q (by simp only [List.mem_cons, List.mem_append] at hq ⊢; rcases hq with h | h | h | h <;> simp [h]) e.symm
              · exact ht2 p hp q hq e
            · rw [List.range_succ, List.map_append]
              exact RowVals.snoc (hR2.mono fun q hq => List.mem_cons_of_mem _ hq) ⟨_, _, _, rfl, List.mem_cons_self, hus⟩
        · rintro D2 h2 tk2 zs nx ⟨t2, rfl, ht2, hR2⟩ F2 N2' off2
          have hDn := off1_ne off2
          clear lF' rgX
          have d2 : @Ne Nat D2 (L' + 1) := Ne.symm (hDn (L' + 1, oc1) (List.mem_append.mpr (.inr List.mem_cons_self)))
          have N4 : News g' L' h2 ((L' + 1, oc1) :: (D2, LCg.lst zs) :: (t2 ++ ((D8, LCg.lst ys) :: (tl ++ news)))) := fun q hq => N2' q (by
            simp only [List.mem_cons, List.mem_append] at hq ⊢
            rcases hq with h | h | h | h | h | h <;> simp [h])
          have hled4 : ∀ q ∈ (D2, LCg.lst zs) :: (t2 ++ ((D8, LCg.lst ys) :: (tl ++ news))), q.1 ≠ L' + 1 := by
            refine ne_cons d2 ?_
            intro q hq
            rcases List.mem_append.mp hq with hq | hq
            · exact ht2 q hq _ List.mem_cons_self
            · exact hled2 q hq
          have hG4 : Grows news ((D2, LCg.lst zs) :: (t2 ++ ((D8, LCg.lst ys) :: (tl ++ news)))) := by
            refine hG2.trans (Grows.cons ⟨t2, rfl, fun p hp q hq => ht2 p hp q (List.mem_cons_of_mem _ hq)⟩ fun q hq => hDn q ?_)
            rcases List.mem_append.mp hq with hq | hq
            · exact List.mem_append.mpr (.inl hq)
            · exact List.mem_append.mpr (.inr (List.mem_cons_of_mem _ hq))
          clear N2'
          have hw' : turn1 W word rows = transp W rows := by have e : tall word = true := hw; unfold turn1; rw [if_pos e]
          rw [hw']
          (try k_fold)
          ((repeat' (first | ((with_reducible refine Halt.mk ?_); first | (safely (with_reducible (k_here; (with_reducible show wpAny _ _ (call (Value.builtin "len") [Value.ref _]) _ _ _); k_dflt (refine' len_led ?Nzq ?mzq ?ezq ?azq ?bzq ?_; (case Nzq => k_asm); (case mzq => first | assumption | exact List.mem_cons_of_mem _ (by assumption)); (case ezq => assumption); (case azq => assumption); (case bzq => assumption))))) | (safely (with_reducible (k_here; (with_reducible show wpAny _ _ (subscriptTail (PySem.Expr.Name (PySem.Str.ofString "rows") _) (PySem.Expr.Slice none none (some _) _) (Value.ref _) (Value.ref _)) _ _ _); k_dflt (refine' rev_led ?Fzq ?Nzq ?lzq ?kzq ?_ ?szq ?tzq ?zzq; (case Fzq => k_asm); (case Nzq => k_asm); (case lzq => k_mem); (case kzq => exact IsPart.int _ _); (case szq => with_unfolding_all rfl); (case tzq => kmk_pure); (case zzq => assumption)); intro D'zq h'zq F'zq N'zq l1zq; (try k_lt l1zq); (try k_sweep)))) | (safely (with_reducible (k_here; (with_reducible show wpAny _ _ (subscriptTail _ _ (Value.ref _) (Value.int _ _)) _ _ _); (with_unfolding_all refine' item_led ?Nzq ?mzq ?azq ?bzq ?xzq ?_ ?szq; (case Nzq => assumption); (case mzq => first | assumption | k_mem); (case azq => first | assumption | decide); (case bzq => first | assumption | decide); (case xzq => assumption); (case szq => with_unfolding_all rfl)); k_whole))) | (safely (with_reducible (k_here; (with_reducible show wpAny _ _ (call (Value.ref 84) [Value.int _ _, Value.int _ _, Value.ref _]) _ _ _); k_dflt (refine' plane_con _ _ _ _ _ _ _ _ _ _ _ _ _ _ _ _ _ _ _ _ _ _ _ ?k1zq ?k2zq ?k3zq ?k4zq ?k5zq ?kKzq ?kdzq ?kuzq ?_; (case k1zq => k_asm); (case k2zq => k_asm); (case k3zq => k_asm); (case k4zq => k_asm); (case k5zq => k_asm); (case kKzq => first | exact rfl | assumption); (case kdzq => ktr_room); (case kuzq => ktr_units)); (intro r9zq news9zq h9zq tk9zq F9zq N9zq hOzq; obtain ⟨q9zq, e2zq, hG9zq, hP9zq⟩ := hOzq; subst e2zq; (try dsimp only); (try k_fold))))) | (have tokzq : PassTok := PassTok.mk; walk1 <;> (try clear tokzq))) | (k_unfold; (try dsimp only)) | (k_end; wrow_close) | walk1 | (dsimp only; walk1) | (leave1; walk_say "STEP leave1"; try dsimp only) | fail "no step")); (all_goals (try (with_reducible refine Halt.mk ?_))))
          exact stage_end (by assumption) (by assumption) (by assumption) hled4 hG4 (hR2.mono fun q hq => List.mem_cons_of_mem _ (List.mem_append.mpr (.inl hq)))
      · rename News _ _ _ _ => lN'
        rename (List.any _ _ = false) => hw
        have hw' : turn1 W word rows = rows := by have e : tall word = false := hw; unfold turn1; rw [e]; rfl
        rw [hw']
        have hRv : RowVals ((D8, LCg.lst ys) :: (tl ++ news)) ys rows := hR.mono fun q hq => List.mem_cons_of_mem _ (List.mem_append.mpr (.inl hq))
        exact stage_end (by assumption) (News.tail lN') (by assumption) hled2 hG2 hRv
    · rintro s1 ⟨h1, tk1, led1, oc1, B1, rfl, F1, N1, hc1, hne1, hG1, hR1⟩
      have hb1 : (turn1 W word rows).length ≤ 4 ∧ ∀ r ∈ turn1 W word rows, r.length ≤ 4 := turn1_small h word
      clear hG2 hled2 hled hDn hR
      generalize eR1 : turn1 W word rows = R1 at hR1 hb1 ⊢
      obtain ⟨ys1, k1, hm1, hl1, hr1⟩ := hR1
      dsimp only
      refine wpAny_execs_cons ?_
      refine cut_stmt (Stage s g' L' (mT p word t) (L' + 1) news (turn2 word R1)) ?_ ?_
      · ((repeat' (first | ((with_reducible refine Halt.mk ?_); first | (safely (with_reducible (k_here; (with_reducible show wpAny _ _ (call (Value.builtin "len") [Value.ref _]) _ _ _); k_dflt (refine' len_led ?Nzq ?mzq ?ezq ?azq ?bzq ?_; (case Nzq => k_asm); (case mzq => first | assumption | exact List.mem_cons_of_mem _ (by assumption)); (case ezq => assumption); (case azq => assumption); (case bzq => assumption))))) | (safely (with_reducible (k_here; (with_reducible show wpAny _ _ (subscriptTail (PySem.Expr.Name (PySem.Str.ofString "rows") _) (PySem.Expr.Slice none none (some _) _) (Value.ref _) (Value.ref _)) _ _ _); k_dflt (refine' rev_led ?Fzq ?Nzq ?lzq ?kzq ?_ ?szq ?tzq ?zzq; (case Fzq => k_asm); (case Nzq => k_asm); (case lzq => k_mem); (case kzq => exact IsPart.int _ _); (case szq => with_unfolding_all rfl); (case tzq => kmk_pure); (case zzq => assumption)); intro D'zq h'zq F'zq N'zq l1zq; (try k_lt l1zq); (try k_sweep)))) | (safely (with_reducible (k_here; (with_reducible show wpAny _ _ (subscriptTail _ _ (Value.ref _) (Value.int _ _)) _ _ _); (with_unfolding_all refine' item_led ?Nzq ?mzq ?azq ?bzq ?xzq ?_ ?szq; (case Nzq => assumption); (case mzq => first | assumption | k_mem); (case azq => first | assumption | decide); (case bzq => first | assumption | decide); (case xzq => assumption); (case szq => with_unfolding_all rfl)); k_whole))) | (safely (with_reducible (k_here; (with_reducible show wpAny _ _ (call (Value.ref 84) [Value.int _ _, Value.int _ _, Value.ref _]) _ _ _); k_dflt (refine' plane_con _ _ _ _ _ _ _ _ _ _ _ _ _ _ _ _ _ _ _ _ _ _ _ ?k1zq ?k2zq ?k3zq ?k4zq ?k5zq ?kKzq ?kdzq ?kuzq ?_; (case k1zq => k_asm); (case k2zq => k_asm); (case k3zq => k_asm); (case k4zq => k_asm); (case k5zq => k_asm); (case kKzq => first | exact rfl | assumption); (case kdzq => ktr_room); (case kuzq => ktr_units)); (intro r9zq news9zq h9zq tk9zq F9zq N9zq hOzq; obtain ⟨q9zq, e2zq, hG9zq, hP9zq⟩ := hOzq; subst e2zq; (try dsimp only); (try k_fold))))) | (have tokzq : PassTok := PassTok.mk; walk1 <;> (try clear tokzq))) | (k_unfold; (try dsimp only)) | (k_end; wrow_close) | walk1 | (dsimp only; walk1) | (leave1; walk_say "STEP leave1"; try dsimp only) | fail "no step")); (all_goals (try (with_reducible refine Halt.mk ?_))))
        · dsimp only
          rename Fr _ _ _ _ => lF'
          rename News _ _ _ _ => lN'
          rename (List.any _ _ = true) => hw
          have N2 := News.tail lN'
          clear lN'
          have hm1' := List.mem_cons_of_mem (L' + 1, oc1) hm1
          with_unfolding_all refine clist_J (fun i zs nx => ∃ t2, nx = t2 ++ ((L' + 1, oc1) :: led1) ∧ (∀ p ∈ t2, ∀ q ∈ (L' + 1, oc1) :: led1, p.1 ≠ q.1) ∧ RowVals t2 zs ((R1.take i).map List.reverse)) rfl lF' N2 hm1' (by simp only [sizeLine]; omega) ⟨[], rfl, apart_nil, RowVals.nil _⟩ ?_ ?_
          · rintro i zs nx v I8 oI8 C8 oC8 D8 m8 h8 tk8 E8 hv ⟨t2, rfl, ht2, hR2⟩ hC8 hx8 F8 N8 off8 ne8
            have hi : i < R1.length := by
              rw [← hl1]
              exact (List.getElem?_eq_some_iff.mp hv).1
            obtain ⟨v', hv', bi, us, ni, rfl, hmi, hii⟩ := hr1 i (R1.getD i []) (by simp [List.getD_eq_getElem?_getD, hi])
            rw [hv] at hv'
            cases hv'
            have hmi' : (bi, PySem.W.listOf (List.toArray us) ni) ∈ t2 ++ ((L' + 1, oc1) :: led1) := List.mem_append.mpr (.inr (List.mem_cons_of_mem _ hmi))
            have hul : us.length ≤ 4 := by
              have e1 := hii.length
              have e2 := hb1.2 (R1.getD i []) (by rw [List.getD_eq_getElem?_getD, List.getElem?_eq_getElem hi]; exact List.getElem_mem _)
              omega
            have hmi8 := N8 _ (List.mem_cons_of_mem _ (List.mem_cons_of_mem _ (List.mem_cons_of_mem _ hmi')))
            have hisl : h8.IsList bi us.toArray := ⟨_, hmi8.1, rfl, ni, rfl⟩
            clear lF'
            (try k_fold)
            ((repeat' (first | ((with_reducible refine Halt.mk ?_); first | (safely (with_reducible (k_here; (with_reducible show wpAny _ _ (call (Value.builtin "len") [Value.ref _]) _ _ _); k_dflt (refine' len_led ?Nzq ?mzq ?ezq ?azq ?bzq ?_; (case Nzq => k_asm); (case mzq => first | assumption | exact List.mem_cons_of_mem _ (by assumption)); (case ezq => assumption); (case azq => assumption); (case bzq => assumption))))) | (safely (with_reducible (k_here; (with_reducible show wpAny _ _ (subscriptTail (PySem.Expr.Name (PySem.Str.ofString "rows") _) (PySem.Expr.Slice none none (some _) _) (Value.ref _) (Value.ref _)) _ _ _); k_dflt (refine' rev_led ?Fzq ?Nzq ?lzq ?kzq ?_ ?szq ?tzq ?zzq; (case Fzq => k_asm); (case Nzq => k_asm); (case lzq => k_mem); (case kzq => exact IsPart.int _ _); (case szq => with_unfolding_all rfl); (case tzq => kmk_pure); (case zzq => assumption)); intro D'zq h'zq F'zq N'zq l1zq; (try k_lt l1zq); (try k_sweep)))) | (safely (with_reducible (k_here; (with_reducible show wpAny _ _ (subscriptTail _ _ (Value.ref _) (Value.int _ _)) _ _ _); (with_unfolding_all refine' item_led ?Nzq ?mzq ?azq ?bzq ?xzq ?_ ?szq; (case Nzq => assumption); (case mzq => first | assumption | k_mem); (case azq => first | assumption | decide); (case bzq => first | assumption | decide); (case xzq => assumption); (case szq => with_unfolding_all rfl)); k_whole))) | (safely (with_reducible (k_here; (with_reducible show wpAny _ _ (call (Value.ref 84) [Value.int _ _, Value.int _ _, Value.ref _]) _ _ _); k_dflt (refine' plane_con _ _ _ _ _ _ _ _ _ _ _ _ _ _ _ _ _ _ _ _ _ _ _ ?k1zq ?k2zq ?k3zq ?k4zq ?k5zq ?kKzq ?kdzq ?kuzq ?_; (case k1zq => k_asm); (case k2zq => k_asm); (case k3zq => k_asm); (case k4zq => k_asm); (case k5zq => k_asm); (case kKzq => first | exact rfl | assumption); (case kdzq => ktr_room); (case kuzq => ktr_units)); (intro r9zq news9zq h9zq tk9zq F9zq N9zq hOzq; obtain ⟨q9zq, e2zq, hG9zq, hP9zq⟩ := hOzq; subst e2zq; (try dsimp only); (try k_fold))))) | (have tokzq : PassTok := PassTok.mk; walk1 <;> (try clear tokzq))) | (k_unfold; (try dsimp only)) | (k_end; wrow_close) | walk1 | (dsimp only; walk1) | (leave1; walk_say "STEP leave1"; try dsimp only) | fail "no step")); (all_goals (try (with_reducible refine Halt.mk ?_))))
            rename News _ _ _ _ => lN'
            rename IntsAre _ (List.reverse _) => hI'
            rename (@LT.lt Nat _ _ _ ∧ _) => lo8
            refine led_head lN' fun D7 e7 => ?_
            subst e7
            have q1 := allLt_ne lo8.2.2.2
            refine cend_new (by assumption) lN' (Nat.ne_of_gt lo8.1) (Nat.ne_of_gt lo8.2.1) (Nat.ne_of_gt lo8.2.2.1) off8 (Or.inr ⟨_, List.mem_cons_of_mem _ (List.mem_append.mpr (.inr hm1')), rfl, _, rfl⟩) ⟨(D7, _) :: t2, rfl, ?_, ?_⟩
            · intro p hp q hq e
              rcases List.mem_cons.mp hp with rfl | hp
              · exact q1 q (List.mem_append.mpr (.inr hq)) e.symm
              · exact ht2 p hp q hq e
            · rw [List.take_add_one, List.getElem?_eq_getElem hi, List.map_append]
              refine RowVals.snoc (hR2.mono fun q hq => List.mem_cons_of_mem _ hq) ⟨_, _, _, rfl, List.mem_cons_self, ?_⟩
              have e : R1.getD i [] = R1[i] := by rw [List.getD_eq_getElem?_getD, List.getElem?_eq_getElem hi]; rfl
              exact e ▸ hI'
          · rintro g8 zs nx ⟨t2, rfl, ht2, hR2⟩
            unfold LCg.FinE
            intro D2 h2 tk2 F2 N2' off2
            have hDn := off1_ne off2
            clear lF' N2
            rw [hl1, List.take_length] at hR2
            have d2 : @Ne Nat D2 (L' + 1) := Ne.symm (hDn (L' + 1, oc1) (List.mem_append.mpr (.inr List.mem_cons_self)))
            have N4 : News g' L' h2 ((L' + 1, oc1) :: (D2, LCg.lst zs) :: (t2 ++ led1)) := fun q hq => N2' q (by
              simp only [List.mem_cons, List.mem_append] at hq ⊢
              rcases hq with h | h | h | h <;> simp [h])
            have hled4 : ∀ q ∈ (D2, LCg.lst zs) :: (t2 ++ led1), q.1 ≠ L' + 1 := by
              refine ne_cons d2 ?_
              intro q hq
              rcases List.mem_append.mp hq with hq | hq
              · exact ht2 q hq _ List.mem_cons_self
              · exact hne1 q hq
            have hG4 : Grows news ((D2, LCg.lst zs) :: (t2 ++ led1)) := by
              refine hG1.trans (Grows.cons ⟨t2, rfl, fun p hp q hq => ht2 p hp q (List.mem_cons_of_mem _ hq)⟩ fun q hq => hDn q ?_)
              rcases List.mem_append.mp hq with hq | hq
              · exact List.mem_append.mpr (.inl hq)
              · exact List.mem_append.mpr (.inr (List.mem_cons_of_mem _ hq))
            clear N2'
            have hw' : turn2 word R1 = R1.map List.reverse := by unfold turn2; rw [if_pos hw]
            rw [hw']
            (try k_fold)
            ((repeat' (first | ((with_reducible refine Halt.mk ?_); first | (safely (with_reducible (k_here; (with_reducible show wpAny _ _ (call (Value.builtin "len") [Value.ref _]) _ _ _); k_dflt (refine' len_led ?Nzq ?mzq ?ezq ?azq ?bzq ?_; (case Nzq => k_asm); (case mzq => first | assumption | exact List.mem_cons_of_mem _ (by assumption)); (case ezq => assumption); (case azq => assumption); (case bzq => assumption))))) | (safely (with_reducible (k_here; (with_reducible show wpAny _ _ (subscriptTail (PySem.Expr.Name (PySem.Str.ofString "rows") _) (PySem.Expr.Slice none none (some _) _) (Value.ref _) (Value.ref _)) _ _ _); k_dflt (refine' rev_led ?Fzq ?Nzq ?lzq ?kzq ?_ ?szq ?tzq ?zzq; (case Fzq => k_asm); (case Nzq => k_asm); (case lzq => k_mem); (case kzq => exact IsPart.int _ _); (case szq => with_unfolding_all rfl); (case tzq => kmk_pure); (case zzq => assumption)); intro D'zq h'zq F'zq N'zq l1zq; (try k_lt l1zq); (try k_sweep)))) | (safely (with_reducible (k_here; (with_reducible show wpAny _ _ (subscriptTail _ _ (Value.ref _) (Value.int _ _)) _ _ _); (with_unfolding_all refine' item_led ?Nzq ?mzq ?azq ?bzq ?xzq ?_ ?szq; (case Nzq => assumption); (case mzq => first | assumption | k_mem); (case azq => first | assumption | decide); (case bzq => first | assumption | decide); (case xzq => assumption); (case szq => with_unfolding_all rfl)); k_whole))) | (safely (with_reducible (k_here; (with_reducible show wpAny _ _ (call (Value.ref 84) [Value.int _ _, Value.int _ _, Value.ref _]) _ _ _); k_dflt (refine' plane_con _ _ _ _ _ _ _ _ _ _ _ _ _ _ _ _ _ _ _ _ _ _ _ ?k1zq ?k2zq ?k3zq ?k4zq ?k5zq ?kKzq ?kdzq ?kuzq ?_; (case k1zq => k_asm); (case k2zq => k_asm); (case k3zq => k_asm); (case k4zq => k_asm); (case k5zq => k_asm); (case kKzq => first | exact rfl | assumption); (case kdzq => ktr_room); (case kuzq => ktr_units)); (intro r9zq news9zq h9zq tk9zq F9zq N9zq hOzq; obtain ⟨q9zq, e2zq, hG9zq, hP9zq⟩ := hOzq; subst e2zq; (try dsimp only); (try k_fold))))) | (have tokzq : PassTok := PassTok.mk; walk1 <;> (try clear tokzq))) | (k_unfold; (try dsimp only)) | (k_end; wrow_close) | walk1 | (dsimp only; walk1) | (leave1; walk_say "STEP leave1"; try dsimp only) | fail "no step")); (all_goals (try (with_reducible refine Halt.mk ?_))))
            exact stage_end (by assumption) (by assumption) (by assumption) hled4 hG4 (hR2.mono fun q hq => List.mem_cons_of_mem _ (List.mem_append.mpr (.inl hq)))
        · rename News _ _ _ _ => lN'
          rename (List.any _ _ = false) => hw
          have hw' : turn2 word R1 = R1 := by unfold turn2; rw [hw]; rfl
          rw [hw']
          exact ⟨_, _, led1, oc1, B1, rfl, by assumption, News.tail lN', hc1, hne1, hG1, ys1, k1, hm1, hl1, hr1⟩
      · have hb2 : (turn2 word R1).length ≤ 4 ∧ ∀ r ∈ turn2 word R1, r.length ≤ 4 := turn2_small hb1 word
        rintro s1 ⟨h2, tk2, led2, oc2, B2, rfl, F2, N2, hc2, hne2, hG2, hR2⟩
        clear hc1 hne1 hG1 hm1 hl1 hr1
        generalize eR2 : turn2 word R1 = R2 at hR2 hb2 ⊢
        obtain ⟨ys2, k2, hm2, hl2, hr2⟩ := hR2
        dsimp only
        refine wpAny_execs_cons ?_
        refine cut_stmt (Stage s g' L' (mT p word t) (L' + 1) news (turn3 word R2)) ?_ ?_
        · have hz2 : ys2.length ≤ sizeLine := by simp only [sizeLine]; omega
          ((repeat' (first | ((with_reducible refine Halt.mk ?_); first | (safely (with_reducible (k_here; (with_reducible show wpAny _ _ (call (Value.builtin "len") [Value.ref _]) _ _ _); k_dflt (refine' len_led ?Nzq ?mzq ?ezq ?azq ?bzq ?_; (case Nzq => k_asm); (case mzq => first | assumption | exact List.mem_cons_of_mem _ (by assumption)); (case ezq => assumption); (case azq => assumption); (case bzq => assumption))))) | (safely (with_reducible (k_here; (with_reducible show wpAny _ _ (subscriptTail (PySem.Expr.Name (PySem.Str.ofString "rows") _) (PySem.Expr.Slice none none (some _) _) (Value.ref _) (Value.ref _)) _ _ _); k_dflt (refine' rev_led ?Fzq ?Nzq ?lzq ?kzq ?_ ?szq ?tzq ?zzq; (case Fzq => k_asm); (case Nzq => k_asm); (case lzq => k_mem); (case kzq => exact IsPart.int _ _); (case szq => with_unfolding_all rfl); (case tzq => kmk_pure); (case zzq => assumption)); intro D'zq h'zq F'zq N'zq l1zq; (try k_lt l1zq); (try k_sweep)))) | (safely (with_reducible (k_here; (with_reducible show wpAny _ _ (subscriptTail _ _ (Value.ref _) (Value.int _ _)) _ _ _); (with_unfolding_all refine' item_led ?Nzq ?mzq ?azq ?bzq ?xzq ?_ ?szq; (case Nzq => assumption); (case mzq => first | assumption | k_mem); (case azq => first | assumption | decide); (case bzq => first | assumption | decide); (case xzq => assumption); (case szq => with_unfolding_all rfl)); k_whole))) | (safely (with_reducible (k_here; (with_reducible show wpAny _ _ (call (Value.ref 84) [Value.int _ _, Value.int _ _, Value.ref _]) _ _ _); k_dflt (refine' plane_con _ _ _ _ _ _ _ _ _ _ _ _ _ _ _ _ _ _ _ _ _ _ _ ?k1zq ?k2zq ?k3zq ?k4zq ?k5zq ?kKzq ?kdzq ?kuzq ?_; (case k1zq => k_asm); (case k2zq => k_asm); (case k3zq => k_asm); (case k4zq => k_asm); (case k5zq => k_asm); (case kKzq => first | exact rfl | assumption); (case kdzq => ktr_room); (case kuzq => ktr_units)); (intro r9zq news9zq h9zq tk9zq F9zq N9zq hOzq; obtain ⟨q9zq, e2zq, hG9zq, hP9zq⟩ := hOzq; subst e2zq; (try dsimp only); (try k_fold))))) | (have tokzq : PassTok := PassTok.mk; walk1 <;> (try clear tokzq))) | (k_unfold; (try dsimp only)) | (k_end; wrow_close) | walk1 | (dsimp only; walk1) | (leave1; walk_say "STEP leave1"; try dsimp only) | fail "no step")); (all_goals (try (with_reducible refine Halt.mk ?_))))
          · rename News _ _ _ _ => lN'
            rename (@LT.lt Nat _ _ _ ∧ _) => lo8
            rename (List.any _ _ = true) => hw
            refine led_head lN' fun Dr er => ?_
            subst er
            have hw' : turn3 word R2 = R2.reverse := by unfold turn3; rw [if_pos hw]
            rw [hw']
            have N4 := fun q hq => lN' q hq
            refine ⟨_, _, (Dr, PySem.W.listOf (List.toArray ys2.reverse) 0) :: led2, _, Dr, rfl, by assumption, fun q hq => lN' q ?_, by assumption, ?_, Grows.cons hG2 (allLt_ne lo8.2.2), ?_⟩
            · simp only [List.mem_cons] at hq ⊢
              rcases hq with h | h | h <;> simp [h]
            · exact ne_cons (Nat.ne_of_gt lo8.2.1) hne2
            · exact RowVals.rows (n := 0) ((RowVals.rev ⟨hl2, hr2⟩).mono fun q hq => List.mem_cons_of_mem _ hq) List.mem_cons_self
          · rename News _ _ _ _ => lN'
            have hw : ([Str.ofString "back", Str.ofString "flip", Str.ofString "left", Str.ofString "cross"].any fun x => x == word) = false := by assumption
            have hw' : turn3 word R2 = R2 := by unfold turn3; rw [hw]; rfl
            rw [hw']
            exact ⟨_, _, led2, oc2, B2, rfl, by assumption, News.tail (News.tail lN'), hc2, hne2, hG2, ys2, k2, hm2, hl2, hr2⟩
        · rintro s1 ⟨h3, tk3, led3, oc3, B3, rfl, F3, N3, hc3, hne3, hG3, hR3⟩
          clear hc2 hne2 hG2 hm2 hl2 hr2
          have eR3 : turn3 word R2 = turned W word rows := by unfold turned; rw [eR1, eR2]
          rw [eR3] at hR3
          have D := turned_dims h word
          obtain ⟨ys3, k3, hm3, hl3, hr3⟩ := id hR3
          have hl0 : 0 < (turned W word rows).length := by rw [D.1]; have := D.2.2.1; omega
          obtain ⟨v0, hv0, b0, us0, n0, rfl, hm0, hi0⟩ := hr3 0 ((turned W word rows).getD 0 []) (by simp [List.getD_eq_getElem?_getD, hl0])
          have hv0' : ys3[((0 : Int)).toNat]? = some (.ref b0) := hv0
          have hl0' : us0.length = (tW word W H).toNat := by
            rw [hi0.length]
            exact D.2.1 _ (by rw [List.getD_eq_getElem?_getD, List.getElem?_eq_getElem hl0]; exact List.getElem_mem _)
          have hl3' : ys3.length = (tH word W H).toNat := hl3.trans D.1
          obtain ⟨d1, d2, d3, d4, d5, d6, d7⟩ := D
          dsimp only
          ((repeat' (first | ((with_reducible refine Halt.mk ?_); first | (safely (with_reducible (k_here; (with_reducible show wpAny _ _ (call (Value.builtin "len") [Value.ref _]) _ _ _); k_dflt (refine' len_led ?Nzq ?mzq ?ezq ?azq ?bzq ?_; (case Nzq => k_asm); (case mzq => first | assumption | exact List.mem_cons_of_mem _ (by assumption)); (case ezq => assumption); (case azq => assumption); (case bzq => assumption))))) | (safely (with_reducible (k_here; (with_reducible show wpAny _ _ (subscriptTail (PySem.Expr.Name (PySem.Str.ofString "rows") _) (PySem.Expr.Slice none none (some _) _) (Value.ref _) (Value.ref _)) _ _ _); k_dflt (refine' rev_led ?Fzq ?Nzq ?lzq ?kzq ?_ ?szq ?tzq ?zzq; (case Fzq => k_asm); (case Nzq => k_asm); (case lzq => k_mem); (case kzq => exact IsPart.int _ _); (case szq => with_unfolding_all rfl); (case tzq => kmk_pure); (case zzq => assumption)); intro D'zq h'zq F'zq N'zq l1zq; (try k_lt l1zq); (try k_sweep)))) | (safely (with_reducible (k_here; (with_reducible show wpAny _ _ (subscriptTail _ _ (Value.ref _) (Value.int _ _)) _ _ _); (with_unfolding_all refine' item_led ?Nzq ?mzq ?azq ?bzq ?xzq ?_ ?szq; (case Nzq => assumption); (case mzq => first | assumption | k_mem); (case azq => first | assumption | decide); (case bzq => first | assumption | decide); (case xzq => assumption); (case szq => with_unfolding_all rfl)); k_whole))) | (safely (with_reducible (k_here; (with_reducible show wpAny _ _ (call (Value.ref 84) [Value.int _ _, Value.int _ _, Value.ref _]) _ _ _); k_dflt (refine' plane_con _ _ _ _ _ _ _ _ _ _ _ _ _ _ _ _ _ _ _ _ _ _ _ ?k1zq ?k2zq ?k3zq ?k4zq ?k5zq ?kKzq ?kdzq ?kuzq ?_; (case k1zq => k_asm); (case k2zq => k_asm); (case k3zq => k_asm); (case k4zq => k_asm); (case k5zq => k_asm); (case kKzq => first | exact rfl | assumption); (case kdzq => ktr_room); (case kuzq => ktr_units)); (intro r9zq news9zq h9zq tk9zq F9zq N9zq hOzq; obtain ⟨q9zq, e2zq, hG9zq, hP9zq⟩ := hOzq; subst e2zq; (try dsimp only); (try k_fold))))) | (have tokzq : PassTok := PassTok.mk; walk1 <;> (try clear tokzq))) | (k_unfold; (try dsimp only)) | (k_end; wrow_close) | walk1 | (dsimp only; walk1) | (leave1; walk_say "STEP leave1"; try dsimp only) | fail "no step")); (all_goals (try (with_reducible refine Halt.mk ?_))))
          rename PlaneAt _ _ _ _ _ _ => hP9
          rename Grows _ _ => hGx
          refine hret _ _ _ _ (by assumption) (by assumption) ⟨_, B3, rfl, (Grows.cons hG3 hne3).trans hGx, hP9, hR3.mono fun q9 hq9 => hGx.sub q9 (List.mem_cons_of_mem _ hq9), d1, d3, d4, d2, d5, d6, d7⟩
end Mine
end

local macro_rules | `(tactic| walk_at "subscriptTail Name Constant ref int") => `(tactic| ((fail_if_success (have := ‹PassTok›)); refine Halt.out ?_))
section
-- B5
set_option maxRecDepth 100000
set_option maxHeartbeats 400000000
namespace Mine



/-- a ledger and what stays of it without the entry of S -/
inductive SplitL (S : Addr) (o : Obj) : List (Addr × Obj) → List (Addr × Obj) → Prop
  | here {r : List (Addr × Obj)} : SplitL S o ((S, o) :: r) r
  | there {q : Addr × Obj} {l r : List (Addr × Obj)} : SplitL S o l r → SplitL S o (q :: l) (q :: r)

theorem SplitL.mem {S : Addr} {o : Obj} {l r : List (Addr × Obj)} (h : SplitL S o l r) : ∀ q ∈ (S, o) :: r, q ∈ l := by
  induction h with
  | here => exact fun q hq => hq
  | there h ih =>
    intro q hq
    rcases List.mem_cons.mp hq with rfl | hq
    · exact List.mem_cons_of_mem _ (ih _ List.mem_cons_self)
    · rcases List.mem_cons.mp hq with rfl | hq
      · exact List.mem_cons_self
      · exact List.mem_cons_of_mem _ (ih _ (List.mem_cons_of_mem _ hq))

/-- the source's object -/
def src (a b : Int) (t u : Tok) (n : Nat) : Obj := PySem.W.listOf (List.toArray [.int a t, .int b u]) n

theorem take_con {w : World} {mean : ExcName → Option Value} {mg mb : Str → Option Value} (news rest : List (Addr × Obj)) (S : Addr) (a b : Int) (t u : Tok) (n : Nat) (top : Int) (tt : Tok)
    (hs : SplitL S (src a b t u n) news rest) (hne : ∀ q ∈ rest, q.1 ≠ S) (a0 : 0 ≤ a) (b0 : 0 ≤ b) (b1 : b < 2147483647) (top0 : 0 < top) (top1 : top ≤ 65536) :
    Con w mean mg mb 1 126 [.ref S, .int top tt] news (fun r news' => ∃ d td a' b' t' u' n', r = .int d td ∧ 0 ≤ d ∧ d < top ∧ 0 ≤ a' ∧ 0 ≤ b' ∧ b' < 2147483647 ∧ news' = (S, src a' b' t' u' n') :: rest) := by
  w_on
  unfold Con
  k_fill
  intro dp un gd cn cs ad ccd cl outer A₀ base h₀ L m s Q E B F X N0 T hk hd hu hret
  have N : News h₀ L s.heap ((S, PySem.W.listOf (List.toArray [.int a t, .int b u]) n) :: rest) := fun q hq => N0 q (hs.mem q hq)
  clear N0 hs
  refine wpAny_call ?_
  k_dflt cell_enter
  ((repeat' (first | ((with_reducible refine Halt.mk ?_); first | (safely (with_reducible (k_here; (with_reducible show wpAny _ _ (subscriptTail _ _ (Value.ref _) (Value.int _ _)) _ _ _); (with_unfolding_all refine' item_led ?Nzq ?mzq ?azq ?bzq ?xzq ?_ ?szq; (case Nzq => assumption); (case mzq => first | assumption | k_mem); (case azq => decide); (case bzq => decide); (case xzq => exact rfl); (case szq => with_unfolding_all rfl)); k_whole))) | (have tokzq : PassTok := PassTok.mk; walk1 <;> (try clear tokzq))) | (k_unfold; (try dsimp only)) | (k_end; wrow_close) | walk1 | (dsimp only; walk1) | (leave1; walk_say "STEP leave1"; try dsimp only) | fail "no step")); (all_goals (try (with_reducible refine Halt.mk ?_))))
  · refine hret _ _ _ _ (by assumption) (by assumption) ⟨_, _, _, _, _, _, _, rfl, ?_, ?_, ?_, b0, b1, rfl⟩
    · exact Int.fmod_nonneg_of_pos _ top0
    · exact Int.fmod_lt_of_pos _ top0
    · exact Int.fdiv_nonneg a0 (Int.le_of_lt top0)
  · refine hret _ _ _ _ (by assumption) (by assumption) ⟨_, _, _, _, _, _, _, rfl, ?_, ?_, a0, ?_, ?_, rfl⟩
    · exact Int.fmod_nonneg_of_pos _ top0
    · exact Int.fmod_lt_of_pos _ top0
    · exact Int.fmod_nonneg_of_pos _ (by decide)
    · exact Int.fmod_lt_of_pos _ (by decide)
end Mine
end

local macro_rules | `(tactic| walk_at "no such key 6") => `(tactic| skip)
section
-- B6
set_option maxRecDepth 100000
set_option maxHeartbeats 400000000
namespace Mine


theorem len_led' {prog : Program} {w : World} {A : Around} {E : Value → Shared → Prop} {s : Shared} {h₀ : Heap} {L l : Addr} {news : List (Addr × Obj)} {vs : List Value} {n : Nat} {Q : Value → Shared → Prop}
    (N : News h₀ L s.heap news) (hm : (l, PySem.W.listOf (List.toArray vs) n) ∈ news) (e : vs.length ≤ 65536)
    (h : Q (.int (vs.length : Int) (s.toks + 1)) { s with toks := s.toks + 1 + 1 }) : wpAny (model prog w) A (call (.builtin "len") [.ref l]) Q E s := by
  have e1 : (((List.toArray vs).size : Nat) : Int) = (vs.length : Int) := by simp
  refine len_list (items := List.toArray vs) ⟨_, (N _ hm).1, rfl, n, rfl⟩ (by rw [e1]; exact Int.lt_of_le_of_lt (b := 65536) (by omega) (by decide)) ?_
  rw [e1]
  exact h

theorem item_ledX {prog : Program} {w : World} {A : Around} {E : Value → Shared → Prop} {s : Shared} {h₀ : Heap} {L : Addr} {news : List (Addr × Obj)} {value slice : PySem.Expr} {l : Addr} {vs : List Value} {n : Nat} {k : Int} {u : Tok} {Q : Value → Shared → Prop}
    (N : News h₀ L s.heap news) (hm : (l, PySem.W.listOf (List.toArray vs) n) ∈ news) (h0 : 0 ≤ k) (h1 : k < vs.length) (h2 : vs.length ≤ 65536) (h : ∀ v, vs[k.toNat]? = some v → Q v s)
    (hs : subscripted slice false (.ref l) (.int k u) = operate [.ref l, .int k u] (getItem (.ref l) (.int k u))) :
    wpAny (model prog w) A (subscriptTail value slice (.ref l) (.int k u)) Q E s := by
  have e : vs[k.toNat]? = some (vs[k.toNat]'(by omega)) := List.getElem?_eq_getElem _
  exact item_led N hm h0 (Int.lt_of_lt_of_le h1 (Int.le_trans (b := 65536) (by omega) (by decide))) e (h _ e) hs

theorem one_con {w : World} {mean : ExcName → Option Value} {mg mb : Str → Option Value} (news rest : List (Addr × Obj)) (S l : Addr) (a b : Int) (t u : Tok) (n k : Nat) (vs : List Value)
    (hs : SplitL S (src a b t u n) news rest) (hne : ∀ q ∈ rest, q.1 ≠ S) (hl : (l, PySem.W.listOf (List.toArray vs) k) ∈ rest) (v0 : 0 < vs.length) (v1 : vs.length ≤ 65536) (a0 : 0 ≤ a) (b0 : 0 ≤ b) (b1 : b < 2147483647) :
    Con w mean mg mb 2 133 [.ref S, .ref l] news (fun r news' => ∃ (i : Nat) (a' b' : Int) (t' u' : Tok) (n' : Nat), vs[i]? = some r ∧ 0 ≤ a' ∧ 0 ≤ b' ∧ b' < 2147483647 ∧ news' = (S, src a' b' t' u' n') :: rest) := by
  w_on
  unfold Con
  k_fill
  intro dp un gd cn cs ad ccd cl outer A₀ base h₀ L m s Q E B F X N T hk hd hu hret
  have hl' : (l, PySem.W.listOf (List.toArray vs) k) ∈ news := hs.mem _ (List.mem_cons_of_mem _ hl)
  refine wpAny_call ?_
  k_dflt cell_enter
  ((repeat' (first | ((with_reducible refine Halt.mk ?_); first | (safely (with_reducible (k_here; (with_reducible show wpAny _ _ (call (Value.ref 126) [Value.ref _, Value.int _ _]) _ _ _); k_dflt (refine' take_con _ _ _ _ _ _ _ _ _ _ ?kszq ?knzq ?kazq ?kbzq ?kczq ?ktzq ?kpzq _ _ _ _ _ _ _ _ _ _ _ _ _ _ _ _ _ ?k1zq ?k2zq ?k3zq ?k4zq ?k5zq ?kKzq ?kdzq ?kuzq ?_; (case k1zq => k_asm); (case k2zq => k_asm); (case k3zq => k_asm); (case k4zq => k_asm); (case k5zq => k_asm); (case kszq => assumption); (case knzq => assumption); (case kazq => assumption); (case kbzq => assumption); (case kczq => assumption); (case ktzq => omega); (case kpzq => omega); (case kKzq => first | exact rfl | assumption); (case kdzq => ktr_room); (case kuzq => ktr_units)); (intro r9zq news9zq h9zq tk9zq F9zq N9zq hOzq; obtain ⟨d9zq, td9zq, a9zq, b9zq, t9zq, u9zq, n9zq, e2zq, d0zq, d1zq, a90zq, b90zq, b91zq, e1zq⟩ := hOzq; rw [e1zq] at N9zq; clear e1zq; subst e2zq; (try dsimp only); (try k_fold))))) | (safely (with_reducible (k_here; (with_reducible show wpAny _ _ (call (Value.builtin "len") [Value.ref _]) _ _ _); k_dflt (refine' len_led' ?Nzq ?mzq ?ezq ?_; (case Nzq => k_asm); (case mzq => assumption); (case ezq => assumption))))) | (safely (with_reducible (k_here; (with_reducible show wpAny _ _ (subscriptTail _ _ (Value.ref _) (Value.int _ _)) _ _ _); (with_unfolding_all refine' item_ledX ?Nzq ?mzq ?azq ?bzq ?czq ?_ ?szq; (case Nzq => assumption); (case mzq => exact List.mem_cons_of_mem _ (by assumption)); (case azq => assumption); (case bzq => assumption); (case czq => assumption); (case szq => with_unfolding_all rfl)); k_whole; intro v9zq e9zq))) | (have tokzq : PassTok := PassTok.mk; walk1 <;> (try clear tokzq))) | (k_unfold; (try dsimp only)) | (k_end; wrow_close) | walk1 | (dsimp only; walk1) | (leave1; walk_say "STEP leave1"; try dsimp only) | fail "no step")); (all_goals (try (with_reducible refine Halt.mk ?_))))
  exact hret _ _ _ _ (by assumption) (by assumption) ⟨_, _, _, _, _, _, by assumption, by assumption, by assumption, by assumption, rfl⟩
end Mine
end

local macro_rules | `(tactic| walk_at "compareOp NotEq ref ref") => `(tactic| ((fail_if_success (have := ‹PassTok›)); refine Halt.out ?_))
section
-- B7
set_option maxRecDepth 100000
set_option maxHeartbeats 400000000
namespace Mine

section
variable {prog : Program} {w : World} {A : Around} {E : Value → Shared → Prop} {s : Shared} {env : Env} {h₀ : Heap} {x : Str} {body : List Stmt} {Q : Flow → Shared → Prop}
/-- over a list: some names are stored anew, a fact of the ledger is kept -/
theorem list_led {ax : Addr} {o : Obj} {vs : List Value} {k : Nat} {m₀ : Str → Option Value} {news : List (Addr × Obj)} (stored : List Str) (J : Nat → List (Addr × Obj) → Prop)
    (hh : A.handled = none) (hm : ∀ i nx, J i nx → (ax, o) ∈ nx) (hc : o.cls = .type "list") (hd : o.data = .seq (List.toArray vs) k) (F : Fr h₀ env.locals s.heap m₀) (N : News h₀ env.locals s.heap news) (hj : J 0 news)
    (turn : ∀ (i : Nat) (v : Value) (u : Str → Option Value) nx h tk I oI, vs[i]? = some v → J i nx → (∀ p ∈ nx, p.1 ≠ I) → Fr h₀ env.locals h (fun z => if z = x then some v else if stored.contains z then u z else m₀ z) → News h₀ env.locals h ((I, oI) :: nx) →
      wpAny (model prog w) A (execs body env) (TurnJ h₀ env.locals I oI (fun m nx => (∀ z, z ≠ x → stored.contains z = false → m z = m₀ z) ∧ J (i + 1) nx) { s with heap := h, toks := tk } Q) E { s with heap := h, toks := tk })
    (done : ∀ (u : Str → Option Value) nx h tk, J vs.length nx → Fr h₀ env.locals h (fun z => if z = x then u z else if stored.contains z then u z else m₀ z) → News h₀ env.locals h nx → Q .next { s with heap := h, toks := tk }) :
    LoopIn prog w A h₀ env x body Q E (.ref ax) s := by
  have e : ∀ {m₁ : Str → Option Value} {v : Option Value}, (∀ z, z ≠ x → stored.contains z = false → m₁ z = m₀ z) → ∀ z, (if z = x then v else m₁ z) = (if z = x then v else if stored.contains z then m₁ z else m₀ z) := by
    intro m₁ v h z
    by_cases hx : z = x
    · rw [if_pos hx, if_pos hx]
    · rw [if_neg hx, if_neg hx]
      cases h3 : stored.contains z with
      | true => simp
      | false => simp only [Bool.false_eq_true, if_false]; exact h z hx h3
  refine list_J (fun i m nx => (∀ z, z ≠ x → stored.contains z = false → m z = m₀ z) ∧ J i nx) hh (fun i m nx hJ => hm i nx hJ.2) hc hd F N ⟨fun _ _ _ => rfl, hj⟩ ?_ ?_
  · rintro i v m₁ nx h tk I oI hv ⟨h2, hJ⟩ off F₁ N₁
    exact turn i v m₁ nx h tk I oI hv hJ off (fr_as F₁ (e h2)) N₁
  · rintro m₁ nx h tk ⟨h2, hJ⟩ F₁ N₁
    refine done m₁ nx h tk hJ (fr_as F₁ fun z => ?_) N₁
    by_cases hx : z = x
    · rw [if_pos hx]
    · have := e (v := none) h2 z
      rw [if_neg hx, if_neg hx] at this
      rw [if_neg hx]; exact this
end

section
variable {prog : Program} {w : World} {A : Around} {E : Value → Shared → Prop} {s : Shared} {h₀ : Heap} {L : Addr} {news : List (Addr × Obj)}
theorem ne_pair {x y : Addr} {a b c d : Int} {t1 t2 t3 t4 : Tok} {o1 o2 : Obj} {Q : Value → Shared → Prop} (N : News h₀ L s.heap news) (m1 : (x, o1) ∈ news) (m2 : (y, o2) ∈ news)
    (c1 : o1.cls = .type "tuple") (d1 : o1.data = .seq #[.int a t1, .int b t2] 0) (c2 : o2.cls = .type "tuple") (d2 : o2.data = .seq #[.int c t3, .int d t4] 0) (hu : A.units + 64 < cLine)
    (h1 : a = c → b = d → Q (.bool false) s) (h2 : ¬ (a = c ∧ b = d) → Q (.bool true) s) : wpAny (model prog w) A (compareOp .NotEq (.ref x) (.ref y)) Q E s := by
  refine ne_dataH (reads_tuple_at (News.get N m1) c1 d1 (.cons (.int _ _) (.cons (.int _ _) .nil))) (reads_tuple_at (News.get N m2) c2 d2 (.cons (.int _ _) (.cons (.int _ _) .nil))) rfl rfl hu ?_
  show Q (.bool (!((a == c) && ((b == d) && true)))) s
  by_cases hh : a = c ∧ b = d
  · have e : (!((a == c) && ((b == d) && true))) = false := by simp [hh.1, hh.2]
    rw [e]
    exact h1 hh.1 hh.2
  · have e : (!((a == c) && ((b == d) && true))) = true := by
      by_cases p : a = c
      · have q : ¬ b = d := fun q => hh ⟨p, q⟩
        simp [p, q]
      · simp [p]
    rw [e]
    exact h2 hh
theorem row_item {value slice : PySem.Expr} {R : Addr} {rows : List (List Int)} {k : Int} {u : Tok} {Q : Value → Shared → Prop}
    {sub : List (Addr × Obj)} (N : News h₀ L s.heap news) (hr : RowsAt sub R rows) (hss : ∀ q ∈ sub, q ∈ news) (h0 : 0 ≤ k) (h1 : k < rows.length) (h2 : rows.length ≤ 4)
    (h : ∀ c us n, (c, PySem.W.listOf (List.toArray us) n) ∈ sub → IntsAre us (rows.getD k.toNat []) → Q (.ref c) s)
    (hs : subscripted slice false (.ref R) (.int k u) = operate [.ref R, .int k u] (getItem (.ref R) (.int k u))) :
    wpAny (model prog w) A (subscriptTail value slice (.ref R) (.int k u)) Q E s := by
  obtain ⟨vs, n, c, us, m, hm, hv, hc, hi⟩ := row_at hr (i := k.toNat) (by omega)
  exact item_led N (hss _ hm) h0 (by omega) hv (h c us m hc hi) hs
theorem int_item {value slice : PySem.Expr} {c : Addr} {us : List Value} {n : Nat} {r : List Int} {k : Int} {u : Tok} {Q : Value → Shared → Prop}
    (N : News h₀ L s.heap news) (hm : (c, PySem.W.listOf (List.toArray us) n) ∈ news) (hi : IntsAre us r) (h0 : 0 ≤ k) (h1 : k < r.length) (h2 : r.length ≤ 65536)
    (h : ∀ t, Q (.int (r.getD k.toNat 0) t) s)
    (hs : subscripted slice false (.ref c) (.int k u) = operate [.ref c, .int k u] (getItem (.ref c) (.int k u))) :
    wpAny (model prog w) A (subscriptTail value slice (.ref c) (.int k u)) Q E s := by
  obtain ⟨t, hx⟩ := int_at hi (i := k.toNat) (by omega)
  exact item_led N hm h0 (by omega) hx (h t) hs
end

local macro_rules | `(tactic| walk_at "exec For Name List cons nil") => `(tactic| (k_here; (rename Fr _ _ _ _ => lF'); (with_unfolding_all refine' For_J lF' ?k1 ?k2 ?_; (case k1 => exact rfl); (case k2 => exact rfl); k_whole)))

theorem mm_kept {p n : Int} (h : 0 < n) : (if (if p < n - 1 then p else n - 1) > 0 then if p < n - 1 then p else n - 1 else 0) = keptIn p n := by
  unfold keptIn
  repeat' split
  all_goals omega
/-- the eight about a place, as the law lists them -/
def arIn (f : Int → Int → Int) (x y : Int) (i : Nat) (acc : List Int) : Nat → List Int
  | 0 => acc
  | j + 1 => arIn f x y i acc j ++ (if i = 1 ∧ j = 1 then [] else [f (x + ((j : Int) - 1)) (y + ((i : Int) - 1))])
def arOut (f : Int → Int → Int) (x y : Int) : Nat → List Int
  | 0 => []
  | i + 1 => arIn f x y i (arOut f x y i) 3

theorem ar_facts {news rest rest2 : List (Addr × Obj)} {I8 D2 I9 D1 FD T1 T2 : Addr} {o2 oI9 o1 oF oF' p1 p2 : Obj} (t1 : (@LT.lt Nat _ I8 T1) ∧ (@LT.lt Nat _ D2 T1) ∧ (@LT.lt Nat _ I9 T1) ∧ (@LT.lt Nat _ D1 T1) ∧ (@LT.lt Nat _ FD T1) ∧ AllLt T1 rest2)
    (t2 : (@LT.lt Nat _ T1 T2) ∧ (@LT.lt Nat _ I8 T2) ∧ (@LT.lt Nat _ D2 T2) ∧ (@LT.lt Nat _ I9 T2) ∧ (@LT.lt Nat _ D1 T2) ∧ (@LT.lt Nat _ FD T2) ∧ AllLt T2 rest2)
    (off : ∀ p ∈ (D2, o2) :: (I9, oI9) :: (D1, o1) :: (FD, oF) :: rest2, p.1 ≠ I8) (hG : Grows news rest2) (hG' : Grows rest rest2) (f1 : ∀ q ∈ rest2, q.1 ≠ FD) (f2 : ∀ q ∈ rest2, q.1 ≠ D1) (f3 : ∀ q ∈ rest2, q.1 ≠ I9) (f4 : ∀ q ∈ rest2, q.1 ≠ D2) :
    Grows news ((T2, p2) :: (T1, p1) :: rest2) ∧ Grows rest ((T2, p2) :: (T1, p1) :: rest2) ∧ (∀ q ∈ (T2, p2) :: (T1, p1) :: rest2, q.1 ≠ FD) ∧ (∀ q ∈ (T2, p2) :: (T1, p1) :: rest2, q.1 ≠ D1) ∧ (∀ q ∈ (T2, p2) :: (T1, p1) :: rest2, q.1 ≠ I9) ∧ (∀ q ∈ (T2, p2) :: (T1, p1) :: rest2, q.1 ≠ D2) ∧
      ∀ p ∈ (D2, o2) :: (I9, oI9) :: (D1, o1) :: (FD, oF') :: (T2, p2) :: (T1, p1) :: rest2, p.1 ≠ I8 := by
  obtain ⟨a1, a2, a3, a4, a5, a6⟩ := t1
  obtain ⟨b0, b1, b2, b3, b4, b5, b6⟩ := t2
  have k1 := allLt_ne a6
  have k2 := allLt_ne b6
  refine ⟨Grows.cons (Grows.cons hG k1) (ne_cons (Nat.ne_of_lt b0) k2), Grows.cons (Grows.cons hG' k1) (ne_cons (Nat.ne_of_lt b0) k2), ne_cons (Nat.ne_of_gt b5) (ne_cons (Nat.ne_of_gt a5) f1), ne_cons (Nat.ne_of_gt b4) (ne_cons (Nat.ne_of_gt a4) f2), ne_cons (Nat.ne_of_gt b3) (ne_cons (Nat.ne_of_gt a3) f3), ne_cons (Nat.ne_of_gt b2) (ne_cons (Nat.ne_of_gt a2) f4), ?_⟩
  refine ne_cons (off (D2, o2) List.mem_cons_self) (ne_cons (off (I9, oI9) (List.mem_cons_of_mem _ List.mem_cons_self)) (ne_cons (off (D1, o1) (List.mem_cons_of_mem _ (List.mem_cons_of_mem _ List.mem_cons_self))) (ne_cons (off (FD, oF) (List.mem_cons_of_mem _ (List.mem_cons_of_mem _ (List.mem_cons_of_mem _ List.mem_cons_self)))) (ne_cons (Nat.ne_of_gt b1) (ne_cons (Nat.ne_of_gt a1) fun q hq => off q (List.mem_cons_of_mem _ (List.mem_cons_of_mem _ (List.mem_cons_of_mem _ (List.mem_cons_of_mem _ hq)))))))))

section
variable {g h' : Heap} {L : Addr} {m' : Str → Option Value} {s₁ : Shared} {tk : Nat} {J : (Str → Option Value) → List (Addr × Obj) → Prop} {news rest rest2 : List (Addr × Obj)} {I8 D2 I9 D1 FD T1 T2 : Addr} {o2 oI8 oI9 o1 oF oF' p1 p2 : Obj}
theorem ar_end (F : Fr g L h' m') (N : News g L h' ((T2, p2) :: (T1, p1) :: (I8, oI8) :: (D2, o2) :: (I9, oI9) :: (D1, o1) :: (FD, oF') :: rest2))
    (t1 : (@LT.lt Nat _ I8 T1) ∧ (@LT.lt Nat _ D2 T1) ∧ (@LT.lt Nat _ I9 T1) ∧ (@LT.lt Nat _ D1 T1) ∧ (@LT.lt Nat _ FD T1) ∧ AllLt T1 rest2)
    (t2 : (@LT.lt Nat _ T1 T2) ∧ (@LT.lt Nat _ I8 T2) ∧ (@LT.lt Nat _ D2 T2) ∧ (@LT.lt Nat _ I9 T2) ∧ (@LT.lt Nat _ D1 T2) ∧ (@LT.lt Nat _ FD T2) ∧ AllLt T2 rest2)
    (off : ∀ p ∈ (D2, o2) :: (I9, oI9) :: (D1, o1) :: (FD, oF) :: rest2, p.1 ≠ I8) (hG : Grows news rest2) (hG' : Grows rest rest2) (f1 : ∀ q ∈ rest2, q.1 ≠ FD) (f2 : ∀ q ∈ rest2, q.1 ≠ D1) (f3 : ∀ q ∈ rest2, q.1 ≠ I9) (f4 : ∀ q ∈ rest2, q.1 ≠ D2)
    (hJ : Grows news ((T2, p2) :: (T1, p1) :: rest2) → Grows rest ((T2, p2) :: (T1, p1) :: rest2) → (∀ q ∈ (T2, p2) :: (T1, p1) :: rest2, q.1 ≠ FD) → (∀ q ∈ (T2, p2) :: (T1, p1) :: rest2, q.1 ≠ D1) → (∀ q ∈ (T2, p2) :: (T1, p1) :: rest2, q.1 ≠ I9) → (∀ q ∈ (T2, p2) :: (T1, p1) :: rest2, q.1 ≠ D2) → J m' ((D2, o2) :: (I9, oI9) :: (D1, o1) :: (FD, oF') :: (T2, p2) :: (T1, p1) :: rest2)) :
    EndJ g L I8 oI8 J s₁ { s₁ with heap := h', toks := tk } := by
  obtain ⟨b1, b2, b3, b4, b5, b6, b7⟩ := ar_facts (p1 := p1) (p2 := p2) (oF' := oF') t1 t2 off hG hG' f1 f2 f3 f4
  refine ⟨_, _, _, _, rfl, F, fun q hq => N q ?_, b7, hJ b1 b2 b3 b4 b5 b6⟩
  simp only [List.mem_cons] at hq ⊢
  rcases hq with h | h | h | h | h | h | h | h <;> simp [h]
end

theorem around_con {w : World} {mean : ExcName → Option Value} {mg mb : Str → Option Value} (news : List (Addr × Obj)) (R : Addr) (W H : Int) (rows : List (List Int)) (x y : Int) (t u : Tok)
    (hr : RowsAt news R rows) (hl : rows.length = H.toNat) (h0 : 0 < H) (w0 : 0 < W) (wl : ∀ r ∈ rows, r.length = W.toNat) (h4 : H ≤ 4) (w4 : W ≤ 4) :
    Con w mean mg mb 8 140 [.ref R, .int x t, .int y u] news (fun r news' => ∃ b vs n, r = .ref b ∧ Grows news news' ∧ (b, PySem.W.listOf (List.toArray vs) n) ∈ news' ∧ IntsAre vs (arOut (at2 rows W H) x y 3)) := by
  w_on
  unfold Con
  k_fill
  intro dp un gd cn cs ad ccd cl outer A₀ base h₀ L m s Q E B F X N T hk hd hu hret
  obtain ⟨vs, nv, hm, hvl, hvr⟩ := id hr
  have hvl' : vs.length = H.toNat := hvl.trans hl
  refine wpAny_call ?_
  k_dflt cell_enter
  ((repeat' (first | ((with_reducible refine Halt.mk ?_); first | (safely (with_reducible (k_here; (with_reducible show wpAny _ _ (subscriptTail (PySem.Expr.Name (PySem.Str.ofString "line") _) _ (Value.ref _) (Value.int _ _)) _ _ _); (with_unfolding_all refine' int_item ?Nzq ?mzq ?izq ?azq ?bzq ?czq ?_ ?szq; (case Nzq => assumption); (case mzq => (repeat (first | assumption | refine List.mem_cons_of_mem _ ?_))); (case izq => assumption); (case azq => omega); (case bzq => omega); (case czq => omega); (case szq => with_unfolding_all rfl)); k_whole; intro t9zq))) | (safely (with_reducible (k_here; (with_reducible show wpAny _ _ (subscriptTail (PySem.Expr.Name (PySem.Str.ofString "rows") _) _ (Value.ref _) (Value.int _ _)) _ _ _); (with_unfolding_all refine' row_item ?Nzq ?mzq ?zzq ?azq ?bzq ?czq ?_ ?szq; (case Nzq => assumption); (case mzq => assumption); (case zzq => intro q9zq hq9zq; (repeat (first | assumption | refine List.mem_cons_of_mem _ ?_))); (case azq => omega); (case bzq => omega); (case czq => omega); (case szq => with_unfolding_all rfl)); k_whole; intro c9zq us9zq n9zq hm9zq hi9zq))) | (safely (with_reducible (k_here; (with_reducible show wpAny _ _ (call (Value.builtin "len") [Value.ref _]) _ _ _); k_dflt (refine' len_led ?Nzq ?mzq ?ezq ?azq ?bzq ?_; (case Nzq => k_asm); (case mzq => (repeat (first | assumption | refine List.mem_cons_of_mem _ ?_))); (case ezq => assumption); (case azq => assumption); (case bzq => assumption))))) | (safely (with_reducible (k_here; (with_reducible show wpAny _ _ (compareOp CmpOp.NotEq (Value.ref _) (Value.ref _)) _ _ _); k_dflt (refine' ne_pair ?Nzq ?azq ?bzq ?czq ?dzq ?ezq ?fzq ?uzq ?pzq ?qzq; (case Nzq => k_asm); (case azq => k_mem); (case bzq => k_mem); (case czq => rfl); (case dzq => rfl); (case ezq => rfl); (case fzq => rfl); (case uzq => ktr_units); (case' pzq => intro e1zq e2zq); (case' qzq => intro e3zq))))) | (have tokzq : PassTok := PassTok.mk; walk1 <;> (try clear tokzq))) | (k_unfold; (try dsimp only)) | (k_end; wrow_close) | walk1 | (dsimp only; walk1) | (leave1; walk_say "STEP leave1"; try dsimp only) | fail "no step")); (all_goals (try (with_reducible refine Halt.mk ?_))))
  dsimp only
  rename Fr _ _ _ _ => lF'
  rename News _ _ _ _ => lN'
  rename (@LT.lt Nat _ _ _ ∧ _) => lo
  refine led_head lN' fun D1 e1 => ?_
  subst e1
  refine led_head (News.tail lN') fun FD e2 => ?_
  subst e2
  refine led_obj lN' fun o1 e3 => ?_
  have ho1 : o1.cls = .type "list" := (congrArg Obj.cls e3).trans rfl
  rename (∀ p ∈ news, @LT.lt Nat _ _ _) => hlt
  with_unfolding_all refine list_led [Str.ofString "turn", Str.ofString "line"] (fun i nx => ∃ us k rest, nx = (D1, o1) :: (FD, PySem.W.listOf (List.toArray us) k) :: rest ∧ Grows news rest ∧ (∀ q ∈ rest, q.1 ≠ FD) ∧ (∀ q ∈ rest, q.1 ≠ D1) ∧ IntsAre us (arOut (at2 rows W H) x y i) ∧ us.length ≤ 3 * i) rfl ?_ ho1 ((congrArg Obj.data e3).trans rfl) lF' lN' ⟨[], _, news, by rw [e3], Grows.refl _, fun q hq => Nat.ne_of_lt (hlt q hq), allLt_ne lo.2, .nil, by simp⟩ ?_ ?_
  · rintro i nx ⟨us, k, rest, rfl, -⟩
    exact List.mem_cons_self
  · rintro i v u9 nx h9 tk9 I9 oI9 hv ⟨us, k9, rest, rfl, hG, n1, n2, hU, hul⟩ off F9 N9
    obtain ⟨hi, t8, rfl⟩ := three_vals hv
    clear lF' lN'
    have hr9 := hr.mono hG.sub
    have hm9 := hG.sub _ hm
    clear hv
    (try k_fold)
    ((repeat' (first | ((with_reducible refine Halt.mk ?_); first | (safely (with_reducible (k_here; (with_reducible show wpAny _ _ (subscriptTail (PySem.Expr.Name (PySem.Str.ofString "line") _) _ (Value.ref _) (Value.int _ _)) _ _ _); (with_unfolding_all refine' int_item ?Nzq ?mzq ?izq ?azq ?bzq ?czq ?_ ?szq; (case Nzq => assumption); (case mzq => (repeat (first | assumption | refine List.mem_cons_of_mem _ ?_))); (case izq => assumption); (case azq => omega); (case bzq => omega); (case czq => omega); (case szq => with_unfolding_all rfl)); k_whole; intro t9zq))) | (safely (with_reducible (k_here; (with_reducible show wpAny _ _ (subscriptTail (PySem.Expr.Name (PySem.Str.ofString "rows") _) _ (Value.ref _) (Value.int _ _)) _ _ _); (with_unfolding_all refine' row_item ?Nzq ?mzq ?zzq ?azq ?bzq ?czq ?_ ?szq; (case Nzq => assumption); (case mzq => assumption); (case zzq => intro q9zq hq9zq; (repeat (first | assumption | refine List.mem_cons_of_mem _ ?_))); (case azq => omega); (case bzq => omega); (case czq => omega); (case szq => with_unfolding_all rfl)); k_whole; intro c9zq us9zq n9zq hm9zq hi9zq))) | (safely (with_reducible (k_here; (with_reducible show wpAny _ _ (call (Value.builtin "len") [Value.ref _]) _ _ _); k_dflt (refine' len_led ?Nzq ?mzq ?ezq ?azq ?bzq ?_; (case Nzq => k_asm); (case mzq => (repeat (first | assumption | refine List.mem_cons_of_mem _ ?_))); (case ezq => assumption); (case azq => assumption); (case bzq => assumption))))) | (safely (with_reducible (k_here; (with_reducible show wpAny _ _ (compareOp CmpOp.NotEq (Value.ref _) (Value.ref _)) _ _ _); k_dflt (refine' ne_pair ?Nzq ?azq ?bzq ?czq ?dzq ?ezq ?fzq ?uzq ?pzq ?qzq; (case Nzq => k_asm); (case azq => k_mem); (case bzq => k_mem); (case czq => rfl); (case dzq => rfl); (case ezq => rfl); (case fzq => rfl); (case uzq => ktr_units); (case' pzq => intro e1zq e2zq); (case' qzq => intro e3zq))))) | (have tokzq : PassTok := PassTok.mk; walk1 <;> (try clear tokzq))) | (k_unfold; (try dsimp only)) | (k_end; wrow_close) | walk1 | (dsimp only; walk1) | (leave1; walk_say "STEP leave1"; try dsimp only) | fail "no step")); (all_goals (try (with_reducible refine Halt.mk ?_))))
    dsimp only
    rename (IntsAre _ (rows.getD _ [])) => hi9
    rename ((_, PySem.W.listOf _ _) ∈ rest) => hm8
    rw [mm_kept h0] at hi9
    rename Fr _ _ _ _ => lF'
    rename News _ _ _ _ => lN'
    rename (@LT.lt Nat _ _ _ ∧ _) => lo2
    refine led_head lN' fun D2 e1 => ?_
    subst e1
    refine led_obj lN' fun o2 e4 => ?_
    have ho2 : o2.cls = .type "list" := (congrArg Obj.cls e4).trans rfl
    have q0 := keptIn_lo (p := y + ((i : Int) - 1)) h0
    have q1 := keptIn_hi (p := y + ((i : Int) - 1)) h0
    have hrl : (rows.getD (keptIn (y + ((i : Int) - 1)) H).toNat []).length = W.toNat := by
      refine wl _ ?_
      rw [List.getD_eq_getElem?_getD, List.getElem?_eq_getElem (by omega)]
      exact List.getElem_mem _
    have hul9 := hi9.length.trans hrl
    with_unfolding_all refine list_led [] (fun j nx => ∃ vs2 k2 rest2, nx = (D2, o2) :: (I9, oI9) :: (D1, o1) :: (FD, PySem.W.listOf (List.toArray vs2) k2) :: rest2 ∧ Grows news rest2 ∧ Grows rest rest2 ∧ (∀ q ∈ rest2, q.1 ≠ FD) ∧ (∀ q ∈ rest2, q.1 ≠ D1) ∧ (∀ q ∈ rest2, q.1 ≠ I9) ∧ (∀ q ∈ rest2, q.1 ≠ D2) ∧ IntsAre vs2 (arIn (at2 rows W H) x y i (arOut (at2 rows W H) x y i) j) ∧ vs2.length ≤ 3 * i + j) rfl ?_ ho2 ((congrArg Obj.data e4).trans rfl) lF' lN' ⟨us, _, rest, by rw [e4], hG, Grows.refl _, n1, n2, fun q hq => off q (List.mem_cons_of_mem _ (List.mem_cons_of_mem _ hq)), allLt_ne lo2.2.2.2, hU, by omega⟩ ?_ ?_
    · rintro i nx ⟨us, k, rest, rfl, -⟩
      exact List.mem_cons_self
    · rintro j v u8 nx h8 tk8 I8 oI8 hv ⟨vs2, k2, rest2, rfl, hG2, hGr, f1, f2, f3, f4, hU2, hul2⟩ off8 F8 N8
      obtain ⟨hj, t7, rfl⟩ := three_vals hv
      clear lF' lN' hv
      have hm7 := hGr.sub _ hm8
      (try k_fold)
      ((repeat' (first | ((with_reducible refine Halt.mk ?_); first | (safely (with_reducible (k_here; (with_reducible show wpAny _ _ (subscriptTail (PySem.Expr.Name (PySem.Str.ofString "line") _) _ (Value.ref _) (Value.int _ _)) _ _ _); (with_unfolding_all refine' int_item ?Nzq ?mzq ?izq ?azq ?bzq ?czq ?_ ?szq; (case Nzq => assumption); (case mzq => (repeat (first | assumption | refine List.mem_cons_of_mem _ ?_))); (case izq => assumption); (case azq => omega); (case bzq => omega); (case czq => omega); (case szq => with_unfolding_all rfl)); k_whole; intro t9zq))) | (safely (with_reducible (k_here; (with_reducible show wpAny _ _ (subscriptTail (PySem.Expr.Name (PySem.Str.ofString "rows") _) _ (Value.ref _) (Value.int _ _)) _ _ _); (with_unfolding_all refine' row_item ?Nzq ?mzq ?zzq ?azq ?bzq ?czq ?_ ?szq; (case Nzq => assumption); (case mzq => assumption); (case zzq => intro q9zq hq9zq; (repeat (first | assumption | refine List.mem_cons_of_mem _ ?_))); (case azq => omega); (case bzq => omega); (case czq => omega); (case szq => with_unfolding_all rfl)); k_whole; intro c9zq us9zq n9zq hm9zq hi9zq))) | (safely (with_reducible (k_here; (with_reducible show wpAny _ _ (call (Value.builtin "len") [Value.ref _]) _ _ _); k_dflt (refine' len_led ?Nzq ?mzq ?ezq ?azq ?bzq ?_; (case Nzq => k_asm); (case mzq => (repeat (first | assumption | refine List.mem_cons_of_mem _ ?_))); (case ezq => assumption); (case azq => assumption); (case bzq => assumption))))) | (safely (with_reducible (k_here; (with_reducible show wpAny _ _ (compareOp CmpOp.NotEq (Value.ref _) (Value.ref _)) _ _ _); k_dflt (refine' ne_pair ?Nzq ?azq ?bzq ?czq ?dzq ?ezq ?fzq ?uzq ?pzq ?qzq; (case Nzq => k_asm); (case azq => k_mem); (case bzq => k_mem); (case czq => rfl); (case dzq => rfl); (case ezq => rfl); (case fzq => rfl); (case uzq => ktr_units); (case' pzq => intro e1zq e2zq); (case' qzq => intro e3zq))))) | (have tokzq : PassTok := PassTok.mk; walk1 <;> (try clear tokzq))) | (k_unfold; (try dsimp only)) | (k_end; wrow_close) | walk1 | (dsimp only; walk1) | (leave1; walk_say "STEP leave1"; try dsimp only) | fail "no step")); (all_goals (try (with_reducible refine Halt.mk ?_))))
      · simp only [List.cons_append, List.nil_append]
        rename (¬ (_ ∧ _)) => hne
        rename (_ ∧ _ ∧ _ ∧ _ ∧ _ ∧ _ ∧ AllLt _ _) => t2
        rename (_ ∧ _ ∧ _ ∧ _ ∧ _ ∧ AllLt _ _) => t1
        have w1 : @Ne Nat FD I9 := off (FD, _) (by k_mem)
        have w1' := Ne.symm w1
        have w2 : @Ne Nat FD I8 := off8 (FD, _) (by k_mem)
        have w2' := Ne.symm w2
        have hz : vs2.length ≤ sizeLine := by simp only [sizeLine]; omega
        ((repeat' (first | ((with_reducible refine Halt.mk ?_); first | (safely (with_reducible (k_here; (with_reducible show wpAny _ _ (subscriptTail (PySem.Expr.Name (PySem.Str.ofString "line") _) _ (Value.ref _) (Value.int _ _)) _ _ _); (with_unfolding_all refine' int_item ?Nzq ?mzq ?izq ?azq ?bzq ?czq ?_ ?szq; (case Nzq => assumption); (case mzq => (repeat (first | assumption | refine List.mem_cons_of_mem _ ?_))); (case izq => assumption); (case azq => omega); (case bzq => omega); (case czq => omega); (case szq => with_unfolding_all rfl)); k_whole; intro t9zq))) | (safely (with_reducible (k_here; (with_reducible show wpAny _ _ (subscriptTail (PySem.Expr.Name (PySem.Str.ofString "rows") _) _ (Value.ref _) (Value.int _ _)) _ _ _); (with_unfolding_all refine' row_item ?Nzq ?mzq ?zzq ?azq ?bzq ?czq ?_ ?szq; (case Nzq => assumption); (case mzq => assumption); (case zzq => intro q9zq hq9zq; (repeat (first | assumption | refine List.mem_cons_of_mem _ ?_))); (case azq => omega); (case bzq => omega); (case czq => omega); (case szq => with_unfolding_all rfl)); k_whole; intro c9zq us9zq n9zq hm9zq hi9zq))) | (safely (with_reducible (k_here; (with_reducible show wpAny _ _ (call (Value.builtin "len") [Value.ref _]) _ _ _); k_dflt (refine' len_led ?Nzq ?mzq ?ezq ?azq ?bzq ?_; (case Nzq => k_asm); (case mzq => (repeat (first | assumption | refine List.mem_cons_of_mem _ ?_))); (case ezq => assumption); (case azq => assumption); (case bzq => assumption))))) | (safely (with_reducible (k_here; (with_reducible show wpAny _ _ (compareOp CmpOp.NotEq (Value.ref _) (Value.ref _)) _ _ _); k_dflt (refine' ne_pair ?Nzq ?azq ?bzq ?czq ?dzq ?ezq ?fzq ?uzq ?pzq ?qzq; (case Nzq => k_asm); (case azq => k_mem); (case bzq => k_mem); (case czq => rfl); (case dzq => rfl); (case ezq => rfl); (case fzq => rfl); (case uzq => ktr_units); (case' pzq => intro e1zq e2zq); (case' qzq => intro e3zq))))) | (have tokzq : PassTok := PassTok.mk; walk1 <;> (try clear tokzq))) | (k_unfold; (try dsimp only)) | (k_end; wrow_close) | walk1 | (dsimp only; walk1) | (leave1; walk_say "STEP leave1"; try dsimp only) | fail "no step")); (all_goals (try (with_reducible refine Halt.mk ?_))))
        rename News _ _ _ _ => lN'
        refine ar_end (by assumption) lN' t1 t2 off8 hG2 hGr f1 f2 f3 f4 fun g1 g2 g3 g4 g5 g6 => ⟨fun z h1 h2 => (if_neg h1).trans (if_neg Bool.false_ne_true), _, _, _, by rw [List.push_toArray], g1, g2, g3, g4, g5, g6, ?_, ?_⟩
        · rw [mm_kept w0]
          have e : arIn (at2 rows W H) x y i (arOut (at2 rows W H) x y i) (j + 1) = arIn (at2 rows W H) x y i (arOut (at2 rows W H) x y i) j ++ [at2 rows W H (x + ((j : Int) - 1)) (y + ((i : Int) - 1))] := by
            rw [arIn, if_neg]
            intro hh
            exact hne ⟨by omega, by omega⟩
          rw [e]
          exact ints_snoc hU2 _ _
        · simp
          omega
      · rename (_ ∧ _ ∧ _ ∧ _ ∧ _ ∧ _ ∧ AllLt _ _) => t2
        rename (_ ∧ _ ∧ _ ∧ _ ∧ _ ∧ AllLt _ _) => t1
        rename News _ _ _ _ => lN'
        refine ar_end (by assumption) lN' t1 t2 off8 hG2 hGr f1 f2 f3 f4 fun g1 g2 g3 g4 g5 g6 => ⟨fun z h1 h2 => (if_neg h1).trans (if_neg Bool.false_ne_true), _, _, _, rfl, g1, g2, g3, g4, g5, g6, ?_, ?_⟩
        · have e : arIn (at2 rows W H) x y i (arOut (at2 rows W H) x y i) (j + 1) = arIn (at2 rows W H) x y i (arOut (at2 rows W H) x y i) j := by
            rw [arIn, if_pos ⟨by omega, by omega⟩, List.append_nil]
          rw [e]
          exact hU2
        · omega
    · rintro u8 nx h8 tk8 ⟨vs2, k2, rest2, rfl, hG2, hGr, f1, f2, f3, f4, hU2, hul2⟩ F8 N8
      clear lF' lN'
      (try dsimp only)
      (try k_fold)
      ((repeat' (first | ((with_reducible refine Halt.mk ?_); first | (safely (with_reducible (k_here; (with_reducible show wpAny _ _ (subscriptTail (PySem.Expr.Name (PySem.Str.ofString "line") _) _ (Value.ref _) (Value.int _ _)) _ _ _); (with_unfolding_all refine' int_item ?Nzq ?mzq ?izq ?azq ?bzq ?czq ?_ ?szq; (case Nzq => assumption); (case mzq => (repeat (first | assumption | refine List.mem_cons_of_mem _ ?_))); (case izq => assumption); (case azq => omega); (case bzq => omega); (case czq => omega); (case szq => with_unfolding_all rfl)); k_whole; intro t9zq))) | (safely (with_reducible (k_here; (with_reducible show wpAny _ _ (subscriptTail (PySem.Expr.Name (PySem.Str.ofString "rows") _) _ (Value.ref _) (Value.int _ _)) _ _ _); (with_unfolding_all refine' row_item ?Nzq ?mzq ?zzq ?azq ?bzq ?czq ?_ ?szq; (case Nzq => assumption); (case mzq => assumption); (case zzq => intro q9zq hq9zq; (repeat (first | assumption | refine List.mem_cons_of_mem _ ?_))); (case azq => omega); (case bzq => omega); (case czq => omega); (case szq => with_unfolding_all rfl)); k_whole; intro c9zq us9zq n9zq hm9zq hi9zq))) | (safely (with_reducible (k_here; (with_reducible show wpAny _ _ (call (Value.builtin "len") [Value.ref _]) _ _ _); k_dflt (refine' len_led ?Nzq ?mzq ?ezq ?azq ?bzq ?_; (case Nzq => k_asm); (case mzq => (repeat (first | assumption | refine List.mem_cons_of_mem _ ?_))); (case ezq => assumption); (case azq => assumption); (case bzq => assumption))))) | (safely (with_reducible (k_here; (with_reducible show wpAny _ _ (compareOp CmpOp.NotEq (Value.ref _) (Value.ref _)) _ _ _); k_dflt (refine' ne_pair ?Nzq ?azq ?bzq ?czq ?dzq ?ezq ?fzq ?uzq ?pzq ?qzq; (case Nzq => k_asm); (case azq => k_mem); (case bzq => k_mem); (case czq => rfl); (case dzq => rfl); (case ezq => rfl); (case fzq => rfl); (case uzq => ktr_units); (case' pzq => intro e1zq e2zq); (case' qzq => intro e3zq))))) | (have tokzq : PassTok := PassTok.mk; walk1 <;> (try clear tokzq))) | (k_unfold; (try dsimp only)) | (k_end; wrow_close) | walk1 | (dsimp only; walk1) | (leave1; walk_say "STEP leave1"; try dsimp only) | fail "no step")); (all_goals (try (with_reducible refine Halt.mk ?_))))
      refine ⟨_, _, _, (D1, o1) :: (FD, PySem.W.listOf (List.toArray vs2) k2) :: (D2, o2) :: rest2, rfl, by assumption, fun q hq => N8 q ?_, ?_, fun z h1 h2 => ?_, vs2, k2, (D2, o2) :: rest2, rfl, Grows.cons hG2 f4, ne_cons (Nat.ne_of_gt lo2.2.2.1) f1, ne_cons (Nat.ne_of_gt lo2.2.1) f2, hU2, ?_⟩
      · simp only [List.mem_cons] at hq ⊢
        rcases hq with h | h | h | h | h <;> simp [h]
      · exact ne_cons (off (D1, o1) (by k_mem)) (ne_cons (off (FD, PySem.W.listOf (List.toArray us) k9) (by k_mem)) (ne_cons (Nat.ne_of_gt lo2.1) f3))
      · have h3 : z ≠ Str.ofString "turn" := by
          intro e
          rw [e] at h2
          revert h2
          decide
        have h4 : z ≠ Str.ofString "line" := by
          intro e
          rw [e] at h2
          revert h2
          decide
        have h5 : ¬ (List.contains [Str.ofString "turn", Str.ofString "line"] z = true) := by rw [h2]; exact Bool.false_ne_true
        exact (if_neg h3).trans ((if_neg Bool.false_ne_true).trans ((if_neg h4).trans ((if_neg h1).trans (if_neg h5))))
      · have : (3 : Nat) * i + 3 = 3 * (i + 1) := by omega
        rw [← this]
        exact hul2
  · rintro u9 nx h9 tk9 ⟨us, k9, rest, rfl, hG, n1, n2, hU, hul⟩ F9 N9
    clear lF' lN'
    (try dsimp only)
    (try k_fold)
    ((repeat' (first | ((with_reducible refine Halt.mk ?_); first | (safely (with_reducible (k_here; (with_reducible show wpAny _ _ (subscriptTail (PySem.Expr.Name (PySem.Str.ofString "line") _) _ (Value.ref _) (Value.int _ _)) _ _ _); (with_unfolding_all refine' int_item ?Nzq ?mzq ?izq ?azq ?bzq ?czq ?_ ?szq; (case Nzq => assumption); (case mzq => (repeat (first | assumption | refine List.mem_cons_of_mem _ ?_))); (case izq => assumption); (case azq => omega); (case bzq => omega); (case czq => omega); (case szq => with_unfolding_all rfl)); k_whole; intro t9zq))) | (safely (with_reducible (k_here; (with_reducible show wpAny _ _ (subscriptTail (PySem.Expr.Name (PySem.Str.ofString "rows") _) _ (Value.ref _) (Value.int _ _)) _ _ _); (with_unfolding_all refine' row_item ?Nzq ?mzq ?zzq ?azq ?bzq ?czq ?_ ?szq; (case Nzq => assumption); (case mzq => assumption); (case zzq => intro q9zq hq9zq; (repeat (first | assumption | refine List.mem_cons_of_mem _ ?_))); (case azq => omega); (case bzq => omega); (case czq => omega); (case szq => with_unfolding_all rfl)); k_whole; intro c9zq us9zq n9zq hm9zq hi9zq))) | (safely (with_reducible (k_here; (with_reducible show wpAny _ _ (call (Value.builtin "len") [Value.ref _]) _ _ _); k_dflt (refine' len_led ?Nzq ?mzq ?ezq ?azq ?bzq ?_; (case Nzq => k_asm); (case mzq => (repeat (first | assumption | refine List.mem_cons_of_mem _ ?_))); (case ezq => assumption); (case azq => assumption); (case bzq => assumption))))) | (safely (with_reducible (k_here; (with_reducible show wpAny _ _ (compareOp CmpOp.NotEq (Value.ref _) (Value.ref _)) _ _ _); k_dflt (refine' ne_pair ?Nzq ?azq ?bzq ?czq ?dzq ?ezq ?fzq ?uzq ?pzq ?qzq; (case Nzq => k_asm); (case azq => k_mem); (case bzq => k_mem); (case czq => rfl); (case dzq => rfl); (case ezq => rfl); (case fzq => rfl); (case uzq => ktr_units); (case' pzq => intro e1zq e2zq); (case' qzq => intro e3zq))))) | (have tokzq : PassTok := PassTok.mk; walk1 <;> (try clear tokzq))) | (k_unfold; (try dsimp only)) | (k_end; wrow_close) | walk1 | (dsimp only; walk1) | (leave1; walk_say "STEP leave1"; try dsimp only) | fail "no step")); (all_goals (try (with_reducible refine Halt.mk ?_))))
    exact hret _ _ _ _ (by assumption) (by assumption) ⟨FD, us, k9, rfl, Grows.cons (Grows.cons hG n1) (ne_cons (Nat.ne_of_lt lo.1) n2), List.mem_cons_of_mem _ List.mem_cons_self, hU⟩
end Mine
end

section
-- M1
set_option maxRecDepth 100000
set_option maxHeartbeats 400000000
namespace Mine

theorem arOut_eq (f : Int → Int → Int) (x y : Int) : arOut f x y 3 = [f (x - 1) (y - 1), f x (y - 1), f (x + 1) (y - 1), f (x - 1) y, f (x + 1) y, f (x - 1) (y + 1), f x (y + 1), f (x + 1) (y + 1)] := by
  have e1 : ∀ z : Int, z + (((0 : Nat) : Int) - 1) = z - 1 := fun z => by omega
  have e2 : ∀ z : Int, z + (((1 : Nat) : Int) - 1) = z := fun z => by omega
  have e3 : ∀ z : Int, z + (((2 : Nat) : Int) - 1) = z + 1 := fun z => by omega
  simp only [arOut, arIn, e1, e2, e3]
  simp
theorem arOut_sum (f : Int → Int → Int) (x y : Int) : (arOut f x y 3).sum = around f x y := by
  rw [arOut_eq]
  unfold around
  simp only [List.sum_cons, List.sum_nil]
  omega
theorem arOut_len (f : Int → Int → Int) (x y : Int) : (arOut f x y 3).length = 8 := by
  rw [arOut_eq]
  rfl

section
variable {f : Int → Int → Int} {s : Int}
theorem near_ok (hf : ∀ x y, 0 ≤ f x y ∧ f x y < 65536) (s0 : 0 ≤ s) (s1 : s ≤ 100) (x y : Int) :
    0 ≤ f x y * (1024 - 8 * s) + s * around f x y ∧ f x y * (1024 - 8 * s) + s * around f x y < 268435456 ∧
      2 * (f x y * (1024 - 8 * s) + s * around f x y) - 1024 < 2048 * smooth1 f s x y ∧ 2048 * smooth1 f s x y ≤ 2 * (f x y * (1024 - 8 * s) + s * around f x y) + 1024 := by
  have ha := around_range hf x y
  have h0 := hf x y
  unfold smooth1
  rw [Int.mul_comm s]
  have m1 : 0 ≤ f x y * (1024 - 8 * s) := Int.mul_nonneg h0.1 (by omega)
  have m2 : 0 ≤ around f x y * s := Int.mul_nonneg ha.1 s0
  have m3 : f x y * (1024 - 8 * s) ≤ 65535 * (1024 - 8 * s) := Int.mul_le_mul_of_nonneg_right (by omega) (by omega)
  have m4 : around f x y * s ≤ 524280 * s := Int.mul_le_mul_of_nonneg_right ha.2 s0
  generalize f x y * (1024 - 8 * s) = u at *
  generalize around f x y * s = v at *
  omega
theorem conv (M : Int) : M * (1024 - 8 * s) + 8 * M * s = 1024 * M := by
  have e1 : M * (1024 - 8 * s) = M * 1024 - 8 * (M * s) := by
    rw [Int.mul_sub, Int.mul_left_comm]
  have e2 : 8 * M * s = 8 * (M * s) := Int.mul_assoc _ _ _
  rw [e1, e2]
  omega
theorem between_lo (s0 : 0 ≤ s) (s1 : s ≤ 100) {x y M : Int} (h : ∀ a ∈ arOut f x y 3 ++ [f x y], M ≤ a) : M ≤ smooth1 f s x y := by
  rw [arOut_eq] at h
  simp only [List.cons_append, List.nil_append, List.mem_cons, List.not_mem_nil, or_false, forall_eq_or_imp, forall_eq] at h
  have ha : 8 * M ≤ around f x y := by unfold around; omega
  have m1 : M * (1024 - 8 * s) ≤ f x y * (1024 - 8 * s) := Int.mul_le_mul_of_nonneg_right (by omega) (by omega)
  have m2 : 8 * M * s ≤ around f x y * s := Int.mul_le_mul_of_nonneg_right ha s0
  have c := conv (s := s) M
  unfold smooth1
  generalize f x y * (1024 - 8 * s) = u at *
  generalize around f x y * s = v at *
  generalize M * (1024 - 8 * s) = u' at *
  generalize 8 * M * s = v' at *
  omega
theorem between_hi (s0 : 0 ≤ s) (s1 : s ≤ 100) {x y M : Int} (h : ∀ a ∈ arOut f x y 3 ++ [f x y], a ≤ M) : smooth1 f s x y ≤ M := by
  rw [arOut_eq] at h
  simp only [List.cons_append, List.nil_append, List.mem_cons, List.not_mem_nil, or_false, forall_eq_or_imp, forall_eq] at h
  have ha : around f x y ≤ 8 * M := by unfold around; omega
  have m1 : f x y * (1024 - 8 * s) ≤ M * (1024 - 8 * s) := Int.mul_le_mul_of_nonneg_right (by omega) (by omega)
  have m2 : around f x y * s ≤ 8 * M * s := Int.mul_le_mul_of_nonneg_right ha s0
  have c := conv (s := s) M
  unfold smooth1
  generalize f x y * (1024 - 8 * s) = u at *
  generalize around f x y * s = v at *
  generalize M * (1024 - 8 * s) = u' at *
  generalize 8 * M * s = v' at *
  omega
theorem smooth1_zero (x y : Int) : smooth1 f 0 x y = f x y := by
  unfold smooth1
  omega
theorem smooth1_same (s0 : 0 ≤ s) (s1 : s ≤ 100) {v : Int} (h : ∀ x y, f x y = v) (x y : Int) : smooth1 f s x y = v := by
  have e : around f x y = 8 * v := by unfold around; simp only [h]; omega
  unfold smooth1
  rw [e, h]
  have c := conv (s := s) v
  generalize v * (1024 - 8 * s) = u at *
  generalize 8 * v * s = w at *
  omega
end
end Mine
end

end

local macro_rules | `(tactic| walk_at "no such key 1") => `(tactic| skip)
section
-- B8
set_option maxRecDepth 100000
set_option maxHeartbeats 400000000
namespace Mine

theorem nearest_con {w : World} {mean : ExcName → Option Value} {mg mb : Str → Option Value} (news : List (Addr × Obj)) (v z : Int) (t u : Tok)
    (v0 : 0 ≤ v) (v1 : v < 65536) (z0 : 0 ≤ z) (z1 : z < 268435456) (hn : 2 * z - 1024 < 2048 * v ∧ 2048 * v ≤ 2 * z + 1024) :
    Con w mean mg mb 1 147 [.int v t, .int z u] news (fun r news' => news' = news ∧ r = .bool true) := by
  w_on
  unfold Con
  k_fill
  intro dp un gd cn cs ad ccd cl outer A₀ base h₀ L m s Q E B F X N T hk hd hu hret
  refine wpAny_call ?_
  k_dflt cell_enter
  ((repeat' (first | ((with_reducible refine Halt.mk ?_); first | (have tokzq : PassTok := PassTok.mk; walk1 <;> (try clear tokzq))) | (k_unfold; (try dsimp only)) | (k_end; wrow_close) | walk1 | (dsimp only; walk1) | (leave1; walk_say "STEP leave1"; try dsimp only) | fail "no step")); (all_goals (try (with_reducible refine Halt.mk ?_))))
  rw [decide_eq_true hn.2]
  exact hret _ _ _ _ (by assumption) (by assumption) ⟨rfl, rfl⟩

section
variable {prog : Program} {w : World} {A : Around} {E : Value → Shared → Prop} {s : Shared} {env : Env} {h₀ : Heap} {x : Str} {body : List Stmt} {Q : Flow → Shared → Prop}
/-- over range(n): some names are stored anew, the ledger grows -/
theorem range_led {r : Addr} {b₀ : Int} {t₀ u₀ v₀ : Tok} {n : Nat} {m₀ : Str → Option Value} {news : List (Addr × Obj)} (stored : List Str)
    (hh : A.handled = none) (hr : IsRange s.heap r 0 b₀ 1 t₀ u₀ v₀) (hb : b₀ = (n : Int)) (hn : n < 2 ^ 62) (F : Fr h₀ env.locals s.heap m₀) (N : News h₀ env.locals s.heap news)
    (turn : ∀ (i : Nat) (t : Tok) (u : Str → Option Value) nx h tk I oI, i < n → Grows news nx → (∀ p ∈ nx, p.1 ≠ I) → Fr h₀ env.locals h (fun z => if z = x then some (.int (i : Int) t) else if stored.contains z then u z else m₀ z) → News h₀ env.locals h ((I, oI) :: nx) →
      wpAny (model prog w) A (execs body env) (TurnJ h₀ env.locals I oI (fun m nx => (∀ z, z ≠ x → stored.contains z = false → m z = m₀ z) ∧ Grows news nx) { s with heap := h, toks := tk } Q) E { s with heap := h, toks := tk })
    (done : ∀ (u : Str → Option Value) nx h tk, Grows news nx → Fr h₀ env.locals h (fun z => if z = x then u z else if stored.contains z then u z else m₀ z) → News h₀ env.locals h nx → Q .next { s with heap := h, toks := tk }) :
    LoopIn prog w A h₀ env x body Q E (.ref r) s := by
  have e : ∀ {m₁ : Str → Option Value} {v : Option Value}, (∀ z, z ≠ x → stored.contains z = false → m₁ z = m₀ z) → ∀ z, (if z = x then v else m₁ z) = (if z = x then v else if stored.contains z then m₁ z else m₀ z) := by
    intro m₁ v h z
    by_cases hx : z = x
    · rw [if_pos hx, if_pos hx]
    · rw [if_neg hx, if_neg hx]
      cases h3 : stored.contains z with
      | true => simp
      | false => simp only [Bool.false_eq_true, if_false]; exact h z hx h3
  refine range_J (fun i m nx => (∀ z, z ≠ x → stored.contains z = false → m z = m₀ z) ∧ Grows news nx) hh hr hb hn F N ⟨fun _ _ _ => rfl, Grows.refl _⟩ ?_ ?_
  · rintro i t m₁ nx h tk I oI hi ⟨h2, hJ⟩ off F₁ N₁
    exact turn i t m₁ nx h tk I oI hi hJ off (fr_as F₁ (e h2)) N₁
  · rintro m₁ nx h tk ⟨h2, hJ⟩ F₁ N₁
    refine done m₁ nx h tk hJ (fr_as F₁ fun z => ?_) N₁
    by_cases hx : z = x
    · rw [if_pos hx]
    · have := e (v := none) h2 z
      rw [if_neg hx, if_neg hx] at this
      rw [if_neg hx]; exact this
end

section
variable {prog : Program} {w : World} {A : Around} {E : Value → Shared → Prop} {s : Shared} {h₀ : Heap} {L : Addr} {news : List (Addr × Obj)}
theorem row_itemB {value slice : PySem.Expr} {R : Addr} {rows : List (List Int)} {k W : Int} {u : Tok} {Q : Value → Shared → Prop} {sub : List (Addr × Obj)}
    (N : News h₀ L s.heap news) (hr : RowsAt sub R rows) (hss : ∀ q ∈ sub, q ∈ news) (wl : ∀ r ∈ rows, r.length = W.toNat) (hc : ∀ r ∈ rows, ∀ c ∈ r, 0 ≤ c ∧ c < 65536) (h0 : 0 ≤ k) (h1 : k < rows.length) (h2 : rows.length ≤ 4)
    (h : ∀ c us n, (c, PySem.W.listOf (List.toArray us) n) ∈ sub → IntsAre us (rows.getD k.toNat []) → us.length = W.toNat → (rows.getD k.toNat []).length = W.toNat → (∀ c ∈ rows.getD k.toNat [], 0 ≤ c ∧ c < 65536) → Q (.ref c) s)
    (hs : subscripted slice false (.ref R) (.int k u) = operate [.ref R, .int k u] (getItem (.ref R) (.int k u))) :
    wpAny (model prog w) A (subscriptTail value slice (.ref R) (.int k u)) Q E s := by
  have hm : rows.getD k.toNat [] ∈ rows := by
    rw [List.getD_eq_getElem?_getD, List.getElem?_eq_getElem (by omega)]
    exact List.getElem_mem _
  exact row_item N hr hss h0 h1 h2 (fun c us n a b => h c us n a b (b.length.trans (wl _ hm)) (wl _ hm) (hc _ hm)) hs
theorem int_itemB {value slice : PySem.Expr} {c : Addr} {us : List Value} {n : Nat} {r : List Int} {k W : Int} {u : Tok} {Q : Value → Shared → Prop}
    (N : News h₀ L s.heap news) (hm : (c, PySem.W.listOf (List.toArray us) n) ∈ news) (hi : IntsAre us r) (hl : r.length = W.toNat) (hc : ∀ c ∈ r, 0 ≤ c ∧ c < 65536) (h0 : 0 ≤ k) (h1 : k < W) (h2 : W ≤ 4)
    (h : ∀ t a, a = r.getD k.toNat 0 → 0 ≤ a → a < 65536 → Q (.int a t) s)
    (hs : subscripted slice false (.ref c) (.int k u) = operate [.ref c, .int k u] (getItem (.ref c) (.int k u))) :
    wpAny (model prog w) A (subscriptTail value slice (.ref c) (.int k u)) Q E s := by
  have hm' : r.getD k.toNat 0 ∈ r := by
    rw [List.getD_eq_getElem?_getD, List.getElem?_eq_getElem (by omega)]
    exact List.getElem_mem _
  exact int_item N hm hi h0 (by omega) (by omega) (fun t => h t _ rfl (hc _ hm').1 (hc _ hm').2) hs
theorem isl {c : Addr} {us : List Value} {n : Nat} (N : News h₀ L s.heap news) (hm : (c, PySem.W.listOf (List.toArray us) n) ∈ news) : s.heap.IsList c us.toArray := ⟨_, (N _ hm).1, rfl, n, rfl⟩
end

local macro_rules | `(tactic| k_mem) => `(tactic| first | assumption | exact List.mem_cons_self | (refine List.mem_cons_of_mem _ ?_; k_mem) | (refine Grows.sub (by assumption) _ ?_; k_mem))
local macro_rules | `(tactic| k_all) => `(tactic| first | assumption | exact allLt_ne (by assumption) | exact off1_ne (by assumption) | (refine ne_cons ?a ?b; (case a => first | exact Ne.symm (by assumption) | assumption | k_ne); (case b => k_all)))
local macro_rules | `(tactic| walk_at "exec For Name Call cons nil") => `(tactic| (k_here; (rename Fr _ _ _ _ => lF'); (with_unfolding_all refine' For_J lF' ?k1 ?k2 ?_; (case k1 => exact rfl); (case k2 => exact rfl); k_whole)))
local macro_rules | `(tactic| walk_at "call builtin:len") => `(tactic| ((fail_if_success (have := ‹PassTok›)); refine Halt.out ?_))
local macro_rules | `(tactic| walk_at "subscriptTail") => `(tactic| ((fail_if_success (have := ‹PassTok›)); refine Halt.out ?_))

section
variable {prog : Program} {w : World} {A : Around} {E : Value → Shared → Prop} {s : Shared} {h₀ : Heap} {L : Addr} {m : Str → Option Value} {news : List (Addr × Obj)}
theorem sum_ar {l : Addr} {vs : List Value} {n : Nat} {f : Int → Int → Int} {x y : Int} {Q : Value → Shared → Prop} (hh : A.handled = none) (F : Fr h₀ L s.heap m) (N : News h₀ L s.heap news) (hm : (l, PySem.W.listOf (List.toArray vs) n) ∈ news) (hi : IntsAre vs (arOut f x y 3)) (hf : ∀ x y, 0 ≤ f x y ∧ f x y < 65536)
    (h : ∀ h' tk t' S, Fr h₀ L h' m → News h₀ L h' news → S = around f x y → 0 ≤ S → S < 524288 → Q (.int S t') { s with heap := h', toks := tk }) : wpAny (model prog w) A (call (.builtin "sum") [.ref l]) Q E s := by
  have a := around_range hf x y
  refine sumK hh F N (isl N hm) hi fun h' tk t' F' N' => ?_
  rw [arOut_sum]
  exact h h' tk t' _ F' N' rfl a.1 (by omega)
end
local macro_rules | `(tactic| walk_at "call builtin:sum") => `(tactic| ((fail_if_success (have := ‹PassTok›)); refine Halt.out ?_))
local macro_rules | `(tactic| walk_at "binaryOp Add ref ref") => `(tactic| ((fail_if_success (have := ‹PassTok›)); refine Halt.out ?_))
local macro_rules | `(tactic| walk_at "call builtin:min") => `(tactic| ((fail_if_success (have := ‹PassTok›)); refine Halt.out ?_))
local macro_rules | `(tactic| walk_at "call builtin:max") => `(tactic| ((fail_if_success (have := ‹PassTok›)); refine Halt.out ?_))
local macro_rules | `(tactic| walk_at "call ref") => `(tactic| ((fail_if_success (have := ‹PassTok›)); refine Halt.out ?_))

theorem keptIn_in {p n : Int} (h0 : 0 ≤ p) (h1 : p < n) : keptIn p n = p := by
  unfold keptIn
  rw [if_neg (by omega), if_pos h1]
theorem at2_in {rows : List (List Int)} {W H : Int} {i j : Nat} (hi : i < H.toNat) (hj : j < W.toNat) : (rows.getD (i : Int).toNat []).getD (j : Int).toNat 0 = at2 rows W H (j : Int) (i : Int) := by
  unfold at2 cell
  rw [keptIn_in (by omega) (by omega), keptIn_in (by omega) (by omega)]
theorem smoothRows_at {f : Int → Int → Int} {W H s : Int} {i j : Nat} (hi : i < H.toNat) (hj : j < W.toNat) : ((smoothRows f W H s).getD (i : Int).toNat []).getD (j : Int).toNat 0 = smooth1 f s (j : Int) (i : Int) := by
  unfold smoothRows
  simp [List.getD_eq_getElem?_getD, hi, hj]

theorem right_con {w : World} {mean : ExcName → Option Value} {mg mb : Str → Option Value} (news : List (Addr × Obj)) (R R2 : Addr) (W H : Int) (rows rows2 : List (List Int)) (sh : Int) (t : Tok)
    (hr : RowsAt news R rows) (hr2 : RowsAt news R2 rows2) (e2 : rows2 = smoothRows (at2 rows W H) W H sh) (hl : rows.length = H.toNat) (h0 : 0 < H) (w0 : 0 < W) (wl : ∀ r ∈ rows, r.length = W.toNat) (h4 : H ≤ 4) (w4 : W ≤ 4)
    (hc : ∀ r ∈ rows, ∀ c ∈ r, 0 ≤ c ∧ c < 65536) (hf : ∀ x y, 0 ≤ at2 rows W H x y ∧ at2 rows W H x y < 65536) (s0 : 0 ≤ sh) (s1 : sh ≤ 100) :
    Con w mean mg mb 12 154 [.ref R, .ref R2, .int sh t] news (fun r news' => r = .bool true ∧ Grows news news') := by
  w_on
  unfold Con
  k_fill
  intro dp un gd cn cs ad ccd cl outer A₀ base h₀ L m s Q E B F X N T hk hd hu hret
  have hl2 : rows2.length = H.toNat := by rw [e2]; simp [smoothRows]
  have wl2 : ∀ r ∈ rows2, r.length = W.toNat := by
    rw [e2]
    intro r hr
    obtain ⟨y, hy, rfl⟩ := List.mem_map.mp hr
    simp
  have hc2 : ∀ r ∈ rows2, ∀ c ∈ r, 0 ≤ c ∧ c < 65536 := by
    rw [e2]
    intro r hr c hc
    obtain ⟨y, hy, rfl⟩ := List.mem_map.mp hr
    obtain ⟨x, hx, rfl⟩ := List.mem_map.mp hc
    exact smooth1_range hf s0 s1 _ _
  obtain ⟨vs, nv, hm, hvl, hvr⟩ := id hr
  have hvl' : vs.length = H.toNat := hvl.trans hl
  have hHn : H = ((H.toNat : Nat) : Int) := by omega
  have hWn : W = ((W.toNat : Nat) : Int) := by omega
  refine wpAny_call ?_
  k_dflt cell_enter
  ((repeat' (first | ((with_reducible refine Halt.mk ?_); first | (safely (with_reducible (k_here; (with_reducible show wpAny _ _ (call (Value.ref 147) [Value.int _ _, Value.int _ _]) _ _ _); k_dflt (refine' nearest_con _ _ _ _ _ ?krzq ?kazq ?kbzq ?kczq ?kezq _ _ _ _ _ _ _ _ _ _ _ _ _ _ _ _ _ ?k1zq ?k2zq ?k3zq ?k4zq ?k5zq ?kKzq ?kdzq ?kuzq ?_; (case k1zq => k_asm); (case k2zq => k_asm); (case k3zq => k_asm); (case k4zq => k_asm); (case k5zq => k_asm); (case krzq => assumption); (case kazq => assumption); (case kbzq => assumption); (case kczq => assumption); (case kezq => assumption); (case kKzq => first | exact rfl | assumption); (case kdzq => ktr_room); (case kuzq => ktr_units)); (intro r9zq news9zq h9zq tk9zq F9zq N9zq hOzq; obtain ⟨e1zq, e2zq⟩ := hOzq; rw [e1zq] at N9zq; clear e1zq; subst e2zq; (try dsimp only); (try k_fold))))) | (safely (with_reducible (k_here; (with_reducible show wpAny _ _ (call (Value.ref 140) [Value.ref _, Value.int _ _, Value.int _ _]) _ _ _); k_dflt (refine' around_con _ _ _ _ _ _ _ _ _ ?krzq ?kazq ?kbzq ?kczq ?kezq ?kfzq ?kgzq _ _ _ _ _ _ _ _ _ _ _ _ _ _ _ _ _ ?k1zq ?k2zq ?k3zq ?k4zq ?k5zq ?kKzq ?kdzq ?kuzq ?_; (case k1zq => k_asm); (case k2zq => k_asm); (case k3zq => k_asm); (case k4zq => k_asm); (case k5zq => k_asm); (case krzq => refine RowsAt.mono (by assumption) ?_; intro q9zq hq9zq; k_mem); (case kazq => assumption); (case kbzq => assumption); (case kczq => assumption); (case kezq => assumption); (case kfzq => assumption); (case kgzq => assumption); (case kKzq => first | exact rfl | assumption); (case kdzq => ktr_room); (case kuzq => ktr_units)); (intro r9zq news9zq h9zq tk9zq F9zq N9zq hOzq; obtain ⟨b9zq, vs9zq, n9zq, e2zq, hG9zq, hm9zq, hi9zq⟩ := hOzq; subst e2zq; (try dsimp only); (try k_fold))))) | (safely (with_reducible (k_here; (with_reducible show wpAny _ _ (call (Value.builtin _) [Value.ref _]) _ _ _); (with_unfolding_all refine' kso_max ?k1zq ?k2zq ?k3zq ?k4zq ?k5zq ?k6zq ?_; (case k1zq => k_asm); (case k2zq => k_asm); (case k4zq => assumption); (case k3zq => exact isl (by k_asm) (by k_mem)); (case k5zq => simp); (case k6zq => with_unfolding_all rfl); k_whole); intro h'zq M'zq t'zq k'zq F'zq N'zq a'zq b'zq; (try k_sweep)))) | (safely (with_reducible (k_here; (with_reducible show wpAny _ _ (call (Value.builtin _) [Value.ref _]) _ _ _); (with_unfolding_all refine' kso_min ?k1zq ?k2zq ?k3zq ?k4zq ?k5zq ?k6zq ?_; (case k1zq => k_asm); (case k2zq => k_asm); (case k4zq => assumption); (case k3zq => exact isl (by k_asm) (by k_mem)); (case k5zq => simp); (case k6zq => with_unfolding_all rfl); k_whole); intro h'zq M'zq t'zq k'zq F'zq N'zq a'zq b'zq; (try k_sweep)))) | (safely (with_reducible (k_here; (with_reducible show wpAny _ _ (binaryOp _ (Value.ref _) (Value.ref _)) _ _ _); k_dflt (refine' kmk_add_ints ?Fzq ?Nzq ?azq ?bzq ?izq ?jzq ?_ ?zzq; (case Fzq => k_asm); (case Nzq => k_asm); (case azq => exact isl (by k_asm) (by k_mem)); (case bzq => exact isl (by k_asm) (by k_mem)); (case izq => assumption); (case jzq => exact .cons _ _ .nil); (case zzq => (rw [arOut_len]; exact Nat.le_of_ble_eq_true rfl))); intro D'zq ws'zq h'zq F'zq N'zq l1zq hI'zq; (try k_lt l1zq); (try k_sweep)))) | (safely (with_reducible (k_here; (with_reducible show wpAny _ _ (call (Value.builtin "sum") [Value.ref _]) _ _ _); (with_unfolding_all refine' sum_ar ?hzq ?Fzq ?Nzq ?mzq ?izq ?fzq ?_; (case hzq => exact rfl); (case Fzq => k_asm); (case izq => assumption); (case Nzq => k_asm); (case mzq => k_mem); (case fzq => assumption); k_whole); intro h9zq tk9zq t9zq S9zq F9zq N9zq eS9zq lS9zq lS8zq))) | (safely (with_reducible (k_here; (with_reducible show wpAny _ _ (subscriptTail _ _ (Value.ref _) (Value.int _ _)) _ _ _); (with_unfolding_all refine' int_itemB ?Nzq ?mzq ?izq ?dzq ?ezq ?azq ?bzq ?czq ?_ ?szq; (case izq => assumption); (case Nzq => assumption); (case mzq => k_mem); (case dzq => assumption); (case ezq => assumption); (case azq => omega); (case bzq => omega); (case czq => omega); (case szq => with_unfolding_all rfl)); k_whole; intro t9zq a9zq ea9zq la9zq lb9zq))) | (safely (with_reducible (k_here; (with_reducible show wpAny _ _ (subscriptTail _ _ (Value.ref _) (Value.int _ _)) _ _ _); (with_unfolding_all refine' row_itemB ?Nzq ?mzq ?zzq ?dzq ?ezq ?azq ?bzq ?czq ?_ ?szq; (case Nzq => assumption); (case mzq => assumption); (case dzq => assumption); (case ezq => assumption); (case zzq => intro q9zq hq9zq; k_mem); (case azq => omega); (case bzq => omega); (case czq => omega); (case szq => with_unfolding_all rfl)); k_whole; intro c9zq us9zq n9zq hm9zq hi9zq hu9zq hl9zq hc9zq))) | (safely (with_reducible (k_here; (with_reducible show wpAny _ _ (call (Value.builtin "len") [Value.ref _]) _ _ _); k_dflt (refine' len_led ?Nzq ?mzq ?ezq ?azq ?bzq ?_; (case Nzq => k_asm); (case mzq => k_mem); (case ezq => assumption); (case azq => assumption); (case bzq => assumption))))) | (have tokzq : PassTok := PassTok.mk; walk1 <;> (try clear tokzq))) | (k_unfold; (try dsimp only)) | (k_end; wrow_close) | walk1 | (dsimp only; walk1) | (leave1; walk_say "STEP leave1"; try dsimp only) | fail "no step")); (all_goals (try (with_reducible refine Halt.mk ?_))))
  dsimp only
  rename Fr _ _ _ _ => lF'
  rename News _ _ _ _ => lN'
  rename IsRange _ _ _ _ _ _ _ _ => rgX
  dsimp only at rgX
  with_unfolding_all refine range_led [Str.ofString "x", Str.ofString "around", Str.ofString "own"] rfl rgX hHn (by omega) lF' lN' ?_ ?_
  · intro i t9 u9 nx h9 tk9 I9 oI9 hi hG off F9 N9
    clear lF' lN' rgX
    (try k_fold)
    ((repeat' (first | ((with_reducible refine Halt.mk ?_); first | (safely (with_reducible (k_here; (with_reducible show wpAny _ _ (call (Value.ref 147) [Value.int _ _, Value.int _ _]) _ _ _); k_dflt (refine' nearest_con _ _ _ _ _ ?krzq ?kazq ?kbzq ?kczq ?kezq _ _ _ _ _ _ _ _ _ _ _ _ _ _ _ _ _ ?k1zq ?k2zq ?k3zq ?k4zq ?k5zq ?kKzq ?kdzq ?kuzq ?_; (case k1zq => k_asm); (case k2zq => k_asm); (case k3zq => k_asm); (case k4zq => k_asm); (case k5zq => k_asm); (case krzq => assumption); (case kazq => assumption); (case kbzq => assumption); (case kczq => assumption); (case kezq => assumption); (case kKzq => first | exact rfl | assumption); (case kdzq => ktr_room); (case kuzq => ktr_units)); (intro r9zq news9zq h9zq tk9zq F9zq N9zq hOzq; obtain ⟨e1zq, e2zq⟩ := hOzq; rw [e1zq] at N9zq; clear e1zq; subst e2zq; (try dsimp only); (try k_fold))))) | (safely (with_reducible (k_here; (with_reducible show wpAny _ _ (call (Value.ref 140) [Value.ref _, Value.int _ _, Value.int _ _]) _ _ _); k_dflt (refine' around_con _ _ _ _ _ _ _ _ _ ?krzq ?kazq ?kbzq ?kczq ?kezq ?kfzq ?kgzq _ _ _ _ _ _ _ _ _ _ _ _ _ _ _ _ _ ?k1zq ?k2zq ?k3zq ?k4zq ?k5zq ?kKzq ?kdzq ?kuzq ?_; (case k1zq => k_asm); (case k2zq => k_asm); (case k3zq => k_asm); (case k4zq => k_asm); (case k5zq => k_asm); (case krzq => refine RowsAt.mono (by assumption) ?_; intro q9zq hq9zq; k_mem); (case kazq => assumption); (case kbzq => assumption); (case kczq => assumption); (case kezq => assumption); (case kfzq => assumption); (case kgzq => assumption); (case kKzq => first | exact rfl | assumption); (case kdzq => ktr_room); (case kuzq => ktr_units)); (intro r9zq news9zq h9zq tk9zq F9zq N9zq hOzq; obtain ⟨b9zq, vs9zq, n9zq, e2zq, hG9zq, hm9zq, hi9zq⟩ := hOzq; subst e2zq; (try dsimp only); (try k_fold))))) | (safely (with_reducible (k_here; (with_reducible show wpAny _ _ (call (Value.builtin _) [Value.ref _]) _ _ _); (with_unfolding_all refine' kso_max ?k1zq ?k2zq ?k3zq ?k4zq ?k5zq ?k6zq ?_; (case k1zq => k_asm); (case k2zq => k_asm); (case k4zq => assumption); (case k3zq => exact isl (by k_asm) (by k_mem)); (case k5zq => simp); (case k6zq => with_unfolding_all rfl); k_whole); intro h'zq M'zq t'zq k'zq F'zq N'zq a'zq b'zq; (try k_sweep)))) | (safely (with_reducible (k_here; (with_reducible show wpAny _ _ (call (Value.builtin _) [Value.ref _]) _ _ _); (with_unfolding_all refine' kso_min ?k1zq ?k2zq ?k3zq ?k4zq ?k5zq ?k6zq ?_; (case k1zq => k_asm); (case k2zq => k_asm); (case k4zq => assumption); (case k3zq => exact isl (by k_asm) (by k_mem)); (case k5zq => simp); (case k6zq => with_unfolding_all rfl); k_whole); intro h'zq M'zq t'zq k'zq F'zq N'zq a'zq b'zq; (try k_sweep)))) | (safely (with_reducible (k_here; (with_reducible show wpAny _ _ (binaryOp _ (Value.ref _) (Value.ref _)) _ _ _); k_dflt (refine' kmk_add_ints ?Fzq ?Nzq ?azq ?bzq ?izq ?jzq ?_ ?zzq; (case Fzq => k_asm); (case Nzq => k_asm); (case azq => exact isl (by k_asm) (by k_mem)); (case bzq => exact isl (by k_asm) (by k_mem)); (case izq => assumption); (case jzq => exact .cons _ _ .nil); (case zzq => (rw [arOut_len]; exact Nat.le_of_ble_eq_true rfl))); intro D'zq ws'zq h'zq F'zq N'zq l1zq hI'zq; (try k_lt l1zq); (try k_sweep)))) | (safely (with_reducible (k_here; (with_reducible show wpAny _ _ (call (Value.builtin "sum") [Value.ref _]) _ _ _); (with_unfolding_all refine' sum_ar ?hzq ?Fzq ?Nzq ?mzq ?izq ?fzq ?_; (case hzq => exact rfl); (case Fzq => k_asm); (case izq => assumption); (case Nzq => k_asm); (case mzq => k_mem); (case fzq => assumption); k_whole); intro h9zq tk9zq t9zq S9zq F9zq N9zq eS9zq lS9zq lS8zq))) | (safely (with_reducible (k_here; (with_reducible show wpAny _ _ (subscriptTail _ _ (Value.ref _) (Value.int _ _)) _ _ _); (with_unfolding_all refine' int_itemB ?Nzq ?mzq ?izq ?dzq ?ezq ?azq ?bzq ?czq ?_ ?szq; (case izq => assumption); (case Nzq => assumption); (case mzq => k_mem); (case dzq => assumption); (case ezq => assumption); (case azq => omega); (case bzq => omega); (case czq => omega); (case szq => with_unfolding_all rfl)); k_whole; intro t9zq a9zq ea9zq la9zq lb9zq))) | (safely (with_reducible (k_here; (with_reducible show wpAny _ _ (subscriptTail _ _ (Value.ref _) (Value.int _ _)) _ _ _); (with_unfolding_all refine' row_itemB ?Nzq ?mzq ?zzq ?dzq ?ezq ?azq ?bzq ?czq ?_ ?szq; (case Nzq => assumption); (case mzq => assumption); (case dzq => assumption); (case ezq => assumption); (case zzq => intro q9zq hq9zq; k_mem); (case azq => omega); (case bzq => omega); (case czq => omega); (case szq => with_unfolding_all rfl)); k_whole; intro c9zq us9zq n9zq hm9zq hi9zq hu9zq hl9zq hc9zq))) | (safely (with_reducible (k_here; (with_reducible show wpAny _ _ (call (Value.builtin "len") [Value.ref _]) _ _ _); k_dflt (refine' len_led ?Nzq ?mzq ?ezq ?azq ?bzq ?_; (case Nzq => k_asm); (case mzq => k_mem); (case ezq => assumption); (case azq => assumption); (case bzq => assumption))))) | (have tokzq : PassTok := PassTok.mk; walk1 <;> (try clear tokzq))) | (k_unfold; (try dsimp only)) | (k_end; wrow_close) | walk1 | (dsimp only; walk1) | (leave1; walk_say "STEP leave1"; try dsimp only) | fail "no step")); (all_goals (try (with_reducible refine Halt.mk ?_))))
    dsimp only
    rename Fr _ _ _ _ => lF'
    rename News _ _ _ _ => lN'
    rename IsRange _ _ _ _ _ _ _ _ => rgX
    dsimp only at rgX
    with_unfolding_all refine range_led [Str.ofString "around", Str.ofString "own"] rfl rgX hWn (by omega) lF' lN' ?_ ?_
    · intro j t8 u8 nx8 h8 tk8 I8 oI8 hj hG8 off8 F8 N8
      clear lF' lN' rgX
      (try k_fold)
      ((repeat' (first | ((with_reducible refine Halt.mk ?_); first | (safely (with_reducible (k_here; (with_reducible show wpAny _ _ (call (Value.ref 147) [Value.int _ _, Value.int _ _]) _ _ _); k_dflt (refine' nearest_con _ _ _ _ _ ?krzq ?kazq ?kbzq ?kczq ?kezq _ _ _ _ _ _ _ _ _ _ _ _ _ _ _ _ _ ?k1zq ?k2zq ?k3zq ?k4zq ?k5zq ?kKzq ?kdzq ?kuzq ?_; (case k1zq => k_asm); (case k2zq => k_asm); (case k3zq => k_asm); (case k4zq => k_asm); (case k5zq => k_asm); (case krzq => assumption); (case kazq => assumption); (case kbzq => assumption); (case kczq => assumption); (case kezq => assumption); (case kKzq => first | exact rfl | assumption); (case kdzq => ktr_room); (case kuzq => ktr_units)); (intro r9zq news9zq h9zq tk9zq F9zq N9zq hOzq; obtain ⟨e1zq, e2zq⟩ := hOzq; rw [e1zq] at N9zq; clear e1zq; subst e2zq; (try dsimp only); (try k_fold))))) | (safely (with_reducible (k_here; (with_reducible show wpAny _ _ (call (Value.ref 140) [Value.ref _, Value.int _ _, Value.int _ _]) _ _ _); k_dflt (refine' around_con _ _ _ _ _ _ _ _ _ ?krzq ?kazq ?kbzq ?kczq ?kezq ?kfzq ?kgzq _ _ _ _ _ _ _ _ _ _ _ _ _ _ _ _ _ ?k1zq ?k2zq ?k3zq ?k4zq ?k5zq ?kKzq ?kdzq ?kuzq ?_; (case k1zq => k_asm); (case k2zq => k_asm); (case k3zq => k_asm); (case k4zq => k_asm); (case k5zq => k_asm); (case krzq => refine RowsAt.mono (by assumption) ?_; intro q9zq hq9zq; k_mem); (case kazq => assumption); (case kbzq => assumption); (case kczq => assumption); (case kezq => assumption); (case kfzq => assumption); (case kgzq => assumption); (case kKzq => first | exact rfl | assumption); (case kdzq => ktr_room); (case kuzq => ktr_units)); (intro r9zq news9zq h9zq tk9zq F9zq N9zq hOzq; obtain ⟨b9zq, vs9zq, n9zq, e2zq, hG9zq, hm9zq, hi9zq⟩ := hOzq; subst e2zq; (try dsimp only); (try k_fold))))) | (safely (with_reducible (k_here; (with_reducible show wpAny _ _ (call (Value.builtin _) [Value.ref _]) _ _ _); (with_unfolding_all refine' kso_max ?k1zq ?k2zq ?k3zq ?k4zq ?k5zq ?k6zq ?_; (case k1zq => k_asm); (case k2zq => k_asm); (case k4zq => assumption); (case k3zq => exact isl (by k_asm) (by k_mem)); (case k5zq => simp); (case k6zq => with_unfolding_all rfl); k_whole); intro h'zq M'zq t'zq k'zq F'zq N'zq a'zq b'zq; (try k_sweep)))) | (safely (with_reducible (k_here; (with_reducible show wpAny _ _ (call (Value.builtin _) [Value.ref _]) _ _ _); (with_unfolding_all refine' kso_min ?k1zq ?k2zq ?k3zq ?k4zq ?k5zq ?k6zq ?_; (case k1zq => k_asm); (case k2zq => k_asm); (case k4zq => assumption); (case k3zq => exact isl (by k_asm) (by k_mem)); (case k5zq => simp); (case k6zq => with_unfolding_all rfl); k_whole); intro h'zq M'zq t'zq k'zq F'zq N'zq a'zq b'zq; (try k_sweep)))) | (safely (with_reducible (k_here; (with_reducible show wpAny _ _ (binaryOp _ (Value.ref _) (Value.ref _)) _ _ _); k_dflt (refine' kmk_add_ints ?Fzq ?Nzq ?azq ?bzq ?izq ?jzq ?_ ?zzq; (case Fzq => k_asm); (case Nzq => k_asm); (case azq => exact isl (by k_asm) (by k_mem)); (case bzq => exact isl (by k_asm) (by k_mem)); (case izq => assumption); (case jzq => exact .cons _ _ .nil); (case zzq => (rw [arOut_len]; exact Nat.le_of_ble_eq_true rfl))); intro D'zq ws'zq h'zq F'zq N'zq l1zq hI'zq; (try k_lt l1zq); (try k_sweep)))) | (safely (with_reducible (k_here; (with_reducible show wpAny _ _ (call (Value.builtin "sum") [Value.ref _]) _ _ _); (with_unfolding_all refine' sum_ar ?hzq ?Fzq ?Nzq ?mzq ?izq ?fzq ?_; (case hzq => exact rfl); (case Fzq => k_asm); (case izq => assumption); (case Nzq => k_asm); (case mzq => k_mem); (case fzq => assumption); k_whole); intro h9zq tk9zq t9zq S9zq F9zq N9zq eS9zq lS9zq lS8zq))) | (safely (with_reducible (k_here; (with_reducible show wpAny _ _ (subscriptTail _ _ (Value.ref _) (Value.int _ _)) _ _ _); (with_unfolding_all refine' int_itemB ?Nzq ?mzq ?izq ?dzq ?ezq ?azq ?bzq ?czq ?_ ?szq; (case izq => assumption); (case Nzq => assumption); (case mzq => k_mem); (case dzq => assumption); (case ezq => assumption); (case azq => omega); (case bzq => omega); (case czq => omega); (case szq => with_unfolding_all rfl)); k_whole; intro t9zq a9zq ea9zq la9zq lb9zq))) | (safely (with_reducible (k_here; (with_reducible show wpAny _ _ (subscriptTail _ _ (Value.ref _) (Value.int _ _)) _ _ _); (with_unfolding_all refine' row_itemB ?Nzq ?mzq ?zzq ?dzq ?ezq ?azq ?bzq ?czq ?_ ?szq; (case Nzq => assumption); (case mzq => assumption); (case dzq => assumption); (case ezq => assumption); (case zzq => intro q9zq hq9zq; k_mem); (case azq => omega); (case bzq => omega); (case czq => omega); (case szq => with_unfolding_all rfl)); k_whole; intro c9zq us9zq n9zq hm9zq hi9zq hu9zq hl9zq hc9zq))) | (safely (with_reducible (k_here; (with_reducible show wpAny _ _ (call (Value.builtin "len") [Value.ref _]) _ _ _); k_dflt (refine' len_led ?Nzq ?mzq ?ezq ?azq ?bzq ?_; (case Nzq => k_asm); (case mzq => k_mem); (case ezq => assumption); (case azq => assumption); (case bzq => assumption))))) | (have tokzq : PassTok := PassTok.mk; walk1 <;> (try clear tokzq))) | (k_unfold; (try dsimp only)) | (k_end; wrow_close) | walk1 | (dsimp only; walk1) | (leave1; walk_say "STEP leave1"; try dsimp only) | fail "no step")); (all_goals (try (with_reducible refine Halt.mk ?_))))
      rename (_ = (rows.getD _ []).getD _ 0) => ea
      rename (_ = (rows2.getD _ []).getD _ 0) => eb
      rename (_ = around _ _ _) => eS
      rw [at2_in hi hj] at ea
      rw [e2, smoothRows_at hi hj] at eb
      have hnear := near_ok hf s0 s1 (j : Int) (i : Int)
      rw [← eb, ← eS, ← ea] at hnear
      obtain ⟨n1, n2, n3⟩ := hnear
      ((repeat' (first | ((with_reducible refine Halt.mk ?_); first | (safely (with_reducible (k_here; (with_reducible show wpAny _ _ (call (Value.ref 147) [Value.int _ _, Value.int _ _]) _ _ _); k_dflt (refine' nearest_con _ _ _ _ _ ?krzq ?kazq ?kbzq ?kczq ?kezq _ _ _ _ _ _ _ _ _ _ _ _ _ _ _ _ _ ?k1zq ?k2zq ?k3zq ?k4zq ?k5zq ?kKzq ?kdzq ?kuzq ?_; (case k1zq => k_asm); (case k2zq => k_asm); (case k3zq => k_asm); (case k4zq => k_asm); (case k5zq => k_asm); (case krzq => assumption); (case kazq => assumption); (case kbzq => assumption); (case kczq => assumption); (case kezq => assumption); (case kKzq => first | exact rfl | assumption); (case kdzq => ktr_room); (case kuzq => ktr_units)); (intro r9zq news9zq h9zq tk9zq F9zq N9zq hOzq; obtain ⟨e1zq, e2zq⟩ := hOzq; rw [e1zq] at N9zq; clear e1zq; subst e2zq; (try dsimp only); (try k_fold))))) | (safely (with_reducible (k_here; (with_reducible show wpAny _ _ (call (Value.ref 140) [Value.ref _, Value.int _ _, Value.int _ _]) _ _ _); k_dflt (refine' around_con _ _ _ _ _ _ _ _ _ ?krzq ?kazq ?kbzq ?kczq ?kezq ?kfzq ?kgzq _ _ _ _ _ _ _ _ _ _ _ _ _ _ _ _ _ ?k1zq ?k2zq ?k3zq ?k4zq ?k5zq ?kKzq ?kdzq ?kuzq ?_; (case k1zq => k_asm); (case k2zq => k_asm); (case k3zq => k_asm); (case k4zq => k_asm); (case k5zq => k_asm); (case krzq => refine RowsAt.mono (by assumption) ?_; intro q9zq hq9zq; k_mem); (case kazq => assumption); (case kbzq => assumption); (case kczq => assumption); (case kezq => assumption); (case kfzq => assumption); (case kgzq => assumption); (case kKzq => first | exact rfl | assumption); (case kdzq => ktr_room); (case kuzq => ktr_units)); (intro r9zq news9zq h9zq tk9zq F9zq N9zq hOzq; obtain ⟨b9zq, vs9zq, n9zq, e2zq, hG9zq, hm9zq, hi9zq⟩ := hOzq; subst e2zq; (try dsimp only); (try k_fold))))) | (safely (with_reducible (k_here; (with_reducible show wpAny _ _ (call (Value.builtin _) [Value.ref _]) _ _ _); (with_unfolding_all refine' kso_max ?k1zq ?k2zq ?k3zq ?k4zq ?k5zq ?k6zq ?_; (case k1zq => k_asm); (case k2zq => k_asm); (case k4zq => assumption); (case k3zq => exact isl (by k_asm) (by k_mem)); (case k5zq => simp); (case k6zq => with_unfolding_all rfl); k_whole); intro h'zq M'zq t'zq k'zq F'zq N'zq a'zq b'zq; (try k_sweep)))) | (safely (with_reducible (k_here; (with_reducible show wpAny _ _ (call (Value.builtin _) [Value.ref _]) _ _ _); (with_unfolding_all refine' kso_min ?k1zq ?k2zq ?k3zq ?k4zq ?k5zq ?k6zq ?_; (case k1zq => k_asm); (case k2zq => k_asm); (case k4zq => assumption); (case k3zq => exact isl (by k_asm) (by k_mem)); (case k5zq => simp); (case k6zq => with_unfolding_all rfl); k_whole); intro h'zq M'zq t'zq k'zq F'zq N'zq a'zq b'zq; (try k_sweep)))) | (safely (with_reducible (k_here; (with_reducible show wpAny _ _ (binaryOp _ (Value.ref _) (Value.ref _)) _ _ _); k_dflt (refine' kmk_add_ints ?Fzq ?Nzq ?azq ?bzq ?izq ?jzq ?_ ?zzq; (case Fzq => k_asm); (case Nzq => k_asm); (case azq => exact isl (by k_asm) (by k_mem)); (case bzq => exact isl (by k_asm) (by k_mem)); (case izq => assumption); (case jzq => exact .cons _ _ .nil); (case zzq => (rw [arOut_len]; exact Nat.le_of_ble_eq_true rfl))); intro D'zq ws'zq h'zq F'zq N'zq l1zq hI'zq; (try k_lt l1zq); (try k_sweep)))) | (safely (with_reducible (k_here; (with_reducible show wpAny _ _ (call (Value.builtin "sum") [Value.ref _]) _ _ _); (with_unfolding_all refine' sum_ar ?hzq ?Fzq ?Nzq ?mzq ?izq ?fzq ?_; (case hzq => exact rfl); (case Fzq => k_asm); (case izq => assumption); (case Nzq => k_asm); (case mzq => k_mem); (case fzq => assumption); k_whole); intro h9zq tk9zq t9zq S9zq F9zq N9zq eS9zq lS9zq lS8zq))) | (safely (with_reducible (k_here; (with_reducible show wpAny _ _ (subscriptTail _ _ (Value.ref _) (Value.int _ _)) _ _ _); (with_unfolding_all refine' int_itemB ?Nzq ?mzq ?izq ?dzq ?ezq ?azq ?bzq ?czq ?_ ?szq; (case izq => assumption); (case Nzq => assumption); (case mzq => k_mem); (case dzq => assumption); (case ezq => assumption); (case azq => omega); (case bzq => omega); (case czq => omega); (case szq => with_unfolding_all rfl)); k_whole; intro t9zq a9zq ea9zq la9zq lb9zq))) | (safely (with_reducible (k_here; (with_reducible show wpAny _ _ (subscriptTail _ _ (Value.ref _) (Value.int _ _)) _ _ _); (with_unfolding_all refine' row_itemB ?Nzq ?mzq ?zzq ?dzq ?ezq ?azq ?bzq ?czq ?_ ?szq; (case Nzq => assumption); (case mzq => assumption); (case dzq => assumption); (case ezq => assumption); (case zzq => intro q9zq hq9zq; k_mem); (case azq => omega); (case bzq => omega); (case czq => omega); (case szq => with_unfolding_all rfl)); k_whole; intro c9zq us9zq n9zq hm9zq hi9zq hu9zq hl9zq hc9zq))) | (safely (with_reducible (k_here; (with_reducible show wpAny _ _ (call (Value.builtin "len") [Value.ref _]) _ _ _); k_dflt (refine' len_led ?Nzq ?mzq ?ezq ?azq ?bzq ?_; (case Nzq => k_asm); (case mzq => k_mem); (case ezq => assumption); (case azq => assumption); (case bzq => assumption))))) | (have tokzq : PassTok := PassTok.mk; walk1 <;> (try clear tokzq))) | (k_unfold; (try dsimp only)) | (k_end; wrow_close) | walk1 | (dsimp only; walk1) | (leave1; walk_say "STEP leave1"; try dsimp only) | fail "no step")); (all_goals (try (with_reducible refine Halt.mk ?_))))
      · rename Fr _ _ _ _ => lF'
        rename News _ _ _ _ => lN'
        rename (Grows ((I8, oI8) :: nx8) _) => hGx
        refine ⟨_, _, _, nx8, rfl, lF', fun q hq => lN' q ?_, off8, fun z h1 h2 => ?_, hG8⟩
        · have hq' := hGx.sub q hq
          repeat (first | assumption | refine List.mem_cons_of_mem _ ?_)
        · have h3 : z ≠ Str.ofString "own" := by
            intro e
            rw [e] at h2
            revert h2
            decide
          have h4 : z ≠ Str.ofString "around" := by
            intro e
            rw [e] at h2
            revert h2
            decide
          have h5 : ¬ (List.contains [Str.ofString "around", Str.ofString "own"] z = true) := by rw [h2]; exact Bool.false_ne_true
          exact (if_neg h4).trans ((if_neg h3).trans ((if_neg h1).trans (if_neg h5)))
      · exfalso
        rename (∀ a, a ∈ _ → a ≤ _) => hmx
        rename (_ = (rows2.getD _ []).getD _ 0) => ec
        rw [e2, smoothRows_at hi hj] at ec
        rw [ea] at hmx
        have hb := between_hi s0 s1 hmx
        rw [← ec] at hb
        contradiction
      · exfalso
        rename (∀ a, a ∈ _ → _ ≤ a) => hmn
        rename (_ = (rows2.getD _ []).getD _ 0) => ec
        rw [e2, smoothRows_at hi hj] at ec
        rw [ea] at hmn
        have hb := between_lo s0 s1 hmn
        rw [← ec] at hb
        contradiction
    · intro u8 nx8 h8 tk8 hG8 F8 N8
      clear lF' lN' rgX
      (try dsimp only)
      (try k_fold)
      ((repeat' (first | ((with_reducible refine Halt.mk ?_); first | (safely (with_reducible (k_here; (with_reducible show wpAny _ _ (call (Value.ref 147) [Value.int _ _, Value.int _ _]) _ _ _); k_dflt (refine' nearest_con _ _ _ _ _ ?krzq ?kazq ?kbzq ?kczq ?kezq _ _ _ _ _ _ _ _ _ _ _ _ _ _ _ _ _ ?k1zq ?k2zq ?k3zq ?k4zq ?k5zq ?kKzq ?kdzq ?kuzq ?_; (case k1zq => k_asm); (case k2zq => k_asm); (case k3zq => k_asm); (case k4zq => k_asm); (case k5zq => k_asm); (case krzq => assumption); (case kazq => assumption); (case kbzq => assumption); (case kczq => assumption); (case kezq => assumption); (case kKzq => first | exact rfl | assumption); (case kdzq => ktr_room); (case kuzq => ktr_units)); (intro r9zq news9zq h9zq tk9zq F9zq N9zq hOzq; obtain ⟨e1zq, e2zq⟩ := hOzq; rw [e1zq] at N9zq; clear e1zq; subst e2zq; (try dsimp only); (try k_fold))))) | (safely (with_reducible (k_here; (with_reducible show wpAny _ _ (call (Value.ref 140) [Value.ref _, Value.int _ _, Value.int _ _]) _ _ _); k_dflt (refine' around_con _ _ _ _ _ _ _ _ _ ?krzq ?kazq ?kbzq ?kczq ?kezq ?kfzq ?kgzq _ _ _ _ _ _ _ _ _ _ _ _ _ _ _ _ _ ?k1zq ?k2zq ?k3zq ?k4zq ?k5zq ?kKzq ?kdzq ?kuzq ?_; (case k1zq => k_asm); (case k2zq => k_asm); (case k3zq => k_asm); (case k4zq => k_asm); (case k5zq => k_asm); (case krzq => refine RowsAt.mono (by assumption) ?_; intro q9zq hq9zq; k_mem); (case kazq => assumption); (case kbzq => assumption); (case kczq => assumption); (case kezq => assumption); (case kfzq => assumption); (case kgzq => assumption); (case kKzq => first | exact rfl | assumption); (case kdzq => ktr_room); (case kuzq => ktr_units)); (intro r9zq news9zq h9zq tk9zq F9zq N9zq hOzq; obtain ⟨b9zq, vs9zq, n9zq, e2zq, hG9zq, hm9zq, hi9zq⟩ := hOzq; subst e2zq; (try dsimp only); (try k_fold))))) | (safely (with_reducible (k_here; (with_reducible show wpAny _ _ (call (Value.builtin _) [Value.ref _]) _ _ _); (with_unfolding_all refine' kso_max ?k1zq ?k2zq ?k3zq ?k4zq ?k5zq ?k6zq ?_; (case k1zq => k_asm); (case k2zq => k_asm); (case k4zq => assumption); (case k3zq => exact isl (by k_asm) (by k_mem)); (case k5zq => simp); (case k6zq => with_unfolding_all rfl); k_whole); intro h'zq M'zq t'zq k'zq F'zq N'zq a'zq b'zq; (try k_sweep)))) | (safely (with_reducible (k_here; (with_reducible show wpAny _ _ (call (Value.builtin _) [Value.ref _]) _ _ _); (with_unfolding_all refine' kso_min ?k1zq ?k2zq ?k3zq ?k4zq ?k5zq ?k6zq ?_; (case k1zq => k_asm); (case k2zq => k_asm); (case k4zq => assumption); (case k3zq => exact isl (by k_asm) (by k_mem)); (case k5zq => simp); (case k6zq => with_unfolding_all rfl); k_whole); intro h'zq M'zq t'zq k'zq F'zq N'zq a'zq b'zq; (try k_sweep)))) | (safely (with_reducible (k_here; (with_reducible show wpAny _ _ (binaryOp _ (Value.ref _) (Value.ref _)) _ _ _); k_dflt (refine' kmk_add_ints ?Fzq ?Nzq ?azq ?bzq ?izq ?jzq ?_ ?zzq; (case Fzq => k_asm); (case Nzq => k_asm); (case azq => exact isl (by k_asm) (by k_mem)); (case bzq => exact isl (by k_asm) (by k_mem)); (case izq => assumption); (case jzq => exact .cons _ _ .nil); (case zzq => (rw [arOut_len]; exact Nat.le_of_ble_eq_true rfl))); intro D'zq ws'zq h'zq F'zq N'zq l1zq hI'zq; (try k_lt l1zq); (try k_sweep)))) | (safely (with_reducible (k_here; (with_reducible show wpAny _ _ (call (Value.builtin "sum") [Value.ref _]) _ _ _); (with_unfolding_all refine' sum_ar ?hzq ?Fzq ?Nzq ?mzq ?izq ?fzq ?_; (case hzq => exact rfl); (case Fzq => k_asm); (case izq => assumption); (case Nzq => k_asm); (case mzq => k_mem); (case fzq => assumption); k_whole); intro h9zq tk9zq t9zq S9zq F9zq N9zq eS9zq lS9zq lS8zq))) | (safely (with_reducible (k_here; (with_reducible show wpAny _ _ (subscriptTail _ _ (Value.ref _) (Value.int _ _)) _ _ _); (with_unfolding_all refine' int_itemB ?Nzq ?mzq ?izq ?dzq ?ezq ?azq ?bzq ?czq ?_ ?szq; (case izq => assumption); (case Nzq => assumption); (case mzq => k_mem); (case dzq => assumption); (case ezq => assumption); (case azq => omega); (case bzq => omega); (case czq => omega); (case szq => with_unfolding_all rfl)); k_whole; intro t9zq a9zq ea9zq la9zq lb9zq))) | (safely (with_reducible (k_here; (with_reducible show wpAny _ _ (subscriptTail _ _ (Value.ref _) (Value.int _ _)) _ _ _); (with_unfolding_all refine' row_itemB ?Nzq ?mzq ?zzq ?dzq ?ezq ?azq ?bzq ?czq ?_ ?szq; (case Nzq => assumption); (case mzq => assumption); (case dzq => assumption); (case ezq => assumption); (case zzq => intro q9zq hq9zq; k_mem); (case azq => omega); (case bzq => omega); (case czq => omega); (case szq => with_unfolding_all rfl)); k_whole; intro c9zq us9zq n9zq hm9zq hi9zq hu9zq hl9zq hc9zq))) | (safely (with_reducible (k_here; (with_reducible show wpAny _ _ (call (Value.builtin "len") [Value.ref _]) _ _ _); k_dflt (refine' len_led ?Nzq ?mzq ?ezq ?azq ?bzq ?_; (case Nzq => k_asm); (case mzq => k_mem); (case ezq => assumption); (case azq => assumption); (case bzq => assumption))))) | (have tokzq : PassTok := PassTok.mk; walk1 <;> (try clear tokzq))) | (k_unfold; (try dsimp only)) | (k_end; wrow_close) | walk1 | (dsimp only; walk1) | (leave1; walk_say "STEP leave1"; try dsimp only) | fail "no step")); (all_goals (try (with_reducible refine Halt.mk ?_))))
      refine ⟨_, _, _, nx, rfl, F8, fun q hq => N8 q (hG8.sub q hq), off, fun z h1 h2 => ?_, hG⟩
      have h3 : z ≠ Str.ofString "x" := by
        intro e
        rw [e] at h2
        revert h2
        decide
      have h5 : ¬ (List.contains [Str.ofString "x", Str.ofString "around", Str.ofString "own"] z = true) := by rw [h2]; exact Bool.false_ne_true
      have h6 : ¬ (List.contains [Str.ofString "around", Str.ofString "own"] z = true) := by
        intro e
        exact h5 (by simp only [List.contains_cons, e, Bool.or_true])
      exact (if_neg h3).trans ((if_neg h6).trans ((if_neg h1).trans (if_neg h5)))
  · intro u9 nx h9 tk9 hG F9 N9
    clear lF' lN' rgX
    (try dsimp only)
    (try k_fold)
    ((repeat' (first | ((with_reducible refine Halt.mk ?_); first | (safely (with_reducible (k_here; (with_reducible show wpAny _ _ (call (Value.ref 147) [Value.int _ _, Value.int _ _]) _ _ _); k_dflt (refine' nearest_con _ _ _ _ _ ?krzq ?kazq ?kbzq ?kczq ?kezq _ _ _ _ _ _ _ _ _ _ _ _ _ _ _ _ _ ?k1zq ?k2zq ?k3zq ?k4zq ?k5zq ?kKzq ?kdzq ?kuzq ?_; (case k1zq => k_asm); (case k2zq => k_asm); (case k3zq => k_asm); (case k4zq => k_asm); (case k5zq => k_asm); (case krzq => assumption); (case kazq => assumption); (case kbzq => assumption); (case kczq => assumption); (case kezq => assumption); (case kKzq => first | exact rfl | assumption); (case kdzq => ktr_room); (case kuzq => ktr_units)); (intro r9zq news9zq h9zq tk9zq F9zq N9zq hOzq; obtain ⟨e1zq, e2zq⟩ := hOzq; rw [e1zq] at N9zq; clear e1zq; subst e2zq; (try dsimp only); (try k_fold))))) | (safely (with_reducible (k_here; (with_reducible show wpAny _ _ (call (Value.ref 140) [Value.ref _, Value.int _ _, Value.int _ _]) _ _ _); k_dflt (refine' around_con _ _ _ _ _ _ _ _ _ ?krzq ?kazq ?kbzq ?kczq ?kezq ?kfzq ?kgzq _ _ _ _ _ _ _ _ _ _ _ _ _ _ _ _ _ ?k1zq ?k2zq ?k3zq ?k4zq ?k5zq ?kKzq ?kdzq ?kuzq ?_; (case k1zq => k_asm); (case k2zq => k_asm); (case k3zq => k_asm); (case k4zq => k_asm); (case k5zq => k_asm); (case krzq => refine RowsAt.mono (by assumption) ?_; intro q9zq hq9zq; k_mem); (case kazq => assumption); (case kbzq => assumption); (case kczq => assumption); (case kezq => assumption); (case kfzq => assumption); (case kgzq => assumption); (case kKzq => first | exact rfl | assumption); (case kdzq => ktr_room); (case kuzq => ktr_units)); (intro r9zq news9zq h9zq tk9zq F9zq N9zq hOzq; obtain ⟨b9zq, vs9zq, n9zq, e2zq, hG9zq, hm9zq, hi9zq⟩ := hOzq; subst e2zq; (try dsimp only); (try k_fold))))) | (safely (with_reducible (k_here; (with_reducible show wpAny _ _ (call (Value.builtin _) [Value.ref _]) _ _ _); (with_unfolding_all refine' kso_max ?k1zq ?k2zq ?k3zq ?k4zq ?k5zq ?k6zq ?_; (case k1zq => k_asm); (case k2zq => k_asm); (case k4zq => assumption); (case k3zq => exact isl (by k_asm) (by k_mem)); (case k5zq => simp); (case k6zq => with_unfolding_all rfl); k_whole); intro h'zq M'zq t'zq k'zq F'zq N'zq a'zq b'zq; (try k_sweep)))) | (safely (with_reducible (k_here; (with_reducible show wpAny _ _ (call (Value.builtin _) [Value.ref _]) _ _ _); (with_unfolding_all refine' kso_min ?k1zq ?k2zq ?k3zq ?k4zq ?k5zq ?k6zq ?_; (case k1zq => k_asm); (case k2zq => k_asm); (case k4zq => assumption); (case k3zq => exact isl (by k_asm) (by k_mem)); (case k5zq => simp); (case k6zq => with_unfolding_all rfl); k_whole); intro h'zq M'zq t'zq k'zq F'zq N'zq a'zq b'zq; (try k_sweep)))) | (safely (with_reducible (k_here; (with_reducible show wpAny _ _ (binaryOp _ (Value.ref _) (Value.ref _)) _ _ _); k_dflt (refine' kmk_add_ints ?Fzq ?Nzq ?azq ?bzq ?izq ?jzq ?_ ?zzq; (case Fzq => k_asm); (case Nzq => k_asm); (case azq => exact isl (by k_asm) (by k_mem)); (case bzq => exact isl (by k_asm) (by k_mem)); (case izq => assumption); (case jzq => exact .cons _ _ .nil); (case zzq => (rw [arOut_len]; exact Nat.le_of_ble_eq_true rfl))); intro D'zq ws'zq h'zq F'zq N'zq l1zq hI'zq; (try k_lt l1zq); (try k_sweep)))) | (safely (with_reducible (k_here; (with_reducible show wpAny _ _ (call (Value.builtin "sum") [Value.ref _]) _ _ _); (with_unfolding_all refine' sum_ar ?hzq ?Fzq ?Nzq ?mzq ?izq ?fzq ?_; (case hzq => exact rfl); (case Fzq => k_asm); (case izq => assumption); (case Nzq => k_asm); (case mzq => k_mem); (case fzq => assumption); k_whole); intro h9zq tk9zq t9zq S9zq F9zq N9zq eS9zq lS9zq lS8zq))) | (safely (with_reducible (k_here; (with_reducible show wpAny _ _ (subscriptTail _ _ (Value.ref _) (Value.int _ _)) _ _ _); (with_unfolding_all refine' int_itemB ?Nzq ?mzq ?izq ?dzq ?ezq ?azq ?bzq ?czq ?_ ?szq; (case izq => assumption); (case Nzq => assumption); (case mzq => k_mem); (case dzq => assumption); (case ezq => assumption); (case azq => omega); (case bzq => omega); (case czq => omega); (case szq => with_unfolding_all rfl)); k_whole; intro t9zq a9zq ea9zq la9zq lb9zq))) | (safely (with_reducible (k_here; (with_reducible show wpAny _ _ (subscriptTail _ _ (Value.ref _) (Value.int _ _)) _ _ _); (with_unfolding_all refine' row_itemB ?Nzq ?mzq ?zzq ?dzq ?ezq ?azq ?bzq ?czq ?_ ?szq; (case Nzq => assumption); (case mzq => assumption); (case dzq => assumption); (case ezq => assumption); (case zzq => intro q9zq hq9zq; k_mem); (case azq => omega); (case bzq => omega); (case czq => omega); (case szq => with_unfolding_all rfl)); k_whole; intro c9zq us9zq n9zq hm9zq hi9zq hu9zq hl9zq hc9zq))) | (safely (with_reducible (k_here; (with_reducible show wpAny _ _ (call (Value.builtin "len") [Value.ref _]) _ _ _); k_dflt (refine' len_led ?Nzq ?mzq ?ezq ?azq ?bzq ?_; (case Nzq => k_asm); (case mzq => k_mem); (case ezq => assumption); (case azq => assumption); (case bzq => assumption))))) | (have tokzq : PassTok := PassTok.mk; walk1 <;> (try clear tokzq))) | (k_unfold; (try dsimp only)) | (k_end; wrow_close) | walk1 | (dsimp only; walk1) | (leave1; walk_say "STEP leave1"; try dsimp only) | fail "no step")); (all_goals (try (with_reducible refine Halt.mk ?_))))
    exact hret _ _ _ _ (by assumption) (by assumption) ⟨rfl, hG⟩
end Mine
end

section
-- RE
set_option maxRecDepth 100000
set_option maxHeartbeats 400000000
namespace Mine
/-- rows as data -/
def toD (rows : List (List Int)) : List Dat := rows.map fun r => Dat.list (r.map Dat.int)
theorem map_int_inj : ∀ {a b : List Int}, a.map Dat.int = b.map Dat.int → a = b
  | [], [], _ => rfl
  | [], _ :: _, h => by cases h
  | _ :: _, [], h => by cases h
  | x :: a, y :: b, h => by
    simp only [List.map_cons, List.cons.injEq, Dat.int.injEq] at h
    rw [h.1, map_int_inj h.2]
theorem toD_inj : ∀ {a b : List (List Int)}, toD a = toD b → a = b
  | [], [], _ => rfl
  | [], _ :: _, h => by cases h
  | _ :: _, [], h => by cases h
  | x :: a, y :: b, h => by
    simp only [toD, List.map_cons, List.cons.injEq, Dat.list.injEq] at h
    rw [map_int_inj h.1, toD_inj (a := a) (b := b) h.2]
theorem toD_iff {a b : List (List Int)} : toD a = toD b ↔ a = b := ⟨toD_inj, fun h => by rw [h]⟩
theorem toD_ok (rows : List (List Int)) : ∀ d ∈ toD rows, kqdOk 8 d = true := by
  intro d hd
  obtain ⟨r, _, rfl⟩ := List.mem_map.mp hd
  simp [kqdOk]
theorem ints_dat {news : List (Addr × Obj)} {us : List Value} {r : List Int} (h : IntsAre us r) : DatAll news us (r.map Dat.int) := by
  induction h with
  | nil => exact .nil
  | cons n t _ ih => exact .cons (.int n t) ih
theorem rows_dat {news : List (Addr × Obj)} : ∀ {vs : List Value} {rows : List (List Int)}, RowVals news vs rows → DatAll news vs (toD rows)
  | [], [], _ => .nil
  | [], _ :: _, h => by cases h.1
  | _ :: _, [], h => by cases h.1
  | v :: vs, r :: rows, h => by
    obtain ⟨v', hv, b, us, n, rfl, hm, hi⟩ := h.2 0 r rfl
    cases hv
    exact .cons (.list hm (ints_dat hi)) (rows_dat ⟨Nat.succ.inj h.1, fun i r' e => h.2 (i + 1) r' e⟩)
section
variable {prog : Program} {w : World} {A : Around} {E : Value → Shared → Prop} {s : Shared} {h₀ : Heap} {L a b : Addr} {news n1 n2 : List (Addr × Obj)} {r1 r2 : List (List Int)} {Q : Value → Shared → Prop}
theorem rows_eq (N : News h₀ L s.heap news) (h1 : RowsAt n1 a r1) (s1 : ∀ q ∈ n1, q ∈ news) (h2 : RowsAt n2 b r2) (s2 : ∀ q ∈ n2, q ∈ news) (hu : A.units + 64 < cLine) (k : Q (.bool (decide (r1 = r2))) s) : wpAny (model prog w) A (compareOp .Eq (.ref a) (.ref b)) Q E s := by
  obtain ⟨vs, n, hm, hR⟩ := h1
  obtain ⟨ws, m, hm', hR'⟩ := h2
  refine kqd_eq N (s1 _ hm) rfl rfl (rows_dat hR) s1 (s2 _ hm') rfl rfl (rows_dat hR') s2 (toD_ok _) (toD_ok _) hu ?_
  have e : ∀ (d : Decidable (toD r1 = toD r2)), @decide _ d = decide (r1 = r2) := fun d => decide_eq_decide.mpr toD_iff
  rw [e]
  exact k
theorem rows_ne (N : News h₀ L s.heap news) (h1 : RowsAt n1 a r1) (s1 : ∀ q ∈ n1, q ∈ news) (h2 : RowsAt n2 b r2) (s2 : ∀ q ∈ n2, q ∈ news) (hu : A.units + 64 < cLine) (k : Q (.bool (!decide (r1 = r2))) s) : wpAny (model prog w) A (compareOp .NotEq (.ref a) (.ref b)) Q E s := by
  obtain ⟨vs, n, hm, hR⟩ := h1
  obtain ⟨ws, m, hm', hR'⟩ := h2
  refine kqd_ne N (s1 _ hm) rfl rfl (rows_dat hR) s1 (s2 _ hm') rfl rfl (rows_dat hR') s2 (toD_ok _) (toD_ok _) hu ?_
  have e : ∀ (d : Decidable (toD r1 = toD r2)), @decide _ d = decide (r1 = r2) := fun d => decide_eq_decide.mpr toD_iff
  rw [e]
  exact k
/-- two tuples of the same three ints -/
theorem ne_three {x y : Addr} {p q r : Int} {t1 t2 t3 t4 t5 t6 : Tok} {o1 o2 : Obj} (N : News h₀ L s.heap news) (m1 : (x, o1) ∈ news) (m2 : (y, o2) ∈ news)
    (c1 : o1.cls = .type "tuple") (d1 : o1.data = .seq #[.int p t1, .int q t2, .int r t3] 0) (c2 : o2.cls = .type "tuple") (d2 : o2.data = .seq #[.int p t4, .int q t5, .int r t6] 0) (hu : A.units + 64 < cLine)
    (k : Q (.bool false) s) : wpAny (model prog w) A (compareOp .NotEq (.ref x) (.ref y)) Q E s := by
  refine ne_dataH (reads_tuple_at (News.get N m1) c1 d1 (.cons (.int _ _) (.cons (.int _ _) (.cons (.int _ _) .nil)))) (reads_tuple_at (News.get N m2) c2 d2 (.cons (.int _ _) (.cons (.int _ _) (.cons (.int _ _) .nil)))) rfl rfl hu ?_
  show Q (.bool (!((p == p) && ((q == q) && ((r == r) && true))))) s
  have e : (!((p == p) && ((q == q) && ((r == r) && true)))) = false := by simp
  rw [e]
  exact k
end
end Mine
end

section
-- M2
set_option maxRecDepth 100000
set_option maxHeartbeats 400000000
namespace Mine
theorem grid_ext {A B : List (List Int)} {W H : Nat} (la : A.length = H) (lb : B.length = H) (wa : ∀ r ∈ A, r.length = W) (wb : ∀ r ∈ B, r.length = W)
    (h : ∀ i j, i < H → j < W → (A.getD i []).getD j 0 = (B.getD i []).getD j 0) : A = B := by
  refine List.ext_getElem (la.trans lb.symm) fun i h1 h2 => ?_
  have ea : A.getD i [] = A[i] := by rw [List.getD_eq_getElem?_getD, List.getElem?_eq_getElem h1]; rfl
  have eb : B.getD i [] = B[i] := by rw [List.getD_eq_getElem?_getD, List.getElem?_eq_getElem h2]; rfl
  have a1 := wa A[i] (List.getElem_mem _)
  have b1 := wb B[i] (List.getElem_mem _)
  refine List.ext_getElem (a1.trans b1.symm) fun j k1 k2 => ?_
  have q := h i j (by omega) (by omega)
  rw [ea, eb] at q
  rw [List.getD_eq_getElem?_getD, List.getD_eq_getElem?_getD, List.getElem?_eq_getElem k1, List.getElem?_eq_getElem k2] at q
  exact q
theorem smoothRows_len (f : Int → Int → Int) (W H s : Int) : (smoothRows f W H s).length = H.toNat := by simp [smoothRows]
theorem smoothRows_wid (f : Int → Int → Int) (W H s : Int) : ∀ r ∈ smoothRows f W H s, r.length = W.toNat := by
  intro r hr
  obtain ⟨y, hy, rfl⟩ := List.mem_map.mp hr
  simp
theorem smoothRows_id {rows : List (List Int)} {f : Int → Int → Int} {W H s : Int} (hl : rows.length = H.toNat) (wl : ∀ r ∈ rows, r.length = W.toNat) (h : ∀ x y, smooth1 f s x y = at2 rows W H x y) : smoothRows f W H s = rows := by
  refine grid_ext (smoothRows_len f W H s) hl (smoothRows_wid f W H s) wl fun i j hi hj => ?_
  have e := smoothRows_at (f := f) (s := s) hi hj
  have e2 := at2_in (rows := rows) hi hj
  simp only [Int.toNat_natCast] at e e2
  rw [e, e2, h]
theorem smoothRows_zero {rows : List (List Int)} {W H s : Int} (hl : rows.length = H.toNat) (wl : ∀ r ∈ rows, r.length = W.toNat) (hs : s = 0) : smoothRows (at2 rows W H) W H s = rows := by
  subst hs
  exact smoothRows_id hl wl fun x y => smooth1_zero x y
theorem at2_const {rows : List (List Int)} {W H v : Int} (h0 : 0 < H) (w0 : 0 < W) (h : rows = List.replicate H.toNat (List.replicate W.toNat v)) (x y : Int) : at2 rows W H x y = v := by
  have a0 := keptIn_lo (p := y) h0
  have a1 := keptIn_hi (p := y) h0
  have b0 := keptIn_lo (p := x) w0
  have b1 := keptIn_hi (p := x) w0
  unfold at2 cell
  rw [h]
  have e1 : (List.replicate H.toNat (List.replicate W.toNat v)).getD (keptIn y H).toNat [] = List.replicate W.toNat v := by
    rw [List.getD_eq_getElem?_getD, List.getElem?_eq_getElem (by simp; omega)]
    simp
  rw [e1, List.getD_eq_getElem?_getD, List.getElem?_eq_getElem (by simp; omega)]
  simp
theorem smoothRows_const {rows : List (List Int)} {W H v s : Int} (hl : rows.length = H.toNat) (wl : ∀ r ∈ rows, r.length = W.toNat) (h0 : 0 < H) (w0 : 0 < W) (s0 : 0 ≤ s) (s1 : s ≤ 100) (h : rows = List.replicate H.toNat (List.replicate W.toNat v)) : smoothRows (at2 rows W H) W H s = rows :=
  smoothRows_id hl wl fun x y => by rw [smooth1_same s0 s1 (at2_const h0 w0 h), at2_const h0 w0 h]
end Mine
end

section
-- M3
set_option maxRecDepth 100000
set_option maxHeartbeats 400000000
namespace Mine
theorem kept_mirror {p n : Int} (h : 0 < n) : keptIn (n - 1 - p) n = n - 1 - keptIn p n := by
  unfold keptIn
  split <;> split <;> (try split) <;> (try split) <;> omega
theorem cell_transp {W : Int} {rows : List (List Int)} {i j : Nat} (hi : i < W.toNat) (hj : j < rows.length) : ((transp W rows).getD i []).getD j 0 = (rows.getD j []).getD i 0 := by
  unfold transp
  simp [List.getD_eq_getElem?_getD, hi, hj]
theorem cell_mirror {rows : List (List Int)} {W i j : Nat} (wl : ∀ r ∈ rows, r.length = W) (hi : i < rows.length) (hj : j < W) : ((rows.map List.reverse).getD i []).getD j 0 = (rows.getD i []).getD (W - 1 - j) 0 := by
  have e := wl rows[i] (List.getElem_mem _)
  simp only [List.getD_eq_getElem?_getD, List.getElem?_map, List.getElem?_eq_getElem hi, Option.map_some, Option.getD_some]
  rw [List.getElem?_reverse (by omega), e]
theorem cell_flip {rows : List (List Int)} {i j : Nat} (hi : i < rows.length) : ((rows.reverse).getD i []).getD j 0 = (rows.getD (rows.length - 1 - i) []).getD j 0 := by
  simp only [List.getD_eq_getElem?_getD]
  rw [List.getElem?_reverse hi]

theorem tn_lt {k n : Int} (h0 : 0 ≤ k) (h1 : k < n) : k.toNat < n.toNat := by omega
theorem at2_transp {W H : Int} {rows : List (List Int)} (hl : rows.length = H.toNat) (h0 : 0 < H) (w0 : 0 < W) (x y : Int) : at2 (transp W rows) H W x y = at2 rows W H y x := by
  have a0 := keptIn_lo (p := y) w0
  have a1 := keptIn_hi (p := y) w0
  have b0 := keptIn_lo (p := x) h0
  have b1 := keptIn_hi (p := x) h0
  unfold at2 cell
  exact cell_transp (tn_lt a0 a1) (hl ▸ tn_lt b0 b1)
theorem mir_nat {W k : Int} (h0 : 0 ≤ k) (h1 : k < W) : W.toNat - 1 - k.toNat = (W - 1 - k).toNat := by
  obtain ⟨w, rfl⟩ := Int.eq_ofNat_of_zero_le (Int.le_of_lt (Int.lt_of_le_of_lt h0 h1))
  obtain ⟨j, rfl⟩ := Int.eq_ofNat_of_zero_le h0
  rw [Int.toNat_natCast, Int.toNat_natCast, Nat.sub_sub, ← Int.toNat_sub, Int.sub_sub]
  rfl
theorem at2_mirror {W H : Int} {rows : List (List Int)} (hl : rows.length = H.toNat) (wl : ∀ r ∈ rows, r.length = W.toNat) (h0 : 0 < H) (w0 : 0 < W) (x y : Int) : at2 (rows.map List.reverse) W H x y = at2 rows W H (W - 1 - x) y := by
  have a0 := keptIn_lo (p := y) h0
  have a1 := keptIn_hi (p := y) h0
  have b0 := keptIn_lo (p := x) w0
  have b1 := keptIn_hi (p := x) w0
  unfold at2 cell
  rw [kept_mirror w0, cell_mirror wl (hl ▸ tn_lt a0 a1) (tn_lt b0 b1)]
  congr 1
  exact mir_nat b0 b1
theorem at2_flip {W H : Int} {rows : List (List Int)} (hl : rows.length = H.toNat) (h0 : 0 < H) (x y : Int) : at2 rows.reverse W H x y = at2 rows W H x (H - 1 - y) := by
  have a0 := keptIn_lo (p := y) h0
  have a1 := keptIn_hi (p := y) h0
  unfold at2 cell
  rw [kept_mirror h0, cell_flip (hl ▸ tn_lt a0 a1)]
  congr 2
  rw [hl]
  exact mir_nat a0 a1

theorem sumM (a b c d e f g h : Int) : c + b + a + e + d + h + g + f = a + b + c + d + e + f + g + h := by ac_rfl
theorem sumF (a b c d e f g h : Int) : f + g + h + d + e + a + b + c = a + b + c + d + e + f + g + h := by ac_rfl
theorem sumT (a b c d e f g h : Int) : a + d + f + b + g + c + e + h = a + b + c + d + e + f + g + h := by ac_rfl
theorem smooth1_transp (f : Int → Int → Int) (s x y : Int) : smooth1 (fun a b => f b a) s x y = smooth1 f s y x := by
  unfold smooth1 around
  have e : f (y - 1) (x - 1) + f (y - 1) x + f (y - 1) (x + 1) + f y (x - 1) + f y (x + 1) + f (y + 1) (x - 1) + f (y + 1) x + f (y + 1) (x + 1) = f (y - 1) (x - 1) + f y (x - 1) + f (y + 1) (x - 1) + f (y - 1) x + f (y + 1) x + f (y - 1) (x + 1) + f y (x + 1) + f (y + 1) (x + 1) := sumT _ _ _ _ _ _ _ _
  show (f y x * (1024 - 8 * s) + (f (y - 1) (x - 1) + f (y - 1) x + f (y - 1) (x + 1) + f y (x - 1) + f y (x + 1) + f (y + 1) (x - 1) + f (y + 1) x + f (y + 1) (x + 1)) * s + 512) / 1024 = _
  rw [e]
theorem smooth1_mirror (f : Int → Int → Int) (W s x y : Int) : smooth1 (fun a b => f (W - 1 - a) b) s x y = smooth1 f s (W - 1 - x) y := by
  unfold smooth1 around
  have e1 : W - 1 - (x - 1) = W - 1 - x + 1 := by omega
  have e2 : W - 1 - (x + 1) = W - 1 - x - 1 := by omega
  simp only [e1, e2]
  generalize W - 1 - x = z
  have e : f (z + 1) (y - 1) + f z (y - 1) + f (z - 1) (y - 1) + f (z + 1) y + f (z - 1) y + f (z + 1) (y + 1) + f z (y + 1) + f (z - 1) (y + 1) = f (z - 1) (y - 1) + f z (y - 1) + f (z + 1) (y - 1) + f (z - 1) y + f (z + 1) y + f (z - 1) (y + 1) + f z (y + 1) + f (z + 1) (y + 1) := sumM _ _ _ _ _ _ _ _
  rw [e]
theorem smooth1_flip (f : Int → Int → Int) (H s x y : Int) : smooth1 (fun a b => f a (H - 1 - b)) s x y = smooth1 f s x (H - 1 - y) := by
  unfold smooth1 around
  have e1 : H - 1 - (y - 1) = H - 1 - y + 1 := by omega
  have e2 : H - 1 - (y + 1) = H - 1 - y - 1 := by omega
  simp only [e1, e2]
  generalize H - 1 - y = z
  have e : f (x - 1) (z + 1) + f x (z + 1) + f (x + 1) (z + 1) + f (x - 1) z + f (x + 1) z + f (x - 1) (z - 1) + f x (z - 1) + f (x + 1) (z - 1) = f (x - 1) (z - 1) + f x (z - 1) + f (x + 1) (z - 1) + f (x - 1) z + f (x + 1) z + f (x - 1) (z + 1) + f x (z + 1) + f (x + 1) (z + 1) := sumF _ _ _ _ _ _ _ _
  rw [e]
theorem transp_len (W : Int) (rows : List (List Int)) : (transp W rows).length = W.toNat := by simp [transp]
theorem transp_wid (W : Int) (rows : List (List Int)) : ∀ r ∈ transp W rows, r.length = rows.length := by
  intro r hr
  obtain ⟨x, _, rfl⟩ := List.mem_map.mp hr
  simp
theorem mirror_wid {rows : List (List Int)} {W : Nat} (wl : ∀ r ∈ rows, r.length = W) : ∀ r ∈ rows.map List.reverse, r.length = W := by
  intro r hr
  obtain ⟨x, hx, rfl⟩ := List.mem_map.mp hr
  rw [List.length_reverse]
  exact wl x hx
theorem flip_wid {rows : List (List Int)} {W : Nat} (wl : ∀ r ∈ rows, r.length = W) : ∀ r ∈ rows.reverse, r.length = W := fun r hr => wl r (List.mem_reverse.mp hr)
theorem rev_lt {j n : Nat} (h : j < n) : n - 1 - j < n := by omega
theorem rev_cast {W : Int} {j : Nat} (h : j < W.toNat) : ((W.toNat - 1 - j : Nat) : Int) = W - 1 - (j : Int) := by
  have e : W = (W.toNat : Int) := by omega
  generalize W.toNat = w at h e ⊢
  subst e
  rw [Nat.sub_sub, Int.ofNat_sub (by omega), Int.sub_sub]
  rfl
theorem smoothRows_at' {f : Int → Int → Int} {W H s : Int} {i j : Nat} (hi : i < H.toNat) (hj : j < W.toNat) : ((smoothRows f W H s).getD i []).getD j 0 = smooth1 f s (j : Int) (i : Int) := by
  have e := smoothRows_at (f := f) (s := s) hi hj
  simpa only [Int.toNat_natCast] using e

theorem smoothRows_transp {rows : List (List Int)} {W H s : Int} (hl : rows.length = H.toNat) (h0 : 0 < H) (w0 : 0 < W) :
    smoothRows (at2 (transp W rows) H W) H W s = transp W (smoothRows (at2 rows W H) W H s) := by
  have e : at2 (transp W rows) H W = fun a b => at2 rows W H b a := funext fun x => funext fun y => at2_transp hl h0 w0 x y
  rw [e]
  refine grid_ext (smoothRows_len _ _ _ _) (transp_len _ _) (smoothRows_wid _ _ _ _) (fun r hr => (transp_wid _ _ r hr).trans (smoothRows_len _ _ _ _)) fun i j hi hj => ?_
  rw [smoothRows_at' hi hj, cell_transp hi (by rw [smoothRows_len]; exact hj), smoothRows_at' hj hi, smooth1_transp]
theorem smoothRows_mirror {rows : List (List Int)} {W H s : Int} (hl : rows.length = H.toNat) (wl : ∀ r ∈ rows, r.length = W.toNat) (h0 : 0 < H) (w0 : 0 < W) :
    smoothRows (at2 (rows.map List.reverse) W H) W H s = (smoothRows (at2 rows W H) W H s).map List.reverse := by
  have e : at2 (rows.map List.reverse) W H = fun a b => at2 rows W H (W - 1 - a) b := funext fun x => funext fun y => at2_mirror hl wl h0 w0 x y
  rw [e]
  refine grid_ext (smoothRows_len _ _ _ _) (by rw [List.length_map, smoothRows_len]) (smoothRows_wid _ _ _ _) (mirror_wid (smoothRows_wid _ _ _ _)) fun i j hi hj => ?_
  rw [smoothRows_at' hi hj, cell_mirror (smoothRows_wid _ _ _ _) (by rw [smoothRows_len]; exact hi) hj, smoothRows_at' hi (rev_lt hj), smooth1_mirror, rev_cast hj]
theorem smoothRows_flip {rows : List (List Int)} {W H s : Int} (hl : rows.length = H.toNat) (h0 : 0 < H) :
    smoothRows (at2 rows.reverse W H) W H s = (smoothRows (at2 rows W H) W H s).reverse := by
  have e : at2 rows.reverse W H = fun a b => at2 rows W H a (H - 1 - b) := funext fun x => funext fun y => at2_flip hl h0 x y
  rw [e]
  refine grid_ext (smoothRows_len _ _ _ _) (by rw [List.length_reverse, smoothRows_len]) (smoothRows_wid _ _ _ _) (flip_wid (smoothRows_wid _ _ _ _)) fun i j hi hj => ?_
  rw [smoothRows_at' hi hj, cell_flip (by rw [smoothRows_len]; exact hi), smoothRows_len, smoothRows_at' (rev_lt hi) hj, smooth1_flip, rev_cast hi]

theorem smooth_turn1 {rows : List (List Int)} {W H s : Int} (word : Str) (hl : rows.length = H.toNat) (h0 : 0 < H) (w0 : 0 < W) :
    smoothRows (at2 (turn1 W word rows) (tW word W H) (tH word W H)) (tW word W H) (tH word W H) s = turn1 W word (smoothRows (at2 rows W H) W H s) := by
  unfold turn1 tW tH
  split
  · exact smoothRows_transp hl h0 w0
  · rfl
theorem smooth_turn2 {rows : List (List Int)} {W H s : Int} (word : Str) (hl : rows.length = H.toNat) (wl : ∀ r ∈ rows, r.length = W.toNat) (h0 : 0 < H) (w0 : 0 < W) :
    smoothRows (at2 (turn2 word rows) W H) W H s = turn2 word (smoothRows (at2 rows W H) W H s) := by
  unfold turn2
  split
  · exact smoothRows_mirror hl wl h0 w0
  · rfl
theorem smooth_turn3 {rows : List (List Int)} {W H s : Int} (word : Str) (hl : rows.length = H.toNat) (h0 : 0 < H) :
    smoothRows (at2 (turn3 word rows) W H) W H s = turn3 word (smoothRows (at2 rows W H) W H s) := by
  unfold turn3
  split
  · exact smoothRows_flip hl h0
  · rfl
/-- the smoothed turned rows are the turned smoothed rows -/
theorem smooth_turned {rows : List (List Int)} {W H s : Int} (word : Str) (hl : rows.length = H.toNat) (wl : ∀ r ∈ rows, r.length = W.toNat) (h0 : 0 < H) (w0 : 0 < W) :
    smoothRows (at2 (turned W word rows) (tW word W H) (tH word W H)) (tW word W H) (tH word W H) s = turned W word (smoothRows (at2 rows W H) W H s) := by
  have l1 : (turn1 W word rows).length = (tH word W H).toNat := by
    unfold turn1 tH
    split
    · exact transp_len _ _
    · exact hl
  have w1 : ∀ r ∈ turn1 W word rows, r.length = (tW word W H).toNat := by
    unfold turn1 tW
    split
    · exact fun r hr => (transp_wid _ _ r hr).trans hl
    · exact wl
  have h0' : 0 < tH word W H := by unfold tH; split <;> assumption
  have w0' : 0 < tW word W H := by unfold tW; split <;> assumption
  have l2 : (turn2 word (turn1 W word rows)).length = (tH word W H).toNat := by
    unfold turn2
    split
    · rw [List.length_map]; exact l1
    · exact l1
  unfold turned
  rw [smooth_turn3 word l2 h0', smooth_turn2 word l1 w1 h0' w0', smooth_turn1 word hl h0 w0]
end Mine
end

section
-- XA
set_option maxRecDepth 100000
namespace Mine
open Sem (wp)
section
variable {prog : Program} {w : World} {A : Around} {h : Heap} {g : Array GenState} {d : Drawn} {t : Nat} {os : OsState}
variable {nm q : Str} {C N : Addr} {bs bm bmB : List Value} {hdct : Bool} {sn : List Str} {sub : List Value} {ab : Bool} {col : Option Bool} {dd : Option Addr} {k0 k1 k2 k3 k5 : Option Value} {B newId initId : String}

/-- an exception object as its class makes it -/
abbrev excAt (C : Addr) (t : Addr) : Obj := { cls := .ref C, data := .fields #[.ref t, .none, .none, .none, .bool false, .none] }
abbrev tupOf (rest : List Value) : Obj := { cls := .type "tuple", data := .seq rest.toArray }

theorem exc_check_new {M : Model} {E : Value → Shared → Prop} (F : ExcBaseFacts B newId initId bmB) (hB : (Value.ref C :: bm).contains (.type B) = true) {rest : List Value} {Q : Unit → Shared → Prop}
    (hC : h.get? C = some (excClassObj nm q C N bs bm hdct sn sub ab col dd k0 k1 k2 k3 k5 newId)) (hq : Q () ⟨h, g, d, t, os⟩) : wpAny M A (checkBuiltinCall newId ⟨.ref C :: rest, []⟩) Q E ⟨h, g, d, t, os⟩ := by
  have hs := F.noStar
  simp only [checkBuiltinCall, F.newKind, F.newSplit, F.newRow]
  repeat (first | refine wpAny_loadPart_at hC ?_ | (refine wpAny_isSubtype_exc hC ?_; rw [hB]) | refine wpAny_staticBase_exc hC ?_ | refine wpAny_madeBy_exc hC ?_ | simp only [bne_self_eq_false, Bool.false_eq_true, if_false] | wp_step)
  exact hq

theorem exc_new {R : Result → Shared → Prop} (F : ExcBaseFacts B newId initId bmB) (hB : (Value.ref C :: bm).contains (.type B) = true) (hA : (Value.ref C :: bm).contains (.type "AttributeError") = false) (hN : (Value.ref C :: bm).contains (.type "NameError") = false)
    {rest : List Value} (hC : h.get? C = some (excClassObj nm q C N bs bm hdct sn sub ab col dd k0 k1 k2 k3 k5 newId))
    (hq : R (.ok (.ret (.ref (h.objs.size + 1)))) ⟨(h.push (tupOf rest)).push (excAt C h.objs.size), g, d, t, os⟩) (hrest : rest.length ≤ sizeLine) :
    codeAny (model prog w) A (.builtin newId ⟨.ref C :: rest, []⟩) R ⟨h, g, d, t, os⟩ := by
  have he := F.ends
  refine codeAny_builtinAt F.entry ?_
  unfold Builtin.«BaseException.__new__»
  refine PySem.wpAt_bind ?_
  show PySem.wpAt _ _ _ (stack >>= _) _ _ _
  refine PySem.wpAt_bind (PySem.wpAt_stack fun p below => PySem.wpAt_of_wpAny ?_)
  wp_walk
  refine PySem.wpAt_of_wpAny ?_
  rw [F.owner]
  repeat (first | with_reducible refine wpAny_madeHere_exc F.canon hC ?_ | with_reducible refine wpAny_loadPart_at hC ?_ | (with_reducible refine wpAny_isSubtype_exc hC ?_; first | rw [hB] | rw [hA] | rw [hN]) | wp_step)
  show R _ _
  rw [Heap.size_push]
  exact hq

variable {E : Value → Shared → Prop}

/-- the class C inherits its `__init__`, a def of the text -/
theorem exc_type_call (F : ExcBaseFacts B newId initId bmB) (hB : (Value.ref C :: bm).contains (.type B) = true) (hA : (Value.ref C :: bm).contains (.type "AttributeError") = false) (hN : (Value.ref C :: bm).contains (.type "NameError") = false)
    {rest : List Value} {fI : Addr} {oI : Obj} {Q : Fin → Shared → Prop}
    (hC : h.get? C = some (excClassObj nm q C N bs bm hdct sn sub ab col dd k0 k1 k2 k3 k5 newId)) (hlk : Looks (model prog w) h (typeLookup (.ref C) "__init__") (some (.ref fI))) (hfI : h.get? fI = some oI) (hfc : oI.cls = .type "function")
    (hq : wpAny (model prog w) A (call (.ref fI) (.ref (h.objs.size + 1) :: rest)) (fun r s' => r = .none ∧ Q (.done (.ret (.ref (h.objs.size + 1)))) s') E ⟨(h.push (tupOf rest)).push (excAt C h.objs.size), g, d, t, os⟩)
    (hrest : rest.length ≤ sizeLine) :
    wpAny (model prog w) A (Builtin.«type.__call__» ⟨.ref C :: rest, []⟩) Q E ⟨h, g, d, t, os⟩ := by
  repeat (first | with_reducible refine wpAny_loadPart_at hC ?_ | with_reducible refine wpAny_madeBy_exc hC ?_ | wp_step)
  refine codeAny_call_builtin_code (Code.quiet_builtin _ F.quiet) (exc_check_new F hB hC ?_)
  refine exc_new F hB hA hN hC ?_ hrest
  show wpAny _ _ _ _ _ _
  have up : ∀ {b : Addr} {o : Obj}, h.get? b = some o → ((h.push (tupOf rest)).push (excAt C h.objs.size)).get? b = some o := fun e => Heap.get?_push_of_some _ (Heap.get?_push_of_some _ e)
  have hget : ((h.push (tupOf rest)).push (excAt C h.objs.size)).get? (h.objs.size + 1) = some (excAt C h.objs.size) := by heap_get
  have hcC : (Value.ref C :: bm).contains (.ref C) = true := by simp
  unfold isInstance
  repeat (first | with_reducible refine wpAny_loadPart_at hget ?_ | (with_reducible refine wpAny_isSubtype_exc (up hC) ?_; rw [hcC]) | wp_step)
  show wpAny _ _ (typeLookup (.ref C) _) _ _ _
  refine (hlk.keeps fun _ _ e => up e).here ?_
  dsimp only
  refine wpAny_holding (wpAny_bind ?_)
  unfold bindSpecial
  refine wpAny_bind (wpAny_typeOf (T := "function") ⟨_, up hfI, hfc⟩ ?_)
  rw [if_pos (by decide)]
  refine wpAny_pure (wpAny_bind (wpAny_mono hq (fun r s' hr => ?_) fun _ _ x => x))
  obtain ⟨rfl, hQ⟩ := hr
  wp_walk
  exact hQ

theorem exc_call (F : ExcBaseFacts B newId initId bmB) (hB : (Value.ref C :: bm).contains (.type B) = true) (hA : (Value.ref C :: bm).contains (.type "AttributeError") = false) (hN : (Value.ref C :: bm).contains (.type "NameError") = false)
    {rest : List Value} {fI : Addr} {oI : Obj} {Q : Value → Shared → Prop}
    (hC : h.get? C = some (excClassObj nm q C N bs bm hdct sn sub ab col dd k0 k1 k2 k3 k5 newId)) (hlk : Looks (model prog w) h (typeLookup (.ref C) "__init__") (some (.ref fI))) (hfI : h.get? fI = some oI) (hfc : oI.cls = .type "function")
    (hq : wpAny (model prog w) (A.under (.builtin "type.__call__" ⟨.ref C :: rest, []⟩)) (call (.ref fI) (.ref (h.objs.size + 1) :: rest)) (fun r s' => r = .none ∧ Q (.ref (h.objs.size + 1)) s') E ⟨(h.push (tupOf rest)).push (excAt C h.objs.size), g, d, t, os⟩)
    (hrest : rest.length ≤ sizeLine) :
    wpAny (model prog w) A (call (.ref C) rest) Q E ⟨h, g, d, t, os⟩ := by
  have f1 := tc_lookup
  have f2 := tc_bind (.ref C)
  have hT : (⟨h, g, d, t, os⟩ : Shared).TypeIs (.ref C) "type" := ⟨_, hC, rfl⟩
  refine wpAny_call (codeAny_of_tree ?_)
  show wpAny _ _ (callAny (.ref C) _) _ _ _
  repeat (any_goals (first | assumption | with_reducible refine wpAny_loadPart_at hC ?_ | wp_step))
  refine ⟨rfl, ?_⟩
  exact codeAny_call_builtin_at (Code.quiet_builtin _ (by decide +kernel)) entry_typeCall (wpAny_check_type_call_sub hC (exc_type_call (hrest := hrest) F hB hA hN hC hlk hfI hfc hq))
end
section
variable {prog : Program} {w : World} {A : Around} {E : Value → Shared → Prop} {h : Heap} {g : Array GenState} {d : Drawn} {t : Nat} {os : OsState}
variable {nm q : Str} {C N : Addr} {bs bm bmB : List Value} {hdct : Bool} {sn : List Str} {sub : List Value} {ab : Bool} {col : Option Bool} {dd : Option Addr} {k0 k1 k2 k3 k5 : Option Value} {B newId initId : String}

theorem exc_check_init {M : Model} (F : ExcBaseFacts B newId initId bmB) (hB : (Value.ref C :: bm).contains (.type B) = true) {e : Addr} {oe : Obj} {rest : List Value} {Q : Unit → Shared → Prop}
    (hC : h.get? C = some (excClassObj nm q C N bs bm hdct sn sub ab col dd k0 k1 k2 k3 k5 newId)) (he : h.get? e = some oe) (hcls : oe.cls = .ref C) (hq : Q () ⟨h, g, d, t, os⟩) :
    wpAny M A (checkBuiltinCall initId ⟨.ref e :: rest, []⟩) Q E ⟨h, g, d, t, os⟩ := by
  have hs := F.noStar
  simp only [checkBuiltinCall, F.initKind, F.initSplit, F.initRow]
  repeat (first | (with_reducible refine wpAny_loadPart_at he ?_; rw [hcls]) | with_reducible refine wpAny_loadPart_at hC ?_ | (with_reducible refine wpAny_isSubtype_exc hC ?_; rw [hB]) | wp_step)
  refine wpAny_onRaise ?_
  rw [show ∀ (a b : String) (n : Nat), Bind.check ⟨.positional, "*", B, .self, [⟨"args", .varPos, false⟩]⟩ a b n (List.map (fun x => x.fst) ({ pos := Value.ref e :: rest } : Args).kw) = pure () from
    fun a b n => check_star_args _ _ _ _ _ _]
  exact wpAny_pure hq

theorem exc_init {s : Shared} (F : ExcBaseFacts B newId initId bmB) (hB : (Value.ref C :: bm).contains (.type B) = true) {h₀ : Heap} {L e t0 : Addr} {m : Str → Option Value} {news : List (Addr × Obj)} {rest : List Value} {Q : Value → Shared → Prop}
    (hC : s.heap.get? C = some (excClassObj nm q C N bs bm hdct sn sub ab col dd k0 k1 k2 k3 k5 newId))
    (Fe : Fr h₀ L s.heap m) (Ne : News h₀ L s.heap ((e, excAt C t0) :: news)) (he : ∀ q ∈ news, q.1 ≠ e) (hrest : rest.length ≤ sizeLine)
    (hq : ∀ D h', Fr h₀ L h' m → News h₀ L h' ((D, tupOf rest) :: (e, excAt C D) :: news) → (∀ q ∈ (e, excAt C t0) :: news, q.1 < D) → Q .none { s with heap := h' }) :
    wpAny (model prog w) A (call (.builtin initId) (.ref e :: rest)) Q E s := by
  have hget := (Ne _ List.mem_cons_self).1
  have hlt : ∀ q ∈ (e, excAt C t0) :: news, q.1 < s.heap.objs.size := fun q hq => Heap.lt_size (Ne q hq).1
  obtain ⟨hF, hN⟩ := news_upd (pre := [(s.heap.objs.size, tupOf rest)]) (d := e) (o := excAt C t0) (o' := excAt C s.heap.objs.size) (post := news) (f := Obj.mapFields (·.setIfInBounds 0 (Value.ref s.heap.objs.size)))
    (Fe.push (tupOf rest)) (News.push Fe Ne (tupOf rest)) (fun q hq => by rw [List.mem_singleton.mp hq]; exact Nat.ne_of_gt (hlt _ List.mem_cons_self)) he rfl rfl
  have hfin := hq _ _ hF hN hlt
  obtain ⟨h, g, d, t, os⟩ := s
  refine wpAny_call (codeAny_call_builtin F.init.plain F.initEntry (exc_check_init F hB hC hget rfl ?_))
  wp_walk
  exact hfin
end
section
variable {prog : Program} {w : World} {A : Around} {E : Value → Shared → Prop} {s : Shared} {K : Frag}
open Builtin Builtin.ObjectAttr
/-- the dict that a first store of a field makes -/
abbrev fieldDict (w : World) (name : Str) (tk : Tok) (v : Value) : Obj := dictOf [⟨PyData.keyHash w.params name, .str name tk, v⟩] 1

/-- the same, by the built-in -/
theorem exc_osa {R : Result → Shared → Prop} {tk₀ : Tok} {C x : Addr} {vs : Array Value} {cd : ClassData} {name : Str} {v : Value} {h₀ : Heap} {L : Addr} {m : Str → Option Value} {news : List (Addr × Obj)} 
    (F : Fr h₀ L s.heap m) (X₀ : K.In h₀) (N : News h₀ L s.heap ((x, (⟨.ref C, none, .fields vs, #[]⟩ : Obj)) :: news)) (hx : ∀ q ∈ news, q.1 ≠ x)
    (hc : clsIn K C = some cd) (hne : cd.mro.isEmpty = false) (hob : cd.mro.contains (.type "object") = true) (hdc : cd.hasDict = true)
    (hpass : ∀ self, refuseLoop self "__setattr__" cd.mro = pure ()) (ht : takerIn K C name = some none)
    (h : ∀ dx tk tk' h', Fr h₀ L h' m → News h₀ L h' ((dx, fieldDict w name tk v) :: (x, (⟨.ref C, some dx, .fields vs, #[]⟩ : Obj)) :: news) → (∀ q ∈ news, q.1 < dx) → x < dx → R (.ok (.ret .none)) { s with heap := h', toks := tk' }) :
    codeAny (model prog w) A (.call (.builtin "object.__setattr__") ⟨[.ref x, .str name tk₀, v], []⟩) R s := by
  have X := X₀.keeps F.keep
  have hget := (N _ List.mem_cons_self).1
  have hlt : ∀ q ∈ (x, (⟨.ref C, none, .fields vs, #[]⟩ : Obj)) :: news, q.1 < s.heap.objs.size := fun q hq => Heap.lt_size (N q hq).1
  have hxs : @LT.lt Nat _ x s.heap.objs.size := hlt _ List.mem_cons_self
  have I : InstAt s.heap x ⟨.ref C, none, .fields vs, #[]⟩ C none := ⟨hget, rfl, rfl, trivial⟩
  have SF := PySem.F.store_object
  have sub : Looks (model prog w) s.heap (isInstance (.ref x) (.type "object")) true := I.type.andThen (looks_mroIn X (by unfold mroIn; rw [hc, Option.bind_some, if_neg (by rw [hne]; decide), hob]))
  refine codeAny_call_builtin SF.slot.plain SF.entry (@check_slot (model prog w) _ _ _ "object.__setattr__" "object" "__setattr__" (.ref x) [.str name tk₀, v] [] _ SF.kind SF.split sub (SF.args (.ref x) (.str name tk₀) v) ?_)
  obtain ⟨attr, ha, hr⟩ := Option.bind_eq_some_iff.mp ht
  have hm : Looks (model prog w) s.heap (mroOf (.ref C)) cd.mro := (looks_clsIn X hc).andThen .now
  have L3 : Looks (model prog w) s.heap (storeTaker? attr) none := by
    cases attr with
    | none => exact .now
    | some a =>
      obtain ⟨b, hb, hbn⟩ := Option.map_eq_some_iff.mp hr
      refine (looks_takesIn X hb).andThen ?_
      cases b
      · exact .now
      · cases hbn
  rw [osa_eq, refuse_eq]
  refine wpAny_bind (wpAny_bind (I.type.here (wpAny_bind (hm.here ?_))))
  rw [hpass]
  refine wpAny_pure (wpAny_bind (I.type.here (wpAny_bind ((looks_findIn X ha).here (wpAny_bind (L3.here ?_))))))
  dsimp only
  obtain ⟨F2, N2⟩ := news_upd (pre := [(s.heap.objs.size, emptyDict)]) (d := x) (o := (⟨.ref C, none, .fields vs, #[]⟩ : Obj)) (o' := (⟨.ref C, some s.heap.objs.size, .fields vs, #[]⟩ : Obj)) (post := news) (f := fun o => { o with dict := some s.heap.objs.size })
    (F.push emptyDict) (News.push F N emptyDict) (fun q hq => by rw [List.mem_singleton.mp hq]; exact Nat.ne_of_gt hxs) hx rfl rfl
  obtain ⟨F3, N3⟩ := news_upd (pre := []) (d := s.heap.objs.size) (o := emptyDict) (o' := fieldDict w name s.toks v) (post := (x, (⟨.ref C, some s.heap.objs.size, .fields vs, #[]⟩ : Obj)) :: news) (f := Obj.putName name (PyData.keyHash w.params name) (.str name s.toks) v)
    F2 N2 (fun q hq => nomatch hq) (fun q hq => by
      rcases List.mem_cons.mp hq with rfl | hq
      · exact Nat.ne_of_lt hxs
      · exact Nat.ne_of_lt (hlt q (List.mem_cons_of_mem _ hq))) (putName_dict name _ _ v [] 0) rfl
  have fin := h s.heap.objs.size s.toks (s.toks + 1) _ F3 N3 (fun q hq => hlt q (List.mem_cons_of_mem _ hq)) hxs
  have D2 := (N2 (s.heap.objs.size, emptyDict) List.mem_cons_self).1
  have D3 := (N3 (s.heap.objs.size, fieldDict w name s.toks v) List.mem_cons_self).1
  have NP := News.push F N emptyDict
  have hget1 := (NP (x, (⟨.ref C, none, .fields vs, #[]⟩ : Obj)) (List.mem_cons_of_mem _ List.mem_cons_self)).1
  unfold storeInOwnDict
  refine wpAny_bind (wpAny_pure (wpAny_bind (wpAny_bind (wpAny_loadPart hget (wpAny_bind ((looks_clsIn X hc).here ?_))))))
  rw [hdc]
  refine wpAny_bind (wpAny_alloc (wpAny_bind (wpAny_update hget1 (wpAny_pure ?_))))
  dsimp only
  refine wpAny_bind (wpAny_pure (wpAny_bind ?_))
  unfold nsSet
  refine wpAny_bind (wpAny_bind (wpAny_askSetting (wpAny_pure (wpAny_bind (wpAny_mkText (wpAny_bind (wpAny_loadPart D2 ?_)))))))
  dsimp only
  have c : aRefKeyMayBeTheName name #[] = false := by rw [aRefKeyMayBeTheName_at]; simp
  rw [c]
  refine wpAny_updatePart D2 ?_
  refine wpAny_bind (wpAny_lookBehind D3 (pastItsLine_dict (by rw [List.size_toArray, sizeLine_eq, List.length_singleton]; omega)) ?_)
  exact wpAny_pure fin

/-- a field stored on an exception that has no dict yet -/
theorem exc_set {C x : Addr} {vs : Array Value} {cd : ClassData} {name : Str} {v : Value} {h₀ : Heap} {L : Addr} {m : Str → Option Value} {news : List (Addr × Obj)} {Q : Unit → Shared → Prop}
    (F : Fr h₀ L s.heap m) (X₀ : K.In h₀) (N : News h₀ L s.heap ((x, (⟨.ref C, none, .fields vs, #[]⟩ : Obj)) :: news)) (hx : ∀ q ∈ news, q.1 ≠ x)
    (hs : findIn K (.ref C) "__setattr__" = some (some (.builtin "object.__setattr__"))) (hc : clsIn K C = some cd) (hne : cd.mro.isEmpty = false) (hob : cd.mro.contains (.type "object") = true) (hdc : cd.hasDict = true)
    (hpass : ∀ self, refuseLoop self "__setattr__" cd.mro = pure ()) (ht : takerIn K C name = some none)
    (h : ∀ dx tk tk' h', Fr h₀ L h' m → News h₀ L h' ((dx, fieldDict w name tk v) :: (x, (⟨.ref C, some dx, .fields vs, #[]⟩ : Obj)) :: news) → (∀ q ∈ news, q.1 < dx) → x < dx → Q () { s with heap := h', toks := tk' }) :
    wpAny (model prog w) A (setAttr (.ref x) name v) Q E s :=
  set_plain (od := none) (X₀.keeps F.keep) ⟨(N _ List.mem_cons_self).1, rfl, rfl, trivial⟩ hs (exc_osa (s := { s with toks := s.toks + 1 }) F X₀ N hx hc hne hob hdc hpass ht fun dx tk tk' h' F' N' l1 l2 => h dx tk tk' h' F' N' l1 l2)
end
end Mine
end

section
-- XB
set_option maxRecDepth 100000
set_option maxHeartbeats 400000000
namespace Mine

theorem typeOf_Exception : typeOf (.type "Exception") = pure (.type "type") := by first | rfl | kernel_rfl
theorem notStub_Exception : Manifest.isStub "Exception" = false := by decide +kernel
theorem find_ExcInit (K : Frag) : findCls K (.type "Exception") (.type "type") (Str.ofString "__init__") = some (.val (.builtin "Exception.__init__")) := by kernel_rfl
theorem handed_ExcInit : handedIn (.builtin "Exception.__init__") = true := by decide +kernel

/-- RangeError, as the written heap holds it -/
theorem range51 (pr : Params) : (hd.heap_39 pr).lookup 51 = some (excClassObj (Str.ofString "RangeError") (Str.ofString "RangeError") 51 50 [.ref 38] [.ref 38, .type "Exception", .type "BaseException", .type "object"] true [] [] false none none (some (.ref 42)) none (some (.str (Str.ofString "RangeError") 225)) (some (.str (Str.ofString "RangeError") 233)) (some (.bool true)) "Exception.__new__") := by kernel_rfl
theorem has51 (x : Value) (b : Bool) (h : [Value.ref 51, .ref 38, .type "Exception", .type "BaseException", .type "object"].contains x = b) : (Value.ref 51 :: [Value.ref 38, .type "Exception", .type "BaseException", .type "object"]).contains x = b := h
theorem set51 (pr : Params) : findIn (hd.heap_39 pr) (.ref 51) "__setattr__" = some (some (.builtin "object.__setattr__")) := by kernel_rfl
theorem take51 (pr : Params) : takerIn (hd.heap_39 pr) 51 (Str.ofString "message") = some none := by kernel_rfl
theorem init51 (pr : Params) : findIn (hd.heap_39 pr) (.ref 51) "__init__" = some (some (.ref 35)) := by kernel_rfl
theorem fn35 (pr : Params) : ((hd.heap_39 pr).lookup 35).map (·.cls) = some (.type "function") := by kernel_rfl
abbrev cd51 : ClassData := { name := Str.ofString "RangeError", bases := [.ref 38], mro := [.ref 51, .ref 38, .type "Exception", .type "BaseException", .type "object"], ns := 50, qualname := Str.ofString "RangeError" }
theorem cls51 (pr : Params) : clsIn (hd.heap_39 pr) 51 = some cd51 := by kernel_rfl
theorem pass51 (self : Value) : refuseLoop self "__setattr__" cd51.mro = pure () := by
  show refuseLoop self "__setattr__" [.ref 51, .ref 38, .type "Exception", .type "BaseException", .type "object"] = pure ()
  rw [refuseLoop_ref, refuseLoop_ref]
  exact PySem.F.store_Exception.passes self

local macro_rules | `(tactic| walk_at "getMethod") => `(tactic| ((fail_if_success (have := ‹PassTok›)); refine Halt.out ?_))

theorem init_con {w : World} {mean : ExcName → Option Value} {mg mb : Str → Option Value} (news : List (Addr × Obj)) (e t0 : Addr) (x : Str) (t : Tok) (he : ∀ q ∈ news, q.1 ≠ e) :
    Con w mean mg mb 3 35 [.ref e, .str x t] ((e, excAt 51 t0) :: news) (fun r news' => r = .none ∧ ∃ (t1 dx : Addr) (tk : Tok), (∀ q ∈ news, q.1 < dx) ∧ @LT.lt Nat _ e dx ∧
      news' = (dx, fieldDict w (Str.ofString "message") tk (.str x t)) :: (e, (⟨.ref 51, some dx, .fields #[.ref t1, .none, .none, .none, .bool false, .none], #[]⟩ : Obj)) :: (t1, tupOf [.str x t]) :: news) := by
  w_on
  unfold Con
  k_fill
  intro dp un gd cn cs a ccd cl outer A₀ base h₀ L m s Q E B F X N T hk hd hu hret
  refine wpAny_call ?_
  k_dflt cell_enter
  ((repeat' (first | ((with_reducible refine Halt.mk ?_); first | (safely (with_reducible (k_here; (with_reducible show wpAny _ _ (getMethod (Value.type "Exception") _ _) _ _ _); k_dflt (refine' method_type ?Fzq ?Xzq typeOf_Exception notStub_Exception (find_ExcInit _) handed_ExcInit ?_; (case Fzq => assumption); (case Xzq => k_asm); k_whole)))) | (have tokzq : PassTok := PassTok.mk; walk1 <;> (try clear tokzq))) | (k_unfold; (try dsimp only)) | (k_end; wrow_close) | walk1 | (dsimp only; walk1) | (leave1; walk_say "STEP leave1"; try dsimp only) | fail "no step")); (all_goals (try (with_reducible refine Halt.mk ?_))))
  rename Fr _ _ _ _ => lF
  rename News _ _ _ _ => lN
  rename (Frag.In _ _) => lX
  refine exc_init (s := { s with heap := _, toks := _ }) PySem.F.excBase_Exception (B := "Exception") (by decide) ((lX.keeps lF.keep) _ _ (range51 _)) lF lN he (show 1 ≤ sizeLine by decide) ?_
  intro D h2 F2 N2 l2
  have le : @LT.lt Nat _ e D := l2 _ List.mem_cons_self
  have N3 : News _ _ h2 ((e, excAt 51 D) :: (D, tupOf [.str x t]) :: news) := fun q hq => N2 q (by
    simp only [List.mem_cons] at hq ⊢
    rcases hq with h | h | h <;> simp [h])
  ((repeat' (first | ((with_reducible refine Halt.mk ?_); first | (safely (with_reducible (k_here; (with_reducible show wpAny _ _ (getMethod (Value.type "Exception") _ _) _ _ _); k_dflt (refine' method_type ?Fzq ?Xzq typeOf_Exception notStub_Exception (find_ExcInit _) handed_ExcInit ?_; (case Fzq => assumption); (case Xzq => k_asm); k_whole)))) | (have tokzq : PassTok := PassTok.mk; walk1 <;> (try clear tokzq))) | (k_unfold; (try dsimp only)) | (k_end; wrow_close) | walk1 | (dsimp only; walk1) | (leave1; walk_say "STEP leave1"; try dsimp only) | fail "no step")); (all_goals (try (with_reducible refine Halt.mk ?_))))
  refine exc_set (s := { s with heap := _, toks := _ }) F2 lX N3 (ne_cons (Nat.ne_of_gt le) he) (set51 _) (cls51 _) rfl (by decide) rfl pass51 (take51 _) ?_
  intro dx tk1 tk2 h4 F4 N4 l4 l5
  ((repeat' (first | ((with_reducible refine Halt.mk ?_); first | (safely (with_reducible (k_here; (with_reducible show wpAny _ _ (getMethod (Value.type "Exception") _ _) _ _ _); k_dflt (refine' method_type ?Fzq ?Xzq typeOf_Exception notStub_Exception (find_ExcInit _) handed_ExcInit ?_; (case Fzq => assumption); (case Xzq => k_asm); k_whole)))) | (have tokzq : PassTok := PassTok.mk; walk1 <;> (try clear tokzq))) | (k_unfold; (try dsimp only)) | (k_end; wrow_close) | walk1 | (dsimp only; walk1) | (leave1; walk_say "STEP leave1"; try dsimp only) | fail "no step")); (all_goals (try (with_reducible refine Halt.mk ?_))))
  refine hret _ _ _ _ (by assumption) (by assumption) ⟨rfl, D, dx, tk1, fun q hq => l4 q (List.mem_cons_of_mem _ hq), l5, rfl⟩
end Mine
end

section
-- XR
set_option maxRecDepth 100000
namespace Mine
section
variable {M : Model} {A : Around} {E : Value → Shared → Prop} {env : Env}
variable {nm q : Str} {C N : Addr} {bs bm : List Value} {hdct : Bool} {sn : List Str} {sub : List Value} {ab : Bool} {col : Option Bool} {dd : Option Addr} {k0 k1 k2 k3 k5 : Option Value} {newId : String}

/-- an exception of a class of the text, with its field dict -/
abbrev excD (C dx t : Addr) : Obj := ⟨.ref C, some dx, .fields #[.ref t, .none, .none, .none, .bool false, .none], #[]⟩

theorem raiseStmt_D {s : Shared} {x : Sem Value} {Q : Flow → Shared → Prop} (hcB : (Value.ref C :: bm).contains (.type "BaseException") = true) (hh : A.handled = none)
    (h : wpAny M A x (fun v s₁ => ∃ e dx t, v = .ref e ∧ s₁.heap.get? C = some (excClassObj nm q C N bs bm hdct sn sub ab col dd k0 k1 k2 k3 k5 newId) ∧ s₁.heap.get? e = some (excD C dx t) ∧ E (.ref e) s₁) E s) :
    wpAny M A (raiseStmt env (some x) none) Q E s := by
  unfold raiseStmt
  refine wpAny_bind (wpAny_mono h (fun v s₁ h₁ => ?_) fun _ _ x => x)
  obtain ⟨e, dx, t, rfl, hC, he, hE⟩ := h₁
  obtain ⟨hp, g, d, tk, os⟩ := s₁
  repeat (first | with_reducible refine wpAny_loadPart_at he ?_ | with_reducible refine wpAny_loadPart_at hC ?_ | (with_reducible refine wpAny_isSubtype_exc hC ?_; rw [hcB]) | wp_step)
  exact wpAny_raiseNew_none hh hE
end
section
variable {prog : Program} {w : World} {A : Around} {E : Value → Shared → Prop} {s : Shared} {env : Env}
variable {nm q : Str} {C N : Addr} {bs bm : List Value} {hdct : Bool} {sn : List Str} {sub : List Value} {ab : Bool} {col : Option Bool} {dd : Option Addr} {k0 k1 k2 k3 k5 : Option Value} {newId : String}

theorem evalArgs_e {M : Model} {f : Value} {pos : Pos} {e : Expr} {rest : List Expr} {Q : Args → Shared → Prop} (h : wpAny M A (spliced (backTo pos (starEach (e :: rest) env))) (fun vs s' => Q ⟨vs, []⟩ s') E s)
    (he : backTo pos (starEach (e :: rest) env) = (false, eval e env) :: backTo pos (starEach rest env) := by rfl) : wpAny M A (evalArgs f true (backTo pos (starEach (e :: rest) env)) []) Q E s := by
  rw [he] at h ⊢
  exact PySem.Calls.evalArgs_plain h

theorem Raise_D {x : Str} {np cpos pos : Pos} {args : List Expr} {Q : Flow → Shared → Prop} (C : Addr) (nm q : Str) (N : Addr) (bs bm : List Value) (k0 k1 k2 k3 k5 : Option Value) (newId : String)
    (hcB : (Value.ref C :: bm).contains (.type "BaseException") = true) (hh : A.handled = none) (hplain : (backTo cpos (starEach args env)).any (·.1) = false)
    (h : wpAny (model prog w) A (eval (.Name x np) env) (fun f s₁ => f = .ref C ∧ wpAny (model prog w) A (evalArgs (.ref C) true (backTo cpos (starEach args env)) [])
      (fun a s₂ => a.kw = [] ∧ s₂.heap.get? C = some (excClassObj nm q C N bs bm hdct sn sub ab col dd k0 k1 k2 k3 k5 newId) ∧
        wpAny (model prog w) A (call (.ref C) a.pos) (fun v s₃ => ∃ e dx t, v = .ref e ∧ s₃.heap.get? C = some (excClassObj nm q C N bs bm hdct sn sub ab col dd k0 k1 k2 k3 k5 newId) ∧ s₃.heap.get? e = some (excD C dx t) ∧ E (.ref e) s₃) E s₂) E s₁) E s) :
    wpAny (model prog w) A (exec (.Raise (some (.Call (.Name x np) args [] cpos)) none pos) env) Q E s := by
  rw [arm_exec_Raise]
  refine wpAny_bind (wpAny_standAt (raiseStmt_D (C := C) (nm := nm) (q := q) (N := N) (bs := bs) (bm := bm) (hdct := hdct) (sn := sn) (sub := sub) (ab := ab) (col := col) (dd := dd) (k0 := k0) (k1 := k1) (k2 := k2) (k3 := k3) (k5 := k5) (newId := newId) hcB hh ?_))
  refine wpAny_bind (wpAny_mono (wpAny_Call_ofName (wpAny_mono h (fun f s₁ h₁ => ?_) fun _ _ x => x)) (fun v s₃ h₃ => wpAny_bind (wpAny_standAt (wpAny_pure h₃))) fun _ _ x => x)
  obtain ⟨rfl, h₁⟩ := h₁
  unfold callWith
  refine wpAny_bind (wpAny_holding (wpAny_mono h₁ (fun a s₂ h₂ => wpAny_bind (wpAny_standAt ?_)) fun _ _ x => x))
  obtain ⟨apos, akw⟩ := a
  obtain ⟨hkw, hC, h₂⟩ := h₂
  obtain rfl : akw = [] := hkw
  obtain ⟨hp, g, d, tk, os⟩ := s₂
  simp only [hplain]
  refine wpAny_bind (wpAny_keeperOf_exc hC ?_)
  exact wpAny_bind (wpAny_mono h₂ (fun v s₃ h₃ => wpAny_bind (wpAny_holding (wpAny_point (wpAny_pure h₃)))) fun _ _ x => x)
end
end Mine
end

section
-- CM
set_option maxRecDepth 100000
namespace Mine
open Sem (wp)

/-- every object that lives goes on living, with the same attribute dict -/
def DK (h h' : Heap) : Prop := ∀ a o, h.get? a = some o → ∃ o', h'.get? a = some o' ∧ o'.dict = o.dict
theorem DK.refl (h : Heap) : DK h h := fun _ o e => ⟨o, e, rfl⟩
theorem DK.trans {h₁ h₂ h₃ : Heap} (x : DK h₁ h₂) (y : DK h₂ h₃) : DK h₁ h₃ := fun a o e =>
  let ⟨o', e', d'⟩ := x a o e; let ⟨o'', e'', d''⟩ := y a o' e'; ⟨o'', e'', d''.trans d'⟩
theorem DK.of_keeps {h h' : Heap} (k : ∀ b o, h.get? b = some o → h'.get? b = some o) : DK h h' := fun a o e => ⟨o, k a o e, rfl⟩
theorem DK.push (h : Heap) (o : Obj) : DK h (h.push o) := .of_keeps fun _ _ e => Heap.get?_push_of_some o e

/-- a change of one object that leaves its attribute dict and its life alone -/
def CalmF (f : Obj → Obj) : Prop := ∀ o, (f o).dict = o.dict ∧ (o.isFreed = false → (f o).isFreed = false)
theorem DK.update {f : Obj → Obj} (hf : CalmF f) (h : Heap) (a : Addr) : DK h (h.update a f) := fun b o e => by
  by_cases q : a = b
  · subst q
    exact ⟨f o, Heap.get?_update_self f e ((hf o).2 (Heap.get?_some_iff.mp e).2), (hf o).1⟩
  · exact ⟨o, (Heap.get?_update_other h f q).trans e, rfl⟩

/-- a tree that calls nothing and changes no attribute dict -/
def Calm {α : Type} : Sem α → Prop
  | .pure _ => True
  | .raise _ => True
  | .unsupported _ => True
  | .finish _ => True
  | .rule _ k => Calm (k ())
  | .at _ k => Calm (k ())
  | .load _ _ k => ∀ o, Calm (k o)
  | .update _ _ f k => CalmF f ∧ Calm (k ())
  | .alloc _ k => ∀ a, Calm (k a)
  | .loadIfAlive _ k => ∀ o, Calm (k o)
  | .point _ k => Calm (k ())
  | .register _ _ => True
  | .fresh k => ∀ t, Calm (k t)
  | .ask k => ∀ x, Calm (k x)
  | .choose _ _ k => ∀ n, Calm (k n)
  | .os _ _ k => ∀ r, Calm (k r)
  | .call _ _ _ _ _ => False
  | .handled _ k => ∀ v, Calm (k v)
  | .newGen _ k => ∀ x, Calm (k x)
  | .genState _ k => ∀ x, Calm (k x)
  | .resume _ _ _ _ => False
  | .yield _ _ _ _ => True
  | .stack k => ∀ x, Calm (k x)
  | .fork _ _ => True
  | .thread k => ∀ x, Calm (k x)
  | .await _ _ _ _ _ => True

theorem calm_bind {α β : Type} {m : Sem α} {f : α → Sem β} (h : Calm m) (hf : ∀ a, Calm (f a)) : Calm (m >>= f) := by
  show Calm (m.bind f)
  induction m with
  | pure a => exact hf a
  | raise | unsupported | finish | yield | fork | await | register => trivial
  | call | resume => exact h.elim
  | rule _ k ih | «at» _ k ih | point _ k ih => exact ih _ h
  | update a _ g k ih => exact ⟨h.1, ih _ h.2⟩
  | alloc _ k ih | loadIfAlive _ k ih | fresh k ih | ask k ih | os _ _ k ih | handled _ k ih | newGen _ k ih | stack k ih | thread k ih | load _ _ k ih | genState _ k ih | choose _ _ k ih => exact fun x => ih x (h x)

theorem calm_wp {α : Type} {M : Model} {Γ : PySem.Ctx} {h₀ : Heap} {Q : α → Pos → Shared → Prop} {E : Value → Pos → Shared → Prop} (t : Sem α) (hc : Calm t) (p : Pos) (s : Shared) (hd : DK h₀ s.heap)
    (h : wp M Γ t Q E p s) : wp M Γ t (fun a p' s' => Q a p' s' ∧ DK h₀ s'.heap) (fun e p' s' => E e p' s' ∧ DK h₀ s'.heap) p s := by
  induction t generalizing p s with
  | pure a => exact ⟨h, hd⟩
  | raise e => exact ⟨h, hd⟩
  | unsupported | finish | yield | fork | await | register => exact h
  | call | resume => exact hc.elim
  | rule _ k ih | «at» _ k ih | point _ k ih => exact ih _ hc _ _ hd h
  | update a _ g k ih => exact ⟨h.1, ih _ hc.2 _ _ (hd.trans (.update hc.1 _ _)) h.2⟩
  | alloc _ k ih => exact ih _ (hc _) _ _ (hd.trans (.push _ _)) h
  | loadIfAlive _ k ih | fresh k ih | ask k ih | os _ _ k ih | handled _ k ih | newGen _ k ih | stack k ih | thread k ih => exact ih _ (hc _) _ _ hd h
  | load _ _ k ih | genState _ k ih => exact h.elim fun o ho => ⟨o, ho.1, ih _ (hc _) _ _ hd ho.2⟩
  | choose _ _ k ih => exact ⟨h.1, ih _ (hc _) _ _ hd h.2⟩

theorem calm_wpAny {α : Type} {M : Model} {A : Around} {Q : α → Shared → Prop} {E : Value → Shared → Prop} {t : Sem α} {s : Shared} (hc : Calm t) (h : wpAny M A t Q E s) :
    wpAny M A t (fun a s' => Q a s' ∧ DK s.heap s'.heap) (fun e s' => E e s' ∧ DK s.heap s'.heap) s := fun Γ p hΓ => calm_wp t hc p s (.refl _) (h Γ p hΓ)

theorem calm_if {α : Type} {c : Prop} [Decidable c] {x y : Sem α} (hx : Calm x) (hy : Calm y) : Calm (if c then x else y) := by split <;> assumption
theorem calm_pure {α : Type} (a : α) : Calm (Pure.pure a : Sem α) := trivial
theorem calm_uns {α : Type} (w : String) : Calm (unsupported w : Sem α) := trivial
theorem calmF_mapFields (g : Array Value → Array Value) : CalmF (Obj.mapFields g) := fun o => by
  obtain ⟨c, d, da, sl⟩ := o
  cases da <;> exact ⟨rfl, id⟩
theorem calmF_slots (g : Obj → Array (Option Value)) : CalmF (fun o => { o with slots := g o }) := fun o => by
  obtain ⟨c, d, da, sl⟩ := o
  cases da <;> exact ⟨rfl, id⟩
theorem calm_load (a : Addr) : Calm (load a) := fun _ => trivial
theorem calm_update (a : Addr) {f : Obj → Obj} (hf : CalmF f) : Calm (update a f) := ⟨hf, trivial⟩
theorem calm_alloc (o : Obj) : Calm (alloc o) := fun _ => trivial
theorem calm_stack : Calm stack := fun _ => trivial
theorem calm_fieldsOf (v : Value) : Calm (fieldsOf v) := by
  unfold fieldsOf
  split
  · exact calm_bind (calm_load _) fun o => by split <;> trivial
  · trivial
theorem calm_field (v : Value) (i : Nat) : Calm (field v i) := by
  unfold field
  exact calm_bind (calm_fieldsOf v) fun vs => by split <;> trivial
theorem calm_setField (v : Value) (i : Nat) (x : Value) : Calm (setField v i x) := by
  unfold setField
  split
  · unfold updateField
    refine calm_bind (calm_load _) fun o => ?_
    split
    · exact calm_if (calm_update _ (calmF_mapFields _)) trivial
    · trivial
  · trivial
theorem calm_setFlight (e : Value) (f : Option Addr) : Calm (setFlight e f) := by
  unfold setFlight
  exact calm_bind (calm_field _ _) fun tb => calm_if (calm_setField _ _ _) trivial
theorem calm_claims : Calm underTheClaimsCaller := by
  unfold underTheClaimsCaller
  exact calm_bind calm_stack fun _ => trivial
theorem calm_keptBack (env : Env) (i : Bool) (l : List Env) : Calm (keptBack env i l) := by
  unfold keptBack
  split
  · exact calm_if trivial (calm_bind calm_claims fun _ => trivial)
  · trivial
theorem calm_behind (env : Env) (l : List Env) : Calm (behindIsImport env l) := by
  unfold behindIsImport
  refine calm_if trivial (calm_if trivial ?_)
  exact calm_bind (calm_field _ _) fun _ => trivial
theorem calm_ready : ∀ l : List Env, Calm (readyFrames l)
  | [] => trivial
  | env :: outer => by
    unfold readyFrames
    split
    · refine calm_bind (calm_load _) fun o => calm_if trivial ?_
      refine calm_bind (calm_behind _ _) fun i => calm_bind (calm_keptBack _ _ _) fun b => calm_bind (calm_update _ (calmF_slots _)) fun _ => calm_ready outer
    · trivial
theorem calm_frameObject : ∀ l : List Env, Calm (frameObject l)
  | [] => trivial
  | env :: outer => by
    unfold frameObject
    exact calm_bind (calm_ready _) fun _ => trivial
theorem calm_frameEnvs : Calm frameEnvs := by
  unfold frameEnvs
  exact calm_bind calm_stack fun _ => trivial
theorem calm_frameOf (env : Env) : Calm (PySem.frameOf env) := by
  unfold PySem.frameOf
  exact calm_bind calm_frameEnvs fun _ => calm_bind (calm_frameObject _) fun o => by split <;> trivial
theorem calm_place (f : Addr) (b : Bool) : Calm (entryPlaceOf f b) := by
  unfold entryPlaceOf
  exact calm_bind calm_stack fun _ => by split <;> trivial
theorem calm_newFields (ty : String) (vs : List Value) : Calm (newFields ty vs) := by
  unfold newFields newObj
  refine calm_if trivial ?_
  unfold newObjAsIs
  exact calm_bind (calm_alloc _) fun _ => trivial
theorem calm_noteFrame (e : Value) (env : Env) : Calm (noteFrame e env) := by
  unfold noteFrame
  split
  · refine calm_bind (calm_field _ _) fun head => ?_
    refine calm_if (calm_bind (calm_field _ _) fun _ => calm_if trivial (calm_bind (calm_setField _ _ _) fun _ => ?_)) ?_
    all_goals exact calm_bind (calm_frameOf _) fun _ => calm_bind (calm_place _ _) fun _ => calm_bind (calm_newFields _ _) fun _ => calm_setField _ _ _
  · trivial
theorem calm_leaving (env : Env) (e : Value) : Calm (leaving env e) := by
  unfold leaving
  exact calm_bind (calm_noteFrame _ _) fun _ => calm_setFlight _ _
end Mine
end

section
-- XL
set_option maxRecDepth 100000
namespace Mine
section
variable {M : Model} {A : Around} {E : Value → Shared → Prop} {s : Shared}

/-- an exception leaves the frame where it was raised: what it keeps, its dict too -/
theorem leave_D {env : Env} {l : List Env} {A' : Around} {base g : Heap} {L₂ e : Addr} {m₂ : Str → Option Value} {oe : Obj} {vs : Array Value} {a0 : Value} {Q : Unit → Shared → Prop}
    (hfr : A.frames = some (env :: l)) (hf : env.frame = some L₂) (hkind : env.scope.kind ≠ .module) (B : Below A' base l g) (F : Fr g L₂ s.heap m₂)
    (he : s.heap.get? e = some oe) (hd : oe.data = .fields vs) (h1 : vs[1]? = some .none) (h0 : vs[0]? = some a0)
    (hQ : ∀ h', Heap.FlyingW (hideAll s.heap (e :: (env :: l).filterMap (·.frame))) l e oe.cls a0 h' → s.heap.UpToSlots h' → DK s.heap h' → Q () { s with heap := h' }) :
    wpAny M A (leaving env (.ref e)) Q E s := by
  have hFF : s.heap.FunFrames (hideAll s.heap (e :: (env :: l).filterMap (·.frame))) (env :: l) := by
    refine ⟨hkind, ?_, ?_⟩
    · obtain ⟨o, es, ep, ho, hdd, _⟩ := F.ns
      exact ⟨L₂, o, hf, hideAll_none _ (List.mem_cons_of_mem _ (List.mem_filterMap.mpr ⟨env, List.mem_cons_self, hf⟩)), ho, fun vs q => by rw [hdd] at q; cases q⟩
    · exact funFrames_hide (B.frames.of_keeps fun b o e _ => ⟨o, F.keep b o e, rfl⟩) fun env' he' b hb => List.mem_cons_of_mem _ (List.mem_filterMap.mpr ⟨env', List.mem_cons_of_mem _ he', hb⟩)
  have hen : (hideAll s.heap (e :: (env :: l).filterMap (·.frame))).get? e = none := hideAll_none _ List.mem_cons_self
  refine wpAny_mono (calm_wpAny (calm_leaving env (.ref e)) (wpAny_leaving_firstW (Q := fun _ s' => ∃ h', s' = { s with heap := h' } ∧ Heap.LeftW (hideAll s.heap (e :: (env :: l).filterMap (·.frame))) (env :: l) e oe.cls a0 s.heap h') (E := fun _ _ => False)
    hfr hFF hf he (fun b o q => of_hideAll _ q) hen hd h1 h0 fun h' hL => ⟨h', rfl, hL⟩)) (fun _ s' hz => ?_) (fun _ _ x => x.1.elim)
  obtain ⟨⟨h', rfl, k1, ⟨_, _, k2⟩, k3, k4⟩, dk⟩ := hz
  exact hQ h' ⟨k1, hen, k2, k3⟩ k4 dk

/-- in flight, with its dict -/
def FlyD (Bs : Heap) (l : List Env) (e : Addr) (cls a0 : Value) (dx : Addr) (h : Heap) : Prop := Heap.FlyingW Bs l e cls a0 h ∧ ∃ oe, h.get? e = some oe ∧ oe.dict = some dx
/-- held by a frame, with its dict -/
def HeldD (Bs : Heap) (l : List Env) (e : Addr) (cls a0 : Value) (dx L : Addr) (h : Heap) : Prop := Heap.HeldW Bs l e cls a0 L h ∧ ∃ oe, h.get? e = some oe ∧ oe.dict = some dx
theorem dict_on {h h' : Heap} {e dx : Addr} (k : DK h h') (x : ∃ oe, h.get? e = some oe ∧ oe.dict = some dx) : ∃ oe, h'.get? e = some oe ∧ oe.dict = some dx := by
  obtain ⟨oe, h1, h2⟩ := x
  obtain ⟨o', h3, h4⟩ := k e oe h1
  exact ⟨o', h3, h4.trans h2⟩

theorem look_D {Bs : Heap} {env : Env} {l : List Env} {L e dx : Addr} {cls a0 : Value} {Q : Unit → Shared → Prop} (hfr : A.frames = some (env :: l)) (hf : env.frame = some L) (hB : FlyD Bs (env :: l) e cls a0 dx s.heap)
    (hQ : ∀ h', HeldD Bs (env :: l) e cls a0 dx L h' → s.heap.UpToSlots h' → Q () { s with heap := h' }) : wpAny M A (noteFrame (.ref e) env) Q E s := by
  refine wpAny_mono (calm_wpAny (calm_noteFrame (.ref e) env) (wpAny_looks_onW (Q := fun _ s' => ∃ h', s' = { s with heap := h' } ∧ Heap.HeldW Bs (env :: l) e cls a0 L h' ∧ s.heap.UpToSlots h') (E := fun _ _ => False)
    hfr hf hB.1 fun h' x y => ⟨h', rfl, x, y⟩)) (fun _ s' hz => ?_) (fun _ _ x => x.1.elim)
  obtain ⟨⟨h', rfl, x, y⟩, dk⟩ := hz
  exact hQ h' ⟨x, dict_on dk hB.2⟩ y

theorem land_D {Bs : Heap} {l : List Env} {L e dx : Addr} {cls a0 : Value} {Q : Unit → Shared → Prop} (hB : HeldD Bs l e cls a0 dx L s.heap)
    (hQ : ∀ h', FlyD Bs l e cls a0 dx h' → s.heap.UpToSlots h' → Q () { s with heap := h' }) : wpAny M A (setFlight (.ref e) none) Q E s := by
  refine wpAny_mono (calm_wpAny (calm_setFlight (.ref e) none) (wpAny_landsW (Q := fun _ s' => ∃ h', s' = { s with heap := h' } ∧ Heap.FlyingW Bs l e cls a0 h' ∧ s.heap.UpToSlots h') (E := fun _ _ => False)
    hB.1 fun h' x y => ⟨h', rfl, x, y⟩)) (fun _ s' hz => ?_) (fun _ _ x => x.1.elim)
  obtain ⟨⟨h', rfl, x, y⟩, dk⟩ := hz
  exact hQ h' ⟨x, dict_on dk hB.2⟩ y

theorem land_again_D {Bs : Heap} {l : List Env} {e dx : Addr} {cls a0 : Value} {Q : Unit → Shared → Prop} (hB : FlyD Bs l e cls a0 dx s.heap)
    (hQ : ∀ h', FlyD Bs l e cls a0 dx h' → s.heap.UpToSlots h' → Q () { s with heap := h' }) : wpAny M A (setFlight (.ref e) none) Q E s := by
  refine wpAny_mono (calm_wpAny (calm_setFlight (.ref e) none) (lands_againW (Q := fun _ s' => ∃ h', s' = { s with heap := h' } ∧ Heap.FlyingW Bs l e cls a0 h' ∧ s.heap.UpToSlots h') (E := fun _ _ => False)
    hB.1 fun h' x y => ⟨h', rfl, x, y⟩)) (fun _ s' hz => ?_) (fun _ _ x => x.1.elim)
  obtain ⟨⟨h', rfl, x, y⟩, dk⟩ := hz
  exact hQ h' ⟨x, dict_on dk hB.2⟩ y
end

section
variable {prog : Program} {w : World} {A : Around} {E : Value → Shared → Prop} {s' : Shared} {L a e dx C N : Addr} {name : Str} {scope : Scope} {cd : Value} {g Bs : Heap} {m mg mb : Str → Option Value} {l : List Env} {a0 : Value} {K : Frag} {p : Program} {loose : List Str}
variable {nm q x n : Str} {bs bm : List Value} {hdct : Bool} {sn : List Str} {sub : List Value} {ab : Bool} {col : Option Bool} {dd : Option Addr} {k0 k1 k2 k3 k5 : Option Value} {newId : String}
variable {b₀ : Stmt} {suite : List Stmt} {pos np : Pos} {rest : List ExceptHandler} {Q : Flow → Shared → Prop}

/-- `except X as n` catches an X; the suite is next -/
theorem caught_D (hfr : A.frames = some (envOf name scope L a cd :: l)) (hB : FlyD Bs (envOf name scope L a cd :: l) e (.ref C) a0 dx s'.heap)
    (hF : ∀ h', Bs.StaysIn h' → s'.heap.UpToSlots h' → Fr g L h' m) (X : K.In g) (T : TopRead p loose mg mb g) (ex : nsIn K mainGlobals x = some (some (.ref C)))
    (hC : g.get? C = some (excClassObj nm q C N bs bm hdct sn sub ab col dd k0 k1 k2 k3 k5 newId)) (hbase : bm.contains (.type "BaseException") = true)
    (k : ∀ h₆, FlyD Bs (envOf name scope L a cd :: l) e (.ref C) a0 dx h₆ → s'.heap.UpToSlots h₆ →
      wpAny (model prog w) (A.mark (some (.ref e))) (storeName (envOf name scope L a cd) n (.ref e)) (fun _ s₃ =>
        wpAny (model prog w) (A.mark (some (.ref e))) (execs (b₀ :: suite) (envOf name scope L a cd))
          (fun f s₄ => wpAny (model prog w) A (do bindName (envOf name scope L a cd) n .none; unbindBehindTheSuite (envOf name scope L a cd) n pos) (fun _ s₅ => Q f s₅) E s₄)
          (AsSuiteRaised (model prog w) (A.mark (some (.ref e))) (envOf name scope L a cd) n pos (notedBy (model prog w) (A.mark (some (.ref e))) (envOf name scope L a cd) (cameBackBy (model prog w) A (envOf name scope L a cd) E))) s₃)
        (notedBy (model prog w) (A.mark (some (.ref e))) (envOf name scope L a cd) (cameBackBy (model prog w) A (envOf name scope L a cd) E)) { s' with heap := h₆ })
    (hk : scope.kind = .function := by rfl) (hx : (envOf name scope L a cd).kindOf x = some .globalImplicit := by rfl) (hdb : (x == ("__debug__" : Str)) = false := by decide) :
    wpAny (model prog w) A (noteFrame (.ref e) (envOf name scope L a cd))
      (fun _ s₂ => wpAny (model prog w) A (setFlight (.ref e) none) (fun _ s₃ =>
        wpAny (model prog w) A (handleBy (.ref e) (envOf name scope L a cd) (.ExceptHandler (some (.Name x np)) (some n) (b₀ :: suite) pos :: rest)) Q E s₃) E s₂) E s' := by
  refine look_D hfr rfl hB fun h₄ hB₄ hs₄ => ?_
  refine land_D hB₄ fun h₅ hB₅ hs₅' => ?_
  have hs₅ := hs₄.trans hs₅'
  have F₅ := hF h₅ hB₅.1.1 hs₅
  obtain ⟨ob, hob, hobc⟩ := hB₅.1.there
  refine wpAny_handleBy_cons (codeAny_handlers_test (name_K F₅ X T ex ?_ hk hx hdb)) (by intro q; cases q)
  refine wpAny_excMatches_sub_self (F₅.keep _ _ hC) hob hobc hbase (codeAny_handlers_suite_as ?_)
  refine land_again_D hB₅ fun h₆ hB₆ hs₆ => ?_
  exact k h₆ hB₆ (hs₅.trans hs₆)
end

/-- what a caller knows when an exception of class C comes out of a call -/
structure RaisedD (h₀ : Heap) (L : Addr) (m : Str → Option Value) (news : List (Addr × Obj)) (l : List Env) (e C dx : Addr) (fd : Obj) (h' : Heap) : Prop where
  fly : ∃ Bs a0, FlyD Bs l e (.ref C) a0 dx h' ∧ (∀ b o, h₀.get? b = some o → b ∉ l.filterMap (·.frame) → Bs.get? b = some o) ∧ (∀ q ∈ news, Bs.get? q.1 = some q.2) ∧ Bs.get? dx = some fd
  up : h₀.UpToSlots h'
  ns : h'.Ns L m
  fe : h₀.get? e = none
  fx : h₀.get? dx = none
  eL : e ≠ L
  xL : dx ≠ L
  ne : ∀ q ∈ news, q.1 ≠ e
  nx : ∀ q ∈ news, q.1 ≠ dx
  ex : e ≠ dx

theorem raisedD_of {A' : Around} {base h₀ g h9 h10 : Heap} {l : List Env} {env₂ : Env} {L L₂ e C dx : Addr} {m m₂ : Str → Option Value} {fd oe : Obj} {tl news : List (Addr × Obj)} {a0 : Value}
    (B : Below A' base l g) (FG : Fr h₀ L g m) (F9 : Fr g L₂ h9 m₂) (N9 : News g L₂ h9 ((dx, fd) :: (e, oe) :: (tl ++ news))) (hne : ∀ q ∈ news, q.1 ≠ e) (hnx : ∀ q ∈ news, q.1 ≠ dx) (hex : e ≠ dx) (hf : env₂.frame = some L₂)
    (hfly : Heap.FlyingW (hideAll h9 (e :: (env₂ :: l).filterMap (·.frame))) l e (.ref C) a0 h10) (hup : h9.UpToSlots h10) (hdk : DK h9 h10) (hoe : oe.dict = some dx) : RaisedD h₀ L m news l e C dx fd h10 := by
  have ne := N9 (e, oe) (List.mem_cons_of_mem _ List.mem_cons_self)
  have nx := N9 (dx, fd) List.mem_cons_self
  obtain ⟨oL, es, ep, hL, hLd, hLr⟩ := FG.ns
  have ge : g.get? e = none := ne.2.2
  have gx : g.get? dx = none := nx.2.2
  have hfr : ∀ b, g.get? b = none → b ∉ l.filterMap (·.frame) := fun b hb hm => by
    obtain ⟨env, he, hq⟩ := List.mem_filterMap.mp hm
    obtain ⟨L', o, hf', ho⟩ := funFrames_in B.frames env he
    rw [hf'] at hq
    obtain rfl : L' = b := Option.some.inj hq
    rw [hb] at ho; cases ho
  have out : ∀ b, b ≠ e → b ≠ L₂ → b ∉ l.filterMap (·.frame) → b ∉ e :: (env₂ :: l).filterMap (·.frame) := fun b h1 h2 h3 hm => by
    rw [List.filterMap_cons, hf] at hm
    simp only [List.mem_cons] at hm
    rcases hm with h | h | h
    · exact h1 h
    · exact h2 h
    · exact h3 h
  have hg : ∀ b o, g.get? b = some o → b ≠ e ∧ b ≠ L₂ := fun b o q =>
    ⟨fun z => (by rw [z, ge] at q; cases q), fun z => (by have := Heap.lt_size q; rw [z] at this; exact absurd (Nat.lt_of_lt_of_le this F9.above) (Nat.lt_irrefl _))⟩
  refine ⟨⟨_, a0, ⟨hfly, dict_on hdk ⟨oe, ne.1, hoe⟩⟩, fun b o q hb => ?_, fun q hq => ?_, ?_⟩, (Heap.UpToSlots.of_keeps fun b o q => F9.keep b o (FG.keep b o q)).trans hup, hup.ns ⟨oL, es, ep, F9.keep _ _ hL, hLd, hLr⟩,
    fresh_of_stays FG.keep ge, fresh_of_stays FG.keep gx, fun z => (by rw [z, hL] at ge; cases ge), fun z => (by rw [z, hL] at gx; cases gx), hne, hnx, hex⟩
  · have hq := FG.keep b o q
    exact hideAll_get _ (F9.keep b o hq) (out b (hg b o hq).1 (hg b o hq).2 hb)
  · have hn := N9 q (List.mem_cons_of_mem _ (List.mem_cons_of_mem _ (List.mem_append_right _ hq)))
    exact hideAll_get _ hn.1 (out q.1 (hne q hq) hn.2.1 (hfr _ hn.2.2))
  · exact hideAll_get _ nx.1 (out dx (Ne.symm hex) nx.2.1 (hfr _ gx))
end Mine
end

section
-- XC
set_option maxRecDepth 100000
set_option maxHeartbeats 400000000
namespace Mine

structure Stop (P : Prop) : Prop where
  out : P
local macro_rules | `(tactic| walk_at "exec Raise some none") => `(tactic| (k_here; refine Stop.out ?_))
local macro_rules | `(tactic| walk_at "exec For Name Call cons nil") => `(tactic| (k_here; refine Stop.out ?_))

theorem smoothed_raises {w : World} {mean : ExcName → Option Value} {mg mb : Str → Option Value} (news : List (Addr × Obj)) (p : Addr) (sh : Int) (t : Tok) (hsh : sh < 0 ∨ 100 < sh) :
    ∀ (dp un : Nat) (gd : Option (List Code)) (cn : Str) (cs : Scope) (a : Addr) (ccd : Value) (cl : List (Str × Addr)) (outer : List Env) (A₀ : Around) (base h₀ : Heap) (L : Addr) (m : Str → Option Value) (s : Shared) (Q E : Value → Shared → Prop),
    Below A₀ base outer h₀ → Fr h₀ L s.heap m → (hd.heap_39 w.params).In h₀ → News h₀ L s.heap news → Top hd.view_39 (looseW hd.view_39 []) mean mg mb h₀ → cs.kind = .function → dp + 6 < recursionLimit → un + 16 * 6 < cLine →
    (∀ (e dx : Addr) (tk tk' tk8 : Nat) (h' : Heap), RaisedD h₀ L m news (envX cn cs L a ccd cl :: outer) e 51 dx (fieldDict w (Str.ofString "message") tk8 (.str (Str.ofString "no such smoothing") tk)) h' → E (.ref e) { s with heap := h', toks := tk' }) →
    wpAny (model PySem.Challenge.rw_nz0239_01.row.prog w) (ktrTop dp un gd cn cs L a ccd cl outer) (call (.ref 105) [.ref p, .int sh t]) Q E s := by
  w_on
  k_fill
  intro dp un gd cn cs a ccd cl outer A₀ base h₀ L m s Q E B F X N T hk hd hu hE
  refine wpAny_call ?_
  k_dflt (refine' code_defC ?k1 ?k2 ?k3 ?k4 ?k5 ?kA ?kF ?kK ?k6 ?k7 ?k8 ?k9 ?kB ?kD ?_ ?c2 ?c3 ?c4; (case kA => exact rfl); (case kF => exact rfl); (case kK => assumption); (case k1 => k_asm); (case k2 => k_asm); (case k3 => k_asm); (case k4 => k_asm); (case k5 => k_asm); (case k6 => k_is); (case k7 => k_is); (case k8 => ktr_room); (case k9 => exact BindsTo.of_eq rfl); (case kB => exact rfl); (case kD => decide +kernel); (case c2 => exact rfl); (case c3 => exact rfl); (case c4 => exact rfl); k_whole; intro g' L' h' tk' cells' FG' F' N' Y' B' X' T' l1; (try k_lt l1); (have hY := CellsAre.three Y'; obtain ⟨oy, osh, opl, hE', dy, dsh, dpl⟩ := hY; subst hE'; clear Y'); (try simp only [List.cons_append, List.nil_append] at N'); (try dsimp only); (try k_lift B'); (try k_fold))
  ((repeat' (first | ((with_reducible refine Halt.mk ?_); first | (have tokzq : PassTok := PassTok.mk; walk1 <;> (try clear tokzq))) | (k_unfold; (try dsimp only)) | (k_end; wrow_close) | walk1 | (dsimp only; walk1) | (leave1; walk_say "STEP leave1"; try dsimp only) | fail "no step")); (all_goals (try (with_reducible refine Halt.mk ?_))))
  all_goals (
    refine Stop.mk ?_
    refine Raise_D (hdct := true) (sn := []) (sub := []) (ab := false) (col := none) (dd := none) 51 (Str.ofString "RangeError") (Str.ofString "RangeError") 50 [.ref 38] [.ref 38, .type "Exception", .type "BaseException", .type "object"] (some (.ref 42)) none (some (.str (Str.ofString "RangeError") 225)) (some (.str (Str.ofString "RangeError") 233)) (some (.bool true)) "Exception.__new__" (by decide) rfl rfl ?_
    ((repeat' (first | ((with_reducible refine Halt.mk ?_); first | (have tokzq : PassTok := PassTok.mk; walk1 <;> (try clear tokzq))) | (k_unfold; (try dsimp only)) | (k_end; wrow_close) | walk1 | (dsimp only; walk1) | (leave1; walk_say "STEP leave1"; try dsimp only) | fail "no step")); (all_goals (try (with_reducible refine Halt.mk ?_))))
    refine evalArgs_e ?_
    ((repeat' (first | ((with_reducible refine Halt.mk ?_); first | (have tokzq : PassTok := PassTok.mk; walk1 <;> (try clear tokzq))) | (k_unfold; (try dsimp only)) | (k_end; wrow_close) | walk1 | (dsimp only; walk1) | (leave1; walk_say "STEP leave1"; try dsimp only) | fail "no step")); (all_goals (try (with_reducible refine Halt.mk ?_))))
    rename Fr _ _ _ _ => lF
    rename News _ _ _ _ => lN
    rename Frag.In _ _ => lX
    have X3 := lX.keeps lF.keep
    · exact X3 _ _ (range51 _)
    rename Fr _ _ _ _ => lF
    rename News _ _ _ _ => lN
    rename Frag.In _ _ => lX
    have X3 := lX.keeps lF.keep
    obtain ⟨o35, h35, c35⟩ := Option.map_eq_some_iff.mp (fn35 w.params)
    refine exc_call PySem.F.excBase_Exception (by decide) (by decide) (by decide) (X3 _ _ (range51 _)) (looks_findIn X3 (init51 _)) (X3 _ _ h35) c35 ?_ (show 1 ≤ sizeLine by decide)
    have N2 := (lN.push lF (tupOf [.str "no such smoothing" tk])).push (lF.push _) (excAt 51 h'.objs.size)
    have F2 := (lF.push (tupOf [.str "no such smoothing" tk])).push (excAt 51 h'.objs.size)
    have hlt := fun q hq => Heap.lt_size (lN q hq).1
    rw [Heap.size_push] at N2
    k_dflt (refine' init_con ((h'.objs.size, tupOf [.str "no such smoothing" tk]) :: _) (h'.objs.size + 1) h'.objs.size _ _ ?he _ _ _ _ _ _ _ _ _ _ _ _ _ _ _ _ _ ?k1 ?k2 ?k3 ?k4 ?k5 ?kK ?kd ?ku ?_)
    (case k2 => exact F2)
    (case k4 => exact N2)
    (case k1 => k_asm)
    (case k3 => k_asm)
    (case k5 => k_asm)
    (case kK => exact rfl)
    (case kd => have hw : (Code.builtin "type.__call__" ⟨[.ref 51, .str "no such smoothing" tk], []⟩).weight = 1 := rfl; show dp + 1 + (Code.builtin "type.__call__" ⟨[.ref 51, .str "no such smoothing" tk], []⟩).weight + 3 < recursionLimit; rw [hw]; omega)
    (case ku => have hw : (Code.builtin "type.__call__" ⟨[.ref 51, .str "no such smoothing" tk], []⟩).cUnits = 1 := rfl; show un + 3 + (Code.builtin "type.__call__" ⟨[.ref 51, .str "no such smoothing" tk], []⟩).cUnits + 16 * 3 < cLine; rw [hw]; omega)
    (case he => refine ne_cons (Nat.ne_of_lt (Nat.lt_succ_self _)) fun q hq => Nat.ne_of_lt (Nat.lt_succ_of_lt (hlt q hq)))
    intro r9 news9 h9 tk9 F9 N9 hO
    obtain ⟨rfl, t1, dx, tk8, l8, l9, rfl⟩ := hO
    have hnl : ∀ q ∈ news, @LT.lt Nat _ q.1 h'.objs.size := fun q hq => hlt q (List.mem_cons_of_mem _ (List.mem_cons_of_mem _ (List.mem_cons_of_mem _ hq)))
    refine ⟨rfl, _, dx, t1, rfl, (lX.keeps F9.keep) _ _ (range51 _), (N9 _ (List.mem_cons_of_mem _ List.mem_cons_self)).1, ?_⟩
    refine leave_D rfl rfl (show ScopeKind.function ≠ ScopeKind.module by decide) B' F9 (N9 _ (List.mem_cons_of_mem _ List.mem_cons_self)).1 rfl rfl rfl fun h10 hfly hup hdk => ?_
    exact hE _ dx _ _ _ h10 (raisedD_of (tl := (t1, tupOf [.str "no such smoothing" tk]) :: (h'.objs.size, tupOf [.str "no such smoothing" tk]) :: (L' + 1 + 1 + 1, oy) :: (L' + 1 + 1, osh) :: (L' + 1, opl) :: []) B' FG' F9 N9
      (fun q hq => Nat.ne_of_lt (Nat.lt_succ_of_lt (hnl q hq))) (fun q hq => Nat.ne_of_lt (l8 q (List.mem_cons_of_mem _ (List.mem_cons_of_mem _ (List.mem_cons_of_mem _ (List.mem_cons_of_mem _ hq)))))) (Nat.ne_of_lt l9) rfl hfly hup hdk rfl))
end Mine
end

section
-- XG
set_option maxRecDepth 100000
namespace Mine
section
variable {prog : Program} {w : World} {A : Around} {E : Value → Shared → Prop} {s : Shared} {K : Frag} {x C : Addr} {ox : Obj} {od : Option Obj} {name : Str} {v : Value} {expr : Bool} {Q : Value → Shared → Prop}

/-- a field read off an exception of a class of the text -/
theorem get_D (X : K.In s.heap) (I : InstAt s.heap x ox C od) (hga : findIn K (.ref C) "__getattribute__" = some (some (.builtin "BaseException.__getattribute__"))) (hgt : findIn K (.ref C) "__getattr__" = some none)
    (hsub : subIn K (.ref C) (.type "BaseException") = some true) (hf : findObj K C od name = some (.value v)) (hh : handedIn v = true) (h : Q v { s with toks := s.toks + 1 }) :
    wpAny (model prog w) A (getAttr (.ref x) name expr) Q E s := by
  obtain ⟨hp, g, d, t, os⟩ := s
  have L0 := I.type (M := model prog w)
  have L1 := looks_findIn (M := model prog w) X hga
  have L2 := looks_findIn (M := model prog w) X hgt
  have L3 := looks_find (M := model prog w) X I hf
  have L4 : Looks (model prog w) hp (isInstance (.ref x) (.type "BaseException")) true := L0.andThen (looks_subIn X hsub)
  have SA : Slot "Exception" "__getattribute__" "BaseException.__getattribute__" := PySem.F.attr_Exception.ga
  have hx0 : (expr && onTheHeap (Value.builtin "BaseException.__getattribute__")) = false := by cases expr <;> rfl
  have hx2 : (Value.builtin "BaseException.__getattribute__" == Value.builtin "object.__getattribute__") = false := by decide +kernel
  have hx1 : (onTheHeap (Value.ref C) && Value.builtin "BaseException.__getattribute__" == Value.builtin "object.__getattribute__") = false := by rw [hx2]; rfl
  have hk : builtinKind "BaseException.__getattribute__" = some .slot := by decide +kernel
  have hsp : splitId "BaseException.__getattribute__" = some ("BaseException", "__getattribute__") := by decide +kernel
  unfold getAttr getAttrBy
  refine wpAny_bind (wpAny_mkText (wpAny_holding (wpAny_bind (L0.at (wpAny_bind (L1.at ?_))))))
  dsimp only
  rw [hx1, if_neg (by decide)]
  unfold getAttrByItsOwn hookBefore callGetattribute boundAndCalled
  rw [if_pos (show onTheHeap (Value.ref C) = true from rfl)]
  refine wpAny_bind (L2.at ?_)
  rw [hx0, if_neg (by decide), SA.bind (.ref x)]
  refine wpAny_bind (wpAny_attempt (wpAny_holding (wpAny_bind (wpAny_pure ?_))))
  refine wpAny_call (codeAny_call_builtin SA.plain PySem.F.entry_bexc_ga (@check_slot (model prog w) _ _ _ "BaseException.__getattribute__" "BaseException" "__getattribute__" (.ref x) [.str name t] [] _ hk hsp L4 (PySem.F.args_bexc_ga (.ref x) (.str name t)) ?_))
  unfold Builtin.«object.__getattribute__»
  refine wpAny_bind (wpAny_pure (wpAny_bind (wpAny_pure (wpAny_bind (L0.at (wpAny_bind (L3.at ?_)))))))
  dsimp only
  refine wpAny_pure ?_
  show wpAny _ _ (handedOut v) _ _ _
  rw [handedOut_of hh]
  exact wpAny_pure h
end
theorem ga51 (pr : Params) : findIn (hd.heap_39 pr) (.ref 51) "__getattribute__" = some (some (.builtin "BaseException.__getattribute__")) := by kernel_rfl
theorem gt51 (pr : Params) : findIn (hd.heap_39 pr) (.ref 51) "__getattr__" = some none := by kernel_rfl
theorem sub51 (pr : Params) : subIn (hd.heap_39 pr) (.ref 51) (.type "BaseException") = some true := by kernel_rfl
theorem msg51 (pr : Params) : findIn (hd.heap_39 pr) (.ref 51) (Str.ofString "message") = some none := by kernel_rfl
end Mine
end

section
-- XD
set_option maxRecDepth 100000
set_option maxHeartbeats 400000000
namespace Mine
section
variable {prog : Program} {w : World} {A₀ A : Around} {s : Shared} {base h₀ : Heap} {outer : List Env} {L : Addr} {m : Str → Option Value} {news : List (Addr × Obj)} {K : Frag} {p : Program} {loose : List Str} {mean : ExcName → Option Value} {mg mb : Str → Option Value}

/-- a def is entered; what its caller keeps is ours to show -/
theorem code_def0 {env : Env} {R : Result → Shared → Prop} {name qual : Str} {params : Arguments} {body : List Stmt} {scope : Scope} {dV kV doc pm cdv ct oc : Value} {an od : Option Addr} {osl : Array (Option Value)} {f : Addr} {args : Args} {binds : List (Str × Value)}
    (B : Below A₀ base outer h₀) (F : Fr h₀ L s.heap m) (X₀ : K.In h₀) (N : News h₀ L s.heap news) (T : Top p loose mean mg mb h₀) (hA : A.frames = some (env :: outer)) (hf : env.frame = some L) (hke : env.scope.kind = .function)
    (ho : K.lookup f = some ⟨oc, od, .func (fnOf name qual params body scope dV kV doc pm an cdv ct), osl⟩) (hcd : codeIn K cdv qual = true) (hroom : A.depth < recursionLimit)
    (hbind : BindsTo s (fnOf name qual params body scope dV kV doc pm an cdv ct) args binds) (hloc : ∀ y ∈ binds, scope.names.lookup y.1 = some .local)
    (h : ∀ g L' h₁, Fr h₀ L g m → Fr g L' h₁ (fun y => binds.reverse.lookup y) → News g L' h₁ news → Below A base (env :: outer) g → K.In g → Top p loose mean mg mb g →
      wpAny (model prog w) (A.deeper (envOf qual scope L' f cdv)) (execs body (envOf qual scope L' f cdv))
        (fun fl s' => R (.ok (.ret (match fl with | .ret v => v | _ => .none))) s')
        (fun e s' => wpAny (model prog w) (A.deeper (envOf qual scope L' f cdv)) (leaving (envOf qual scope L' f cdv) e) (fun _ s'' => R (.error e) s'') (fun e' s'' => R (.error e') s'') s')
        { s with heap := h₁, toks := s.toks + binds.length })
    (hco : scope.isCoroutine = false) (hgen : scope.isGenerator = false) (hk : scope.kind = .function)
    (hcell : ∀ x ∈ scope.names, x.2 ≠ .cell) : codeAny (model prog w) A (.call (.ref f) args) R s := by
  obtain ⟨FG, BG, st, _⟩ := groundX (R := R) B F N hA hf hke
  refine codeAny_call_def (fd := fnOf name qual params body scope dV kV doc pm an cdv ct) (body := body) (binds := binds) hroom ((X₀.keeps F.keep) _ _ ho) rfl (T.nolimit.keeps F.keep) (codeRec_of (X₀.keeps F.keep) hcd) rfl hbind hcell hloc (fun h₁ hns hk₁ => ?_) hco hgen hk
  exact h _ s.heap.objs.size h₁ FG ⟨hns, fun b o e => hk₁ b o (of_hideAll _ e), Nat.le_of_eq (hideAll_size _ _)⟩
    (fun p hp => ⟨hk₁ _ _ (N p hp).1, Nat.ne_of_lt (Heap.lt_size (N p hp).1), hideAll_none _ (List.mem_map_of_mem hp)⟩) BG (X₀.keeps st) (T.keeps st)
end

/-- the caller's state after the exception has come in -/
theorem landed {h₀ g h5 : Heap} {L L₁ e C dx : Addr} {m m₁ : Str → Option Value} {fd : Obj} {news : List (Addr × Obj)} {l : List Env} (R5 : RaisedD g L₁ m₁ news l e C dx fd h5) (hl : l.filterMap (·.frame) = [L₁, L])
    (FG : Fr h₀ L g m) (hs : g.objs.size ≤ L₁) (N₁ : ∀ q ∈ news, q.1 ≠ L₁ ∧ g.get? q.1 = none) :
    ∃ Bs a0, FlyD Bs l e (.ref C) a0 dx h5 ∧ (∀ h', Bs.StaysIn h' → h5.UpToSlots h' → Fr (g.hide L) L₁ h' m₁) ∧ h₀.StaysIn (g.hide L) ∧
      ∀ h', FlyD Bs l e (.ref C) a0 dx h' → h5.UpToSlots h' → ∃ vs sl oL, News (g.hide L) L₁ h' ((e, ⟨.ref C, some dx, .fields vs, sl⟩) :: (dx, fd) :: (L, oL) :: news) ∧ ∀ hh : Heap, hh.get? L = some oL → hh.Ns L m := by
  obtain ⟨⟨Bs, a0, hfly, hb1, hb2, hb3⟩, hup, hns, fe, fx, eL, xL, ne, nx, ex⟩ := R5
  obtain ⟨oL, es, ep, hL, hLd, hLr⟩ := FG.ns
  have hlt : @LT.lt Nat _ L L₁ := Nat.lt_of_lt_of_le (Heap.lt_size hL) hs
  have hgL : g.get? L₁ = none := Heap.get?_none_of_le hs
  have hide : ∀ b o, (g.hide L).get? b = some o → Bs.get? b = some o := fun b o q => by
    have q' := Heap.of_hide q
    refine hb1 b o q' fun hm => ?_
    rw [hl] at hm
    simp only [List.mem_cons, List.not_mem_nil, or_false] at hm
    rcases hm with z | z
    · rw [z, hgL] at q'; cases q'
    · rw [z, Heap.hide_self] at q; cases q
  have hnone : ∀ b, g.get? b = none → (g.hide L).get? b = none := fun b hb => by
    cases q : (g.hide L).get? b with
    | none => rfl
    | some o => have := Heap.of_hide q; rw [hb] at this; cases this
  refine ⟨Bs, a0, hfly, fun h' st sm => ⟨sm.ns hns, fun b o q => st b o (hide b o q), Nat.le_trans (Nat.le_of_eq (Heap.hide_size g L)) hs⟩, fun b o q => ?_, fun h' hf sm => ?_⟩
  · refine (Heap.hide_ne g fun z => ?_).trans (FG.keep b o q)
    have := Heap.lt_size q
    rw [z] at this
    exact absurd (Nat.lt_of_lt_of_le this FG.above) (Nat.lt_irrefl _)
  · obtain ⟨oe, vs, he, hec, hed, _⟩ := hf.1.first
    obtain ⟨oe', he', hdx⟩ := hf.2
    rw [he] at he'
    obtain rfl := Option.some.inj he'
    obtain ⟨sl1, hL1⟩ := (hup.trans sm) L oL hL (fun vs q => by rw [hLd] at q; cases q)
    obtain ⟨c, d, da, sl⟩ := oe
    obtain rfl : c = .ref C := hec
    obtain rfl : d = some dx := hdx
    obtain rfl : da = .fields vs := hed
    refine ⟨vs, sl, { oL with slots := sl1 }, fun q hq => ?_, fun hh hq => ⟨_, es, ep, hq, hLd, hLr⟩⟩
    simp only [List.mem_cons] at hq
    rcases hq with rfl | rfl | rfl | hq
    · exact ⟨he, eL, hnone _ fe⟩
    · exact ⟨hf.1.1 _ _ hb3, xL, hnone _ fx⟩
    · exact ⟨hL1, Nat.ne_of_lt hlt, Heap.hide_self g L⟩
    · exact ⟨hf.1.1 _ _ (hb2 q hq), (N₁ q hq).1, hnone _ (N₁ q hq).2⟩
end Mine
end

section
-- XE
set_option maxRecDepth 100000
set_option maxHeartbeats 400000000
namespace Mine

/-- as Con, for the law's own frame (nothing below it) -/
def Con0 (w : World) (mean : ExcName → Option Value) (mg mb : Str → Option Value) (k : Nat) (f : Addr) (vs : List Value) (news : List (Addr × Obj)) (Out : Value → List (Addr × Obj) → Prop) : Prop :=
  ∀ (dp un : Nat) (gd : Option (List Code)) (cn : Str) (cs : Scope) (a : Addr) (ccd : Value) (cl : List (Str × Addr)) (A₀ : Around) (h₀ : Heap) (L : Addr) (m : Str → Option Value) (s : Shared) (Q E : Value → Shared → Prop),
    Below A₀ h₀ [] h₀ → Fr h₀ L s.heap m → (hd.heap_39 w.params).In h₀ → News h₀ L s.heap news → Top hd.view_39 (looseW hd.view_39 []) mean mg mb h₀ → cs.kind = .function → dp + k < recursionLimit → un + 16 * k < cLine →
    (∀ (r : Value) (news' : List (Addr × Obj)) (h' : Heap) (tk' : Nat), Fr h₀ L h' m → News h₀ L h' news' → Out r news' → Q r { s with heap := h', toks := tk' }) →
    wpAny (model PySem.Challenge.rw_nz0239_01.row.prog w) (ktrTop dp un gd cn cs L a ccd cl []) (call (.ref f) vs) Q E s

theorem dict51 (pr : Params) : hasDictIn (hd.heap_39 pr) 51 = true := by kernel_rfl
theorem look_message (w : World) (tk : Tok) (v : Value) : lookIn (Str.ofString "message") (fieldDict w (Str.ofString "message") tk v) = some (some v) := by
  show getL (Str.ofString "message") [⟨PyData.keyHash w.params (Str.ofString "message"), .str (Str.ofString "message") tk, v⟩] = some (some v)
  unfold getL
  rw [List.find?_cons, show (Value.str (Str.ofString "message") tk).isStr (Str.ofString "message") = true from by simp [Value.isStr]]

theorem refused_con {w : World} {mean : ExcName → Option Value} {mg mb : Str → Option Value} (news : List (Addr × Obj)) (p : Addr) (sh : Int) (t : Tok) (hsh : sh < 0 ∨ 100 < sh) :
    Con0 w mean mg mb 8 161 [.ref p, .int sh t] news (fun r news' => r = .bool true ∧ news' = news) := by
  w_on
  unfold Con0
  k_fill
  intro dp un gd cn cs a ccd cl A₀ h₀ L m s Q E B F X N T hk hd hu hret
  refine wpAny_call ?_
  k_dflt (refine' code_def0 ?k1 ?k2 ?k3 ?k4 ?k5 ?kA ?kF ?kK ?k6 ?k7 ?k8 ?k9 ?kB ?_ ?c2 ?c3 ?c4 ?c5; (case kA => exact rfl); (case kF => exact rfl); (case kK => assumption); (case k1 => k_asm); (case k2 => k_asm); (case k3 => k_asm); (case k4 => k_asm); (case k5 => k_asm); (case k6 => k_is); (case k7 => k_is); (case k8 => ktr_room); (case k9 => exact BindsTo.of_eq rfl); (case c5 => decide); (case kB => exact locs rfl); (case c2 => exact rfl); (case c3 => exact rfl); (case c4 => exact rfl); k_whole; intro g' L' h' FG' F' N' B' X' T'; (try dsimp only); (try k_lift B'); (try k_fold))
  ((repeat' (first | ((with_reducible refine Halt.mk ?_); first | (have tokzq : PassTok := PassTok.mk; walk1 <;> (try clear tokzq))) | (k_unfold; (try dsimp only)) | (k_end; wrow_close) | walk1 | (dsimp only; walk1) | (leave1; walk_say "STEP leave1"; try dsimp only) | fail "no step")); (all_goals (try (with_reducible refine Halt.mk ?_))))
  k_dflt (refine' smoothed_raises news p sh _ hsh _ _ _ _ _ _ _ _ _ _ _ _ _ _ _ _ _ ?k1 ?k2 ?k3 ?k4 ?k5 ?kK ?kd ?ku ?kE)
  (case k1 => k_asm)
  (case k2 => k_asm)
  (case k3 => k_asm)
  (case k4 => k_asm)
  (case k5 => k_asm)
  (case kK => exact rfl)
  (case kd => ktr_room)
  (case ku => ktr_units)
  intro e dx tk1 tk2 tk3 h5 R5
  obtain ⟨Bs, a0, hfly, hFr, hst, hland⟩ := landed R5 rfl FG' (Nat.le_trans F'.above (Nat.le_refl _)) (fun q hq => ⟨(N' q hq).2.1, (N' q hq).2.2⟩)
  have X2 := X.keeps hst
  have T2 := T.keeps hst
  refine' caught_D rfl hfly hFr X2 ?kT ?kex (X2 _ _ (range51 _)) (by decide) ?_
  (case kT => k_asm)
  (case kex => k_is)
  intro h6 hB6 hs6
  obtain ⟨vs, sl, oL, N6, hL6⟩ := hland h6 hB6 hs6
  have F6 := hFr h6 hB6.1.1 hs6
  refine stN F6 N6 (fun h7 F7 N7 => ?_) rfl rfl
  clear F6 N6 hFr hland hfly
  dsimp only
  ((repeat' (first | ((with_reducible refine Halt.mk ?_); first | (have tokzq : PassTok := PassTok.mk; walk1 <;> (try clear tokzq))) | (k_unfold; (try dsimp only)) | (k_end; wrow_close) | walk1 | (dsimp only; walk1) | (leave1; walk_say "STEP leave1"; try dsimp only) | fail "no step")); (all_goals (try (with_reducible refine Halt.mk ?_))))
  have I7 : InstAt h7 e ⟨.ref 51, some dx, .fields vs, sl⟩ 51 (some (fieldDict w (Str.ofString "message") tk3 (.str (Str.ofString "no such smoothing") tk1))) := ⟨(N7 _ List.mem_cons_self).1, rfl, rfl, (N7 _ (List.mem_cons_of_mem _ List.mem_cons_self)).1⟩
  refine get_D (s := { s with heap := h7, toks := _ }) (X2.keeps F7.keep) I7 (ga51 _) (gt51 _) (sub51 _) (findObj_own (v := .str (Str.ofString "no such smoothing") tk1) (dict51 _) (msg51 _) rfl (look_message _ _ _)) rfl ?_
  ((repeat' (first | ((with_reducible refine Halt.mk ?_); first | (have tokzq : PassTok := PassTok.mk; walk1 <;> (try clear tokzq))) | (k_unfold; (try dsimp only)) | (k_end; wrow_close) | walk1 | (dsimp only; walk1) | (leave1; walk_say "STEP leave1"; try dsimp only) | fail "no step")); (all_goals (try (with_reducible refine Halt.mk ?_))))
  rename Fr _ _ _ _ => lF
  rename News _ _ _ _ => lN
  have hLn := (lN (L, oL) (List.mem_cons_of_mem _ (List.mem_cons_of_mem _ List.mem_cons_self))).1
  exact hret _ news _ _ ⟨hL6 _ hLn, fun b o q => lF.keep b o (hst b o q), F.above⟩
    (fun q hq => ⟨(lN q (List.mem_cons_of_mem _ (List.mem_cons_of_mem _ (List.mem_cons_of_mem _ hq)))).1, (N q hq).2.1, (N q hq).2.2⟩) ⟨rfl, rfl⟩
end Mine
end

section
-- LS
set_option maxRecDepth 100000
set_option maxHeartbeats 400000000
namespace Mine
/-- the ledger of law's frame -/
def lawLed (L S : Addr) (os o1 o2 o3 o4 : Obj) (rest : List (Addr × Obj)) : List (Addr × Obj) := (S, os) :: (L + 1 + 1 + 1 + 1, o4) :: (L + 1 + 1 + 1, o3) :: (L + 1 + 1, o2) :: (L + 1, o1) :: rest

/-- between two statements of law -/
structure LSt (g : Heap) (L : Addr) (m : Str → Option Value) (h : Heap) (S : Addr) (cw cm cr : Option Value) (a b : Int) (t u : Tok) (n : Nat) (o1 o2 o3 o4 : Obj) (rest : List (Addr × Obj)) : Prop where
  fr : Fr g L h m
  nw : News g L h ((S, src a b t u n) :: (L + 1 + 1 + 1 + 1, o4) :: (L + 1 + 1 + 1, o3) :: (L + 1 + 1, o2) :: (L + 1, o1) :: rest)
  c1 : o1.data = .cell (some (.ref S))
  c2 : o2.data = .cell cw
  c3 : o3.data = .cell cm
  c4 : o4.data = .cell cr
  a0 : 0 ≤ a
  b0 : 0 ≤ b
  b1 : b < 2147483647
  s1 : @Ne Nat S (L + 1)
  s2 : @Ne Nat S (L + 1 + 1)
  s3 : @Ne Nat S (L + 1 + 1 + 1)
  s4 : @Ne Nat S (L + 1 + 1 + 1 + 1)
  rS : ∀ q ∈ rest, q.1 ≠ S
  r1 : ∀ q ∈ rest, q.1 ≠ L + 1
  r2 : ∀ q ∈ rest, q.1 ≠ L + 1 + 1
  r3 : ∀ q ∈ rest, q.1 ≠ L + 1 + 1 + 1
  r4 : ∀ q ∈ rest, q.1 ≠ L + 1 + 1 + 1 + 1
/-- the state between two statements -/
def LSx (g : Heap) (L : Addr) (s : Shared) (cr : List (Addr × Obj) → Option Value → Option Value → Option Value → (Str → Option Value) → Prop) (s' : Shared) : Prop :=
  ∃ m h tk S cw cm cr' a b t u n o1 o2 o3 o4 rest, s' = { s with heap := h, toks := tk } ∧ LSt g L m h S cw cm cr' a b t u n o1 o2 o3 o4 rest ∧ cr rest cw cm cr' m

theorem LSx_mk {g : Heap} {L : Addr} {s : Shared} {P : List (Addr × Obj) → Option Value → Option Value → Option Value → (Str → Option Value) → Prop} {m : Str → Option Value} {h : Heap} {tk : Tok} {S : Addr} {cw cm cr : Option Value} {a b : Int} {t u : Tok} {n : Nat} {o1 o2 o3 o4 : Obj} {rest : List (Addr × Obj)}
    (fr : Fr g L h m) (nw : News g L h ((S, src a b t u n) :: (L + 1 + 1 + 1 + 1, o4) :: (L + 1 + 1 + 1, o3) :: (L + 1 + 1, o2) :: (L + 1, o1) :: rest)) (c1 : o1.data = .cell (some (.ref S))) (c2 : o2.data = .cell cw) (c3 : o3.data = .cell cm) (c4 : o4.data = .cell cr)
    (a0 : 0 ≤ a) (b0 : 0 ≤ b) (b1 : b < 2147483647) (s1 : @Ne Nat S (L + 1)) (s2 : @Ne Nat S (L + 1 + 1)) (s3 : @Ne Nat S (L + 1 + 1 + 1)) (s4 : @Ne Nat S (L + 1 + 1 + 1 + 1))
    (rS : ∀ q ∈ rest, q.1 ≠ S) (r1 : ∀ q ∈ rest, q.1 ≠ L + 1) (r2 : ∀ q ∈ rest, q.1 ≠ L + 1 + 1) (r3 : ∀ q ∈ rest, q.1 ≠ L + 1 + 1 + 1) (r4 : ∀ q ∈ rest, q.1 ≠ L + 1 + 1 + 1 + 1) (p : P rest cw cm cr m) : LSx g L s P { s with heap := h, toks := tk } :=
  ⟨m, h, tk, S, cw, cm, cr, a, b, t, u, n, o1, o2, o3, o4, rest, rfl, ⟨fr, nw, c1, c2, c3, c4, a0, b0, b1, s1, s2, s3, s4, rS, r1, r2, r3, r4⟩, p⟩

theorem cut_law {M : Model} {A : Around} {E : Value → Shared → Prop} {s : Shared} {env : Env} {st : Stmt} {Q : Flow → Shared → Prop} {g : Heap} {L : Addr} {h : Heap} {m : Str → Option Value} (_F : Fr g L h m) (P : List (Addr × Obj) → Option Value → Option Value → Option Value → (Str → Option Value) → Prop)
    (h : wpAny M A (exec st env) (fun f s' => f = .next ∧ LSx g L s P s') E s)
    (k : ∀ (m : Str → Option Value) (h : Heap) (tk : Tok) (S : Addr) (cw cm cr : Option Value) (a b : Int) (t u : Tok) (n : Nat) (o1 o2 o3 o4 : Obj) (rest : List (Addr × Obj)), Fr g L h m → News g L h ((S, src a b t u n) :: (L + 1 + 1 + 1 + 1, o4) :: (L + 1 + 1 + 1, o3) :: (L + 1 + 1, o2) :: (L + 1, o1) :: rest) →
      o1.data = .cell (some (.ref S)) → o2.data = .cell cw → o3.data = .cell cm → o4.data = .cell cr → 0 ≤ a → 0 ≤ b → b < 2147483647 → @Ne Nat S (L + 1) → @Ne Nat S (L + 1 + 1) → @Ne Nat S (L + 1 + 1 + 1) → @Ne Nat S (L + 1 + 1 + 1 + 1) →
      (∀ q ∈ rest, q.1 ≠ S) → (∀ q ∈ rest, q.1 ≠ L + 1) → (∀ q ∈ rest, q.1 ≠ L + 1 + 1) → (∀ q ∈ rest, q.1 ≠ L + 1 + 1 + 1) → (∀ q ∈ rest, q.1 ≠ L + 1 + 1 + 1 + 1) → P rest cw cm cr m → Q .next { s with heap := h, toks := tk }) : wpAny M A (exec st env) Q E s := by
  refine cut_stmt _ h ?_
  rintro s' ⟨m, h, tk, S, cw, cm, cr, a, b, t, u, n, o1, o2, o3, o4, rest, rfl, ⟨q1, q2, q3, q4, q5, q6, q7, q8, q9, q10, q11, q12, q13, q14, q15, q16, q17, q18⟩, p⟩
  exact k m h tk S cw cm cr a b t u n o1 o2 o3 o4 rest q1 q2 q3 q4 q5 q6 q7 q8 q9 q10 q11 q12 q13 q14 q15 q16 q17 q18 p

theorem pool_a0 (x : Int) (c : Prop) [Decidable c] : 0 ≤ (if -1 - x > x then -1 - x else x) * (if c then 1 else 0) := by
  refine Int.mul_nonneg ?_ ?_
  · split <;> omega
  · split <;> decide
theorem fr_pin {g h : Heap} {L : Addr} {m : Str → Option Value} {n : Str} {v : Value} (F : Fr g L h m) (e : m n = some v) : Fr g L h (fun y => if y = n then some v else m y) := by
  refine fr_as F fun y => ?_
  by_cases q : y = n
  · rw [if_pos q, q, e]
  · rw [if_neg q]
theorem pick_int {vs : List Value} {ns : List Int} {i : Nat} {r : Value} (e : vs[i]? = some r) (h : IntsAre vs ns) : ∃ x t, r = .int x t ∧ x ∈ ns := by
  have hi : i < vs.length := (List.getElem?_eq_some_iff.mp e).1
  obtain ⟨t, q⟩ := int_at h (i := i) (by rw [← h.length]; exact hi)
  rw [e] at q
  cases q
  refine ⟨_, _, rfl, ?_⟩
  rw [List.getD_eq_getElem?_getD, List.getElem?_eq_getElem (by rw [← h.length]; exact hi)]
  exact List.getElem_mem _
theorem pick4 {a b c d : Int} {t1 t2 t3 t4 : Tok} {i : Nat} {r : Value} (e : ([.int a t1, .int b t2, .int c t3, .int d t4] : List Value)[i]? = some r) : ∃ x t, r = .int x t ∧ x ∈ [a, b, c, d] :=
  pick_int e (.cons _ _ (.cons _ _ (.cons _ _ (.cons _ _ .nil))))
theorem pick7 {a b c d f g h : Int} {t1 t2 t3 t4 t5 t6 t7 : Tok} {i : Nat} {r : Value} (e : ([.int a t1, .int b t2, .int c t3, .int d t4, .int f t5, .int g t6, .int h t7] : List Value)[i]? = some r) : ∃ x t, r = .int x t ∧ x ∈ [a, b, c, d, f, g, h] :=
  pick_int e (.cons _ _ (.cons _ _ (.cons _ _ (.cons _ _ (.cons _ _ (.cons _ _ (.cons _ _ .nil)))))))
theorem mem_strs {x : Str} {t : Tok} {vs : List Value} {ss : List Str} {r : Value} (k : r ∈ vs → ∃ y u, r = .str y u ∧ y ∈ ss) (h : r ∈ Value.str x t :: vs) : ∃ y u, r = .str y u ∧ y ∈ x :: ss := by
  rcases List.mem_cons.mp h with e | h
  · exact ⟨x, t, e, List.mem_cons_self⟩
  · obtain ⟨y, u, e, m⟩ := k h
    exact ⟨y, u, e, List.mem_cons_of_mem _ m⟩
theorem pickS {a b c d f g h : Str} {t1 t2 t3 t4 t5 t6 t7 : Tok} {i : Nat} {r : Value} (e : ([.str a t1, .str b t2, .str c t3, .str d t4, .str f t5, .str g t6, .str h t7] : List Value)[i]? = some r) : ∃ x t, r = .str x t ∧ x ∈ [a, b, c, d, f, g, h] :=
  mem_strs (mem_strs (mem_strs (mem_strs (mem_strs (mem_strs (mem_strs (ss := []) fun h => absurd h List.not_mem_nil)))))) (List.mem_of_getElem? e)
theorem sub_news {g h : Heap} {L : Addr} {led l : List (Addr × Obj)} (N : News g L h led) (hs : ∀ q ∈ l, q ∈ led) : News g L h l := fun q hq => N q (hs q hq)
theorem sub_cons {p : Addr × Obj} {l led : List (Addr × Obj)} (h : p ∈ led) (hs : ∀ q ∈ l, q ∈ led) : ∀ q ∈ p :: l, q ∈ led := List.forall_mem_cons.mpr ⟨h, hs⟩

section
variable {a b c d e f i s x1 x2 x3 x4 : Addr × Obj} {l : List (Addr × Obj)}
theorem perm4 : ∀ q ∈ b :: c :: d :: a :: l, q ∈ a :: b :: c :: d :: l := by
  repeat refine sub_cons (by repeat (first | exact List.mem_cons_self | refine List.mem_cons_of_mem _ ?_)) ?_
  exact fun q hq => by repeat (first | exact hq | refine List.mem_cons_of_mem _ ?_)
theorem perm4' : ∀ q ∈ a :: b :: c :: d :: l, q ∈ b :: c :: d :: a :: l := by
  repeat refine sub_cons (by repeat (first | exact List.mem_cons_self | refine List.mem_cons_of_mem _ ?_)) ?_
  exact fun q hq => by repeat (first | exact hq | refine List.mem_cons_of_mem _ ?_)
theorem perm9 : ∀ q ∈ i :: c :: d :: s :: x4 :: x3 :: x2 :: x1 :: e :: l, q ∈ e :: s :: i :: c :: d :: x4 :: x3 :: x2 :: x1 :: l := by
  repeat refine sub_cons (by repeat (first | exact List.mem_cons_self | refine List.mem_cons_of_mem _ ?_)) ?_
  exact fun q hq => by repeat (first | exact hq | refine List.mem_cons_of_mem _ ?_)
theorem perm6 : ∀ q ∈ s :: x4 :: x3 :: x2 :: x1 :: e :: l, q ∈ e :: s :: x4 :: x3 :: x2 :: x1 :: l := by
  repeat refine sub_cons (by repeat (first | exact List.mem_cons_self | refine List.mem_cons_of_mem _ ?_)) ?_
  exact fun q hq => by repeat (first | exact hq | refine List.mem_cons_of_mem _ ?_)
theorem sub7 : ∀ q ∈ s :: x4 :: x3 :: x2 :: x1 :: l, q ∈ e :: s :: f :: x4 :: x3 :: x2 :: x1 :: l := by
  repeat refine sub_cons (by repeat (first | exact List.mem_cons_self | refine List.mem_cons_of_mem _ ?_)) ?_
  exact fun q hq => by repeat (first | exact hq | refine List.mem_cons_of_mem _ ?_)
end
/-- two statements of law: the rows' list is being made -/
def JO (L S : Addr) (o1 o2 o3 o4 : Obj) (rest : List (Addr × Obj)) (W M : Int) (i : Nat) (ys : List Value) (nx : List (Addr × Obj)) : Prop :=
  ∃ a b t u n tl rws, nx = (S, src a b t u n) :: (L + 1 + 1 + 1 + 1, o4) :: (L + 1 + 1 + 1, o3) :: (L + 1 + 1, o2) :: (L + 1, o1) :: (tl ++ rest) ∧ 0 ≤ a ∧ 0 ≤ b ∧ b < 2147483647 ∧ (∀ p ∈ tl, p.1 ≠ S ∧ p.1 ≠ L + 1 + 1 + 1 + 1 ∧ p.1 ≠ L + 1 + 1 + 1 ∧ p.1 ≠ L + 1 + 1 ∧ p.1 ≠ L + 1) ∧
    RowVals tl ys rws ∧ rws.length = i ∧ (∀ r ∈ rws, r.length = W.toNat) ∧ ∀ r ∈ rws, ∀ c ∈ r, 0 ≤ c ∧ c < M
def JI (S : Addr) (base : List (Addr × Obj)) (M : Int) (j : Nat) (zs : List Value) (nx : List (Addr × Obj)) : Prop :=
  ∃ a b t u n ns, nx = (S, src a b t u n) :: base ∧ 0 ≤ a ∧ 0 ≤ b ∧ b < 2147483647 ∧ IntsAre zs ns ∧ ns.length = j ∧ ∀ c ∈ ns, 0 ≤ c ∧ c < M

local macro_rules | `(tactic| walk_at "eval ListComp") => `(tactic| (k_here; k_dflt (refine ListComp_J (F₀ := by k_asm) (by rfl) (by decide) (by rfl) (by decide) (by rfl) ?_)))
local macro_rules | `(tactic| k_mem) => `(tactic| first | assumption | exact List.mem_cons_self | (refine List.mem_cons_of_mem _ ?_; k_mem) | (refine Grows.sub (by assumption) _ ?_; k_mem))
local macro_rules | `(tactic| k_all) => `(tactic| first | assumption | exact List.forall_mem_nil _ | exact allLt_ne (by assumption) | exact off1_ne (by assumption) | (refine ne_cons ?a ?b; (case a => first | exact Ne.symm (by assumption) | assumption | k_ne); (case b => k_all)))
local macro_rules | `(tactic| walk_at "call ref") => `(tactic| ((fail_if_success (have := ‹PassTok›)); refine Halt.out ?_))

theorem ints_rep (n : Nat) (a : Int) (t : Tok) : IntsAre (List.replicate n [Value.int a t]).flatten (List.replicate n a) := by
  induction n with
  | zero => exact .nil
  | succ n ih =>
    rw [List.replicate_succ, List.replicate_succ, List.flatten_cons]
    exact .cons a t ih
theorem perm10 {e f i c d s x1 x2 x3 x4 : Addr × Obj} {l : List (Addr × Obj)} : ∀ q ∈ i :: c :: d :: s :: x4 :: x3 :: x2 :: x1 :: e :: l, q ∈ e :: f :: i :: c :: d :: s :: x4 :: x3 :: x2 :: x1 :: l := by
  repeat refine sub_cons (by repeat (first | exact List.mem_cons_self | refine List.mem_cons_of_mem _ ?_)) ?_
  exact fun q hq => by repeat (first | exact hq | refine List.mem_cons_of_mem _ ?_)
/-- one statement of law: rows all alike are being made -/
def JC (L S : Addr) (oS o1 o2 o3 o4 : Obj) (rest : List (Addr × Obj)) (W v : Int) (i : Nat) (ys : List Value) (nx : List (Addr × Obj)) : Prop :=
  ∃ tl, nx = (S, oS) :: (L + 1 + 1 + 1 + 1, o4) :: (L + 1 + 1 + 1, o3) :: (L + 1 + 1, o2) :: (L + 1, o1) :: (tl ++ rest) ∧ (∀ p ∈ tl, p.1 ≠ S ∧ p.1 ≠ L + 1 + 1 + 1 + 1 ∧ p.1 ≠ L + 1 + 1 + 1 ∧ p.1 ≠ L + 1 + 1 ∧ p.1 ≠ L + 1) ∧
    RowVals tl ys (List.replicate i (List.replicate W.toNat v))

local macro_rules | `(tactic| walk_at "subscriptTail Name Constant ref int") => `(tactic| ((fail_if_success (have := ‹PassTok›)); refine Halt.out ?_))
local macro_rules | `(tactic| walk_at "subscriptTail Subscript Name Constant Constant ref int") => `(tactic| ((fail_if_success (have := ‹PassTok›)); refine Halt.out ?_))
local macro_rules | `(tactic| walk_at "call builtin:len") => `(tactic| ((fail_if_success (have := ‹PassTok›)); refine Halt.out ?_))
/-- the rows are made -/
def RowsP (rest : List (Addr × Obj)) (cw cm cr : Option Value) (m : Str → Option Value) : Prop :=
  ∃ W H R rows tW tH, 0 < W ∧ W ≤ 4 ∧ 0 < H ∧ H ≤ 4 ∧ cw = some (.int W tW) ∧ cr = some (.ref R) ∧ m (Str.ofString "high") = some (.int H tH) ∧ RowsAt rest R rows ∧ rows.length = H.toNat ∧ (∀ r ∈ rows, r.length = W.toNat) ∧ ∀ r ∈ rows, ∀ c ∈ r, 0 ≤ c ∧ c < 65536
theorem RowsP_mk {rest : List (Addr × Obj)} {cw cm cr : Option Value} {m : Str → Option Value} {W : Int} {H : Int} {R : Addr} {rows : List (List Int)} {tW : Tok} {tH : Tok} (p0 : 0 < W) (p1 : W ≤ 4) (p2 : 0 < H) (p3 : H ≤ 4) (p4 : cw = some (.int W tW)) (p5 : cr = some (.ref R)) (p6 : m (Str.ofString "high") = some (.int H tH)) (p7 : RowsAt rest R rows) (p8 : rows.length = H.toNat) (p9 : (∀ r ∈ rows, r.length = W.toNat)) (p10 : ∀ r ∈ rows, ∀ c ∈ r, 0 ≤ c ∧ c < 65536) : RowsP rest cw cm cr m := ⟨W, H, R, rows, tW, tH, p0, p1, p2, p3, p4, p5, p6, p7, p8, p9, p10⟩
theorem RowsP_elim {rest : List (Addr × Obj)} {cw cm cr : Option Value} {m : Str → Option Value} {X : Prop} (h : RowsP rest cw cm cr m) (k : ∀ (W : Int) (H : Int) (R : Addr) (rows : List (List Int)) (tW : Tok) (tH : Tok), (0 < W) → (W ≤ 4) → (0 < H) → (H ≤ 4) → (cw = some (.int W tW)) → (cr = some (.ref R)) → (m (Str.ofString "high") = some (.int H tH)) → (RowsAt rest R rows) → (rows.length = H.toNat) → ((∀ r ∈ rows, r.length = W.toNat)) → (∀ r ∈ rows, ∀ c ∈ r, 0 ≤ c ∧ c < 65536) → X) : X := by
  obtain ⟨W, H, R, rows, tW, tH, p0, p1, p2, p3, p4, p5, p6, p7, p8, p9, p10⟩ := h
  exact k W H R rows tW tH p0 p1 p2 p3 p4 p5 p6 p7 p8 p9 p10

def ShareP (rest : List (Addr × Obj)) (cw cm cr : Option Value) (m : Str → Option Value) : Prop := RowsP rest cw cm cr m ∧ ∃ sh t, 0 ≤ sh ∧ sh ≤ 100 ∧ m (Str.ofString "share") = some (.int sh t)
def PlaneP (w : World) (rest : List (Addr × Obj)) (cw cm cr : Option Value) (m : Str → Option Value) : Prop :=
  ∃ W H R rows tW tH sh tS P B, cw = some (.int W tW) ∧ cr = some (.ref R) ∧ m (Str.ofString "high") = some (.int H tH) ∧ 0 ≤ sh ∧ sh ≤ 100 ∧ m (Str.ofString "share") = some (.int sh tS) ∧ m (Str.ofString "plane") = some (.ref P) ∧ m (Str.ofString "before") = some (.ref B) ∧ Pl w.params rest P W H R rows ∧ RowsAt rest B rows
theorem PlaneP_mk {w : World} {rest : List (Addr × Obj)} {cw cm cr : Option Value} {m : Str → Option Value} {W : Int} {H : Int} {R : Addr} {rows : List (List Int)} {tW : Tok} {tH : Tok} {sh : Int} {tS : Tok} {P : Addr} {B : Addr} (p0 : cw = some (.int W tW)) (p1 : cr = some (.ref R)) (p2 : m (Str.ofString "high") = some (.int H tH)) (p3 : 0 ≤ sh) (p4 : sh ≤ 100) (p5 : m (Str.ofString "share") = some (.int sh tS)) (p6 : m (Str.ofString "plane") = some (.ref P)) (p7 : m (Str.ofString "before") = some (.ref B)) (p8 : Pl w.params rest P W H R rows) (p9 : RowsAt rest B rows) : PlaneP w rest cw cm cr m := ⟨W, H, R, rows, tW, tH, sh, tS, P, B, p0, p1, p2, p3, p4, p5, p6, p7, p8, p9⟩
theorem PlaneP_elim {w : World} {rest : List (Addr × Obj)} {cw cm cr : Option Value} {m : Str → Option Value} {X : Prop} (h : PlaneP w rest cw cm cr m) (k : ∀ (W : Int) (H : Int) (R : Addr) (rows : List (List Int)) (tW : Tok) (tH : Tok) (sh : Int) (tS : Tok) (P : Addr) (B : Addr), (cw = some (.int W tW)) → (cr = some (.ref R)) → (m (Str.ofString "high") = some (.int H tH)) → (0 ≤ sh) → (sh ≤ 100) → (m (Str.ofString "share") = some (.int sh tS)) → (m (Str.ofString "plane") = some (.ref P)) → (m (Str.ofString "before") = some (.ref B)) → (Pl w.params rest P W H R rows) → (RowsAt rest B rows) → X) : X := by
  obtain ⟨W, H, R, rows, tW, tH, sh, tS, P, B, p0, p1, p2, p3, p4, p5, p6, p7, p8, p9⟩ := h
  exact k W H R rows tW tH sh tS P B p0 p1 p2 p3 p4 p5 p6 p7 p8 p9

theorem rest_kind {q s x1 x2 x3 x4 : Addr × Obj} {l : List (Addr × Obj)} (hq : q ∈ s :: x4 :: x3 :: x2 :: x1 :: l) (n0 : q ≠ s) (n4 : q ≠ x4) (n3 : q ≠ x3) (n2 : q ≠ x2) (n1 : q ≠ x1) : q ∈ l := by
  simp only [List.mem_cons] at hq
  rcases hq with h | h | h | h | h | h
  · exact absurd h n0
  · exact absurd h n4
  · exact absurd h n3
  · exact absurd h n2
  · exact absurd h n1
  · exact h
theorem rest_addr {q s x1 x2 x3 x4 : Addr × Obj} {l : List (Addr × Obj)} (hq : q ∈ s :: x4 :: x3 :: x2 :: x1 :: l) (n0 : q.1 ≠ s.1) (n4 : q.1 ≠ x4.1) (n3 : q.1 ≠ x3.1) (n2 : q.1 ≠ x2.1) (n1 : q.1 ≠ x1.1) : q ∈ l :=
  rest_kind hq (fun e => n0 (by rw [e])) (fun e => n4 (by rw [e])) (fun e => n3 (by rw [e])) (fun e => n2 (by rw [e])) (fun e => n1 (by rw [e]))
theorem plane_rest {P : Params} {S A1 A2 A3 A4 p b' : Addr} {a b : Int} {t u : Tok} {n : Nat} {o1 o2 o3 o4 : Obj} {v1 v2 v3 v4 : Option Value} {l : List (Addr × Obj)} {W H : Int} (h : PlaneAt P ((S, src a b t u n) :: (A4, o4) :: (A3, o3) :: (A2, o2) :: (A1, o1) :: l) p W H b')
    (c1 : o1.data = .cell v1) (c2 : o2.data = .cell v2) (c3 : o3.data = .cell v3) (c4 : o4.data = .cell v4) : PlaneAt P l p W H b' := by
  obtain ⟨dx, t1, t2, t3, u1, u2, k, m1, m2⟩ := h
  have k1 : ∀ {A : Addr} {o : Obj} {v : Option Value}, o.data = .cell v → (p, instObj 84 dx) ≠ (A, o) := by
    intro A o v c e
    have e3 := (congrArg (fun z => z.2.data) e).trans c
    exact Data.noConfusion e3
  have k2 : ∀ {A : Addr} {o : Obj} {v : Option Value} {q : Addr} {es : List DictEntry}, o.data = .cell v → (q, PySem.W.dictOf es k) ≠ (A, o) := by
    intro A o v q es c e
    have e3 := (congrArg (fun z => z.2.data) e).trans c
    exact Data.noConfusion e3
  refine ⟨dx, t1, t2, t3, u1, u2, k, rest_kind m1 (fun e => ?_) (k1 c4) (k1 c3) (k1 c2) (k1 c1), rest_kind m2 (fun e => ?_) (k2 c4) (k2 c3) (k2 c2) (k2 c1)⟩
  · have e3 := congrArg (fun z => z.2.data) e
    exact Data.noConfusion e3
  · have e3 := congrArg (fun z => z.2.data) e
    exact Data.noConfusion e3

theorem permT {s x1 x2 x3 x4 : Addr × Obj} {tl l : List (Addr × Obj)} : ∀ q ∈ s :: x4 :: x3 :: x2 :: x1 :: (tl ++ l), q ∈ tl ++ (s :: x4 :: x3 :: x2 :: x1 :: l) := by
  repeat refine sub_cons (List.mem_append_right _ (by repeat (first | exact List.mem_cons_self | refine List.mem_cons_of_mem _ ?_))) ?_
  exact fun q hq => (List.mem_append.mp hq).elim (List.mem_append_left _) fun h => List.mem_append_right _ (by repeat (first | exact h | refine List.mem_cons_of_mem _ ?_))
theorem permT' {s x1 x2 x3 x4 : Addr × Obj} {tl l : List (Addr × Obj)} : ∀ q ∈ tl ++ (s :: x4 :: x3 :: x2 :: x1 :: l), q ∈ s :: x4 :: x3 :: x2 :: x1 :: (tl ++ l) := by
  have k : ∀ q ∈ s :: x4 :: x3 :: x2 :: x1 :: l, q ∈ s :: x4 :: x3 :: x2 :: x1 :: (tl ++ l) := by
    repeat refine sub_cons (by repeat (first | exact List.mem_cons_self | refine List.mem_cons_of_mem _ ?_)) ?_
    exact fun q hq => by repeat (first | exact List.mem_append_right _ hq | refine List.mem_cons_of_mem _ ?_)
  exact fun q hq => (List.mem_append.mp hq).elim (fun h => by repeat (first | exact List.mem_append_left _ h | refine List.mem_cons_of_mem _ ?_)) (k q)
theorem permD {d s x1 x2 x3 x4 : Addr × Obj} {tl l : List (Addr × Obj)} : ∀ q ∈ s :: x4 :: x3 :: x2 :: x1 :: l, q ∈ d :: s :: x4 :: x3 :: x2 :: x1 :: (tl ++ l) := by
  repeat refine sub_cons (by repeat (first | exact List.mem_cons_self | refine List.mem_cons_of_mem _ ?_)) ?_
  exact fun q hq => by repeat (first | exact List.mem_append_right _ hq | refine List.mem_cons_of_mem _ ?_)
/-- one statement of law: rows are being copied -/
def JB (base : List (Addr × Obj)) (rows : List (List Int)) (i : Nat) (ys : List Value) (nx : List (Addr × Obj)) : Prop :=
  ∃ tl, nx = tl ++ base ∧ (∀ p ∈ tl, ∀ q ∈ base, p.1 ≠ q.1) ∧ RowVals tl ys (rows.take i)
theorem grows_law {s x1 x2 x3 x4 : Addr × Obj} {rest nx : List (Addr × Obj)} (h : Grows (s :: x4 :: x3 :: x2 :: x1 :: rest) nx) : ∃ tl, (∀ q ∈ s :: x4 :: x3 :: x2 :: x1 :: (tl ++ rest), q ∈ nx) ∧ (∀ q ∈ nx, q ∈ s :: x4 :: x3 :: x2 :: x1 :: (tl ++ rest)) ∧ ∀ p ∈ tl, p.1 ≠ s.1 ∧ p.1 ≠ x4.1 ∧ p.1 ≠ x3.1 ∧ p.1 ≠ x2.1 ∧ p.1 ≠ x1.1 := by
  obtain ⟨tl, rfl, ht⟩ := h
  refine ⟨tl, fun q hq => ?_, fun q hq => ?_, fun p hp => ⟨ht p hp _ (.head _), ht p hp _ (.tail _ (.head _)), ht p hp _ (.tail _ (.tail _ (.head _))), ht p hp _ (.tail _ (.tail _ (.tail _ (.head _)))), ht p hp _ (.tail _ (.tail _ (.tail _ (.tail _ (.head _)))))⟩⟩
  · exact permT q hq
  · exact permT' q hq
theorem sub7' {e f s x1 x2 x3 x4 : Addr × Obj} {l : List (Addr × Obj)} : ∀ q ∈ s :: x4 :: x3 :: x2 :: x1 :: l, q ∈ s :: f :: x4 :: x3 :: x2 :: x1 :: l := by
  repeat refine sub_cons (by repeat (first | exact List.mem_cons_self | refine List.mem_cons_of_mem _ ?_)) ?_
  exact fun q hq => by repeat (first | exact hq | refine List.mem_cons_of_mem _ ?_)


def FoundP (w : World) (rest : List (Addr × Obj)) (cw cm cr : Option Value) (m : Str → Option Value) : Prop :=
  ∃ W H R rows tW tH sh tS P B F C, cw = some (.int W tW) ∧ cr = some (.ref R) ∧ m (Str.ofString "high") = some (.int H tH) ∧ 0 ≤ sh ∧ sh ≤ 100 ∧ m (Str.ofString "share") = some (.int sh tS) ∧ m (Str.ofString "plane") = some (.ref P) ∧ m (Str.ofString "before") = some (.ref B) ∧ m (Str.ofString "found") = some (.ref F) ∧ Pl w.params rest P W H R rows ∧ RowsAt rest B rows ∧
    Pl w.params rest F W H C (smoothRows (at2 rows W H) W H sh)
theorem FoundP_mk {w : World} {rest : List (Addr × Obj)} {cw cm cr : Option Value} {m : Str → Option Value} {W : Int} {H : Int} {R : Addr} {rows : List (List Int)} {tW : Tok} {tH : Tok} {sh : Int} {tS : Tok} {P : Addr} {B : Addr} {F : Addr} {C : Addr} (p0 : cw = some (.int W tW)) (p1 : cr = some (.ref R)) (p2 : m (Str.ofString "high") = some (.int H tH)) (p3 : 0 ≤ sh) (p4 : sh ≤ 100) (p5 : m (Str.ofString "share") = some (.int sh tS)) (p6 : m (Str.ofString "plane") = some (.ref P)) (p7 : m (Str.ofString "before") = some (.ref B)) (p8 : m (Str.ofString "found") = some (.ref F)) (p9 : Pl w.params rest P W H R rows) (p10 : RowsAt rest B rows) (p11 : Pl w.params rest F W H C (smoothRows (at2 rows W H) W H sh)) : FoundP w rest cw cm cr m := ⟨W, H, R, rows, tW, tH, sh, tS, P, B, F, C, p0, p1, p2, p3, p4, p5, p6, p7, p8, p9, p10, p11⟩
theorem FoundP_elim {w : World} {rest : List (Addr × Obj)} {cw cm cr : Option Value} {m : Str → Option Value} {X : Prop} (h : FoundP w rest cw cm cr m) (k : ∀ (W : Int) (H : Int) (R : Addr) (rows : List (List Int)) (tW : Tok) (tH : Tok) (sh : Int) (tS : Tok) (P : Addr) (B : Addr) (F : Addr) (C : Addr), (cw = some (.int W tW)) → (cr = some (.ref R)) → (m (Str.ofString "high") = some (.int H tH)) → (0 ≤ sh) → (sh ≤ 100) → (m (Str.ofString "share") = some (.int sh tS)) → (m (Str.ofString "plane") = some (.ref P)) → (m (Str.ofString "before") = some (.ref B)) → (m (Str.ofString "found") = some (.ref F)) → (Pl w.params rest P W H R rows) → (RowsAt rest B rows) → (Pl w.params rest F W H C (smoothRows (at2 rows W H) W H sh)) → X) : X := by
  obtain ⟨W, H, R, rows, tW, tH, sh, tS, P, B, F, C, p0, p1, p2, p3, p4, p5, p6, p7, p8, p9, p10, p11⟩ := h
  exact k W H R rows tW tH sh tS P B F C p0 p1 p2 p3 p4 p5 p6 p7 p8 p9 p10 p11
def WordP (w : World) (rest : List (Addr × Obj)) (cw cm cr : Option Value) (m : Str → Option Value) : Prop := FoundP w rest cw cm cr m ∧ ∃ word t, word ∈ words7 ∧ m (Str.ofString "word") = some (.str word t)


local macro_rules | `(tactic| walk_at "compareOp NotEq ref ref") => `(tactic| ((fail_if_success (have := ‹PassTok›)); refine Halt.out ?_))

theorem right_con' {w : World} {mean : ExcName → Option Value} {mg mb : Str → Option Value} (news sub sub2 : List (Addr × Obj)) (R R2 : Addr) (W H : Int) (rows rows2 : List (List Int)) (sh : Int) (t : Tok)
    (hr : RowsAt sub R rows) (hr2 : RowsAt sub2 R2 rows2) (hs : ∀ q ∈ sub, q ∈ news) (hs2 : ∀ q ∈ sub2, q ∈ news) (e2 : rows2 = smoothRows (at2 rows W H) W H sh) (hl : rows.length = H.toNat) (h0 : 0 < H) (w0 : 0 < W) (wl : ∀ r ∈ rows, r.length = W.toNat) (h4 : H ≤ 4) (w4 : W ≤ 4)
    (hc : ∀ r ∈ rows, ∀ c ∈ r, 0 ≤ c ∧ c < 65536) (hf : ∀ x y, 0 ≤ at2 rows W H x y ∧ at2 rows W H x y < 65536) (s0 : 0 ≤ sh) (s1 : sh ≤ 100) :
    Con w mean mg mb 12 154 [.ref R, .ref R2, .int sh t] news (fun r news' => r = .bool true ∧ Grows news news') := right_con news R R2 W H rows rows2 sh t (hr.mono hs) (hr2.mono hs2) e2 hl h0 w0 wl h4 w4 hc hf s0 s1

local macro_rules | `(tactic| walk_at "compareOp Eq ref ref") => `(tactic| ((fail_if_success (have := ‹PassTok›)); refine Halt.out ?_))

theorem law_end {cl : Str → Option Addr} {mean : ExcName → Option Value} {args : List WData} {s₁ s' : Shared} {L : Addr} {m : Str → Option Value} (F : Fr s₁.heap L s'.heap m) (hg : s'.gens = #[]) (hos : s'.os = s₁.os) :
    GoodW PySem.Challenge.rw_nz0239_01.row.claim cl mean args s₁ (.ok (.ret (.bool true))) s' := by
  w_on
  refine goodW_bool F hg (raisesW_false ?_) ?_ hos
  · wrow_none_raised
  · wrow_post

theorem lawT : PySem.Challenge.rw_nz0239_01.Holds := by
  exact hd (by
    w_on
    k_go0
    all_goals (try k_fold)
    rename Shared => sQ
    rename World => wQ
    refine wpAny_execs_cons ?_
    rename Fr _ _ _ _ => F0
    refine cut_law F0 (fun _ _ _ _ _ => True) ?_ ?_
    · ((repeat' (first | ((with_reducible refine Halt.mk ?_); first | (safely (with_reducible (k_here; (with_reducible show wpAny _ _ (call (Value.ref 105) [Value.ref _, Value.int _ _]) _ _ _); (rename Pl _ _ _ _ _ _ (turned _ _ _) => hT9zq); k_dflt (refine' smoothed_con _ _ _ _ _ _ _ _ hT9zq ?kazq ?kbzq _ _ _ _ _ _ _ _ _ _ _ _ _ _ _ _ _ ?k1zq ?k2zq ?k3zq ?k4zq ?k5zq ?kKzq ?kdzq ?kuzq ?_; (case k1zq => k_asm); (case k2zq => k_asm); (case k3zq => k_asm); (case k4zq => k_asm); (case k5zq => k_asm); (case kazq => assumption); (case kbzq => assumption); (case kKzq => first | exact rfl | assumption); (case kdzq => ktr_room); (case kuzq => ktr_units)); (intro r9zq news9zq h9zq tk9zq F9zq N9zq hOzq; obtain ⟨q9zq, c9zq, tl9zq, e2zq, -, hG9zq, hP9zq, -⟩ := hOzq; subst e2zq); (with_unfolding_all (have hS9zq := hP9zq.rs; have hA9zq := hP9zq.pl; obtain ⟨dx9zq, w1zq, w2zq, w3zq, w4zq, w5zq, n9zq, hp1zq, hp2zq⟩ := hA9zq)); ((try dsimp only); (try k_fold))))) | (safely (with_reducible (k_here; (with_reducible show wpAny _ _ (call (Value.ref 100) [Value.ref _, Value.str _ _]) _ _ _); k_dflt (refine' turned_con _ _ _ _ _ _ _ _ ?khzq ?kwzq _ _ _ _ _ _ _ _ _ _ _ _ _ _ _ _ _ ?k1zq ?k2zq ?k3zq ?k4zq ?k5zq ?kKzq ?kdzq ?kuzq ?_; (case k1zq => k_asm); (case k2zq => k_asm); (case k3zq => k_asm); (case k4zq => k_asm); (case k5zq => k_asm); (case khzq => refine Pl.mono (by assumption) ?_; intro q9zq hq9zq; (repeat (first | exact hq9zq | refine List.mem_cons_of_mem _ ?_ | refine Grows.sub (by assumption) _ ?_))); (case kwzq => assumption); (case kKzq => first | exact rfl | assumption); (case kdzq => ktr_room); (case kuzq => ktr_units)); (intro r9zq news9zq h9zq tk9zq F9zq N9zq hOzq; obtain ⟨q9zq, c9zq, e2zq, hG9zq, hP9zq⟩ := hOzq; subst e2zq); (with_unfolding_all (have hS9zq := hP9zq.rs; have hA9zq := hP9zq.pl; obtain ⟨dx9zq, w1zq, w2zq, w3zq, w4zq, w5zq, n9zq, hp1zq, hp2zq⟩ := hA9zq)); ((try dsimp only); (try k_fold))))) | (safely (with_reducible (k_here; (with_reducible show wpAny _ _ (compareOp CmpOp.Eq (Value.ref _) (Value.ref _)) _ _ _); k_dflt (refine' rows_eq ?Nzq ?azq ?bzq ?czq ?dzq ?uzq ?_; (case Nzq => k_asm); (case azq => assumption); (case czq => assumption); (case bzq => intro q9zq hq9zq; (repeat (first | exact hq9zq | refine List.mem_cons_of_mem _ ?_ | refine List.mem_append.mpr (.inr ?_) | refine Grows.sub (by assumption) _ ?_))); (case dzq => first | exact fun q9zq hq9zq => hq9zq | (intro q9zq hq9zq; (repeat (first | exact hq9zq | refine List.mem_cons_of_mem _ ?_ | refine List.mem_append.mpr (.inr ?_) | refine Grows.sub (by assumption) _ ?_))) | assumption); (case uzq => ktr_units))))) | (safely (with_reducible (k_here; (with_reducible show wpAny _ _ (call (Value.ref 154) [Value.ref _, Value.ref _, Value.int _ _]) _ _ _); k_dflt (refine' right_con' _ _ _ _ _ _ _ _ _ _ _ ?h1zq ?h2zq ?hszq ?htzq ?h3zq ?h4zq ?h5zq ?h6zq ?h7zq ?h8zq ?h9zq ?hazq ?hbzq ?hczq ?hezq _ _ _ _ _ _ _ _ _ _ _ _ _ _ _ _ _ ?k1zq ?k2zq ?k3zq ?k4zq ?k5zq ?kKzq ?kdzq ?kuzq ?_; (case k1zq => k_asm); (case k2zq => k_asm); (case k3zq => k_asm); (case k4zq => k_asm); (case k5zq => k_asm); (case h1zq => assumption); (case h2zq => assumption); (case hszq => intro q9zq hq9zq; (repeat (first | exact hq9zq | refine List.mem_cons_of_mem _ ?_))); (case htzq => intro q9zq hq9zq; (repeat (first | exact hq9zq | refine List.mem_cons_of_mem _ ?_))); (case h4zq => assumption); (case hbzq => assumption); (case h5zq => assumption); (case h6zq => assumption); (case h3zq => exact rfl); (case h7zq => assumption); (case h8zq => assumption); (case h9zq => assumption); (case hazq => assumption); (case hczq => assumption); (case hezq => assumption); (case kKzq => first | exact rfl | assumption); (case kdzq => ktr_room); (case kuzq => ktr_units)); (intro r9zq news9zq h9zq tk9zq F9zq N9zq hOzq; obtain ⟨e2zq, hG9zq⟩ := hOzq; subst e2zq; (try dsimp only); (try k_fold))))) | (safely (with_reducible (k_here; (with_reducible show wpAny _ _ (compareOp CmpOp.NotEq (Value.ref _) (Value.ref _)) _ _ _); k_dflt (first | (refine' ne_three ?Nzq ?azq ?bzq ?czq ?dzq ?ezq ?fzq ?uzq ?_; (case Nzq => k_asm); (case azq => k_mem); (case bzq => k_mem); (case czq => rfl); (case dzq => rfl); (case ezq => rfl); (case fzq => rfl); (case uzq => ktr_units)) | (refine' rows_ne ?Nzq ?azq ?bzq ?czq ?dzq ?uzq ?_; (case Nzq => k_asm); (case azq => assumption); (case czq => assumption); (case bzq => intro q9zq hq9zq; k_mem); (case dzq => intro q9zq hq9zq; k_mem); (case uzq => ktr_units))); (try simp only [eq_self, decide_true, Bool.not_true])))) | (safely (with_reducible (k_here; (with_reducible show wpAny _ _ (call (Value.ref 105) [Value.ref _, Value.int _ _]) _ _ _); k_dflt (refine' smoothed_con _ _ _ _ _ _ _ _ ?khzq ?kazq ?kbzq _ _ _ _ _ _ _ _ _ _ _ _ _ _ _ _ _ ?k1zq ?k2zq ?k3zq ?k4zq ?k5zq ?kKzq ?kdzq ?kuzq ?_; (case k1zq => k_asm); (case k2zq => k_asm); (case k3zq => k_asm); (case k4zq => k_asm); (case k5zq => k_asm); (case khzq => refine Pl.mono (by assumption) ?_; intro q9zq hq9zq; (repeat (first | assumption | refine List.mem_cons_of_mem _ ?_ | refine Grows.sub (by assumption) _ ?_))); (case kazq => assumption); (case kbzq => assumption); (case kKzq => first | exact rfl | assumption); (case kdzq => ktr_room); (case kuzq => ktr_units)); (intro r9zq news9zq h9zq tk9zq F9zq N9zq hOzq; obtain ⟨q9zq, c9zq, tl9zq, e2zq, etl9zq, hG9zq, hP9zq, hR9zq⟩ := hOzq; subst e2zq; (try dsimp only); (try k_fold))))) | (safely (with_reducible (k_here; (with_reducible show wpAny _ _ (call (Value.ref 161) [Value.ref _, Value.int _ _]) _ _ _); k_dflt (refine' refused_con _ _ _ _ ?khzq _ _ _ _ _ _ _ _ _ _ _ _ _ _ _ ?k1zq ?k2zq ?k3zq ?k4zq ?k5zq ?kKzq ?kdzq ?kuzq ?_; (case k1zq => k_asm); (case k2zq => k_asm); (case k3zq => k_asm); (case k4zq => k_asm); (case k5zq => k_asm); (case khzq => first | exact .inl (by omega) | exact .inr (by omega)); (case kKzq => first | exact rfl | assumption); (case kdzq => ktr_room); (case kuzq => ktr_units)); (intro r9zq news9zq h9zq tk9zq F9zq N9zq hOzq; obtain ⟨e2zq, e1zq⟩ := hOzq; rw [e1zq] at N9zq; clear e1zq; subst e2zq; (try dsimp only); (try k_fold))))) | (safely (with_reducible (k_here; (with_reducible show wpAny _ _ (call (Value.ref 84) [Value.int _ _, Value.int _ _, Value.ref _]) _ _ _); k_dflt (refine' plane_con _ _ _ _ _ _ _ _ _ _ _ _ _ _ _ _ _ _ _ _ _ _ _ ?k1zq ?k2zq ?k3zq ?k4zq ?k5zq ?kKzq ?kdzq ?kuzq ?_; (case k1zq => k_asm); (case k2zq => k_asm); (case k3zq => k_asm); (case k4zq => k_asm); (case k5zq => k_asm); (case kKzq => first | exact rfl | assumption); (case kdzq => ktr_room); (case kuzq => ktr_units)); (intro r9zq news9zq h9zq tk9zq F9zq N9zq hOzq; obtain ⟨q9zq, e2zq, hG9zq, hP9zq⟩ := hOzq; subst e2zq; (try dsimp only); (try k_fold))))) | (safely (with_reducible (k_here; (with_reducible show wpAny _ _ (call (Value.builtin "len") [Value.ref _]) _ _ _); k_dflt (refine' len_led ?Nzq ?mzq ?ezq ?azq ?bzq ?_; (case Nzq => k_asm); (case mzq => k_mem); (case ezq => assumption); (case azq => assumption); (case bzq => assumption))))) | (safely (with_reducible (k_here; (with_reducible show wpAny _ _ (subscriptTail (PySem.Expr.Subscript _ _ _) (PySem.Expr.Constant _ _ _) (Value.ref _) (Value.int _ _)) _ _ _); (with_unfolding_all refine' int_itemB ?Nzq ?mzq ?izq ?dzq ?ezq ?azq ?bzq ?czq ?_ ?szq; (case izq => with_reducible assumption); (case Nzq => with_reducible assumption); (case mzq => (repeat (first | with_reducible assumption | refine List.mem_cons_of_mem _ ?_ | refine List.mem_append.mpr (.inr ?_)))); (case dzq => with_reducible assumption); (case ezq => with_reducible assumption); (case azq => omega); (case bzq => omega); (case czq => omega); (case szq => with_unfolding_all rfl)); k_whole; intro t9zq a9zq ea9zq la9zq lb9zq))) | (safely (with_reducible (k_here; (with_reducible show wpAny _ _ (subscriptTail (PySem.Expr.Name _ _) (PySem.Expr.Constant _ _ _) (Value.ref _) (Value.int _ _)) _ _ _); (with_unfolding_all refine' row_itemB ?Nzq ?mzq ?zzq ?dzq ?ezq ?azq ?bzq ?czq ?_ ?szq; (case Nzq => with_reducible assumption); (case mzq => with_reducible assumption); (case dzq => with_reducible assumption); (case ezq => with_reducible assumption); (case zzq => intro q9zq hq9zq; (repeat (first | exact hq9zq | refine List.mem_cons_of_mem _ ?_ | refine List.mem_append.mpr (.inr ?_)))); (case azq => omega); (case bzq => omega); (case czq => omega); (case szq => with_unfolding_all rfl)); k_whole; intro c9zq us9zq n9zq hm9zq hi9zq hu9zq hl9zq hc9zq))) | (safely (with_reducible (k_here; (with_reducible show wpAny _ _ (call (Value.ref 133) [Value.ref _, Value.ref _]) _ _ _); k_dflt (refine' one_con _ _ _ _ _ _ _ _ _ _ _ ?kszq ?knzq ?klzq ?kvzq ?kwzq ?kazq ?kbzq ?kczq _ _ _ _ _ _ _ _ _ _ _ _ _ _ _ _ _ ?k1zq ?k2zq ?k3zq ?k4zq ?k5zq ?kKzq ?kdzq ?kuzq ?_; (case k1zq => k_asm); (case k2zq => k_asm); (case k3zq => k_asm); (case k4zq => k_asm); (case k5zq => k_asm); (case kszq => first | exact SplitL.here | exact SplitL.there .here | exact SplitL.there (.there .here) | exact SplitL.there (.there (.there .here)) | exact SplitL.there (.there (.there (.there .here))) | exact SplitL.there (.there (.there (.there (.there .here)))) | exact SplitL.there (.there (.there (.there (.there (.there .here))))) | exact SplitL.there (.there (.there (.there (.there (.there (.there .here))))))); (case knzq => k_all); (case klzq => k_mem); (case kvzq => exact Nat.zero_lt_succ _); (case kwzq => exact Nat.le_of_ble_eq_true rfl); (case kazq => assumption); (case kbzq => assumption); (case kczq => assumption); (case kKzq => first | exact rfl | assumption); (case kdzq => ktr_room); (case kuzq => ktr_units)); (intro r9zq news9zq h9zq tk9zq F9zq N9zq hOzq; obtain ⟨i9zq, a9zq, b9zq, t9zq, u9zq, n9zq, e2zq, a90zq, b90zq, b91zq, e1zq⟩ := hOzq; rw [e1zq] at N9zq; clear e1zq; (first | (have hp9zq := pick4 e2zq) | (have hp9zq := pick7 e2zq) | (have hp9zq := pickS e2zq)); obtain ⟨x9zq, tx9zq, ex9zq, hx9zq⟩ := hp9zq; clear e2zq; subst ex9zq; (try dsimp only); (try k_fold))))) | (safely (with_reducible (k_here; (with_reducible show wpAny _ _ (call (Value.ref 126) [Value.ref _, Value.int _ _]) _ _ _); k_dflt (refine' take_con _ _ _ _ _ _ _ _ _ _ ?kszq ?knzq ?kazq ?kbzq ?kczq ?ktzq ?kpzq _ _ _ _ _ _ _ _ _ _ _ _ _ _ _ _ _ ?k1zq ?k2zq ?k3zq ?k4zq ?k5zq ?kKzq ?kdzq ?kuzq ?_; (case k1zq => k_asm); (case k2zq => k_asm); (case k3zq => k_asm); (case k4zq => k_asm); (case k5zq => k_asm); (case kszq => first | exact SplitL.here | exact SplitL.there .here | exact SplitL.there (.there .here) | exact SplitL.there (.there (.there .here)) | exact SplitL.there (.there (.there (.there .here))) | exact SplitL.there (.there (.there (.there (.there .here)))) | exact SplitL.there (.there (.there (.there (.there (.there .here))))) | exact SplitL.there (.there (.there (.there (.there (.there (.there .here))))))); (case knzq => k_all); (case kazq => assumption); (case kbzq => assumption); (case kczq => assumption); (case ktzq => first | decide | assumption | omega); (case kpzq => first | decide | assumption | omega); (case kKzq => first | exact rfl | assumption); (case kdzq => ktr_room); (case kuzq => ktr_units)); (intro r9zq news9zq h9zq tk9zq F9zq N9zq hOzq; obtain ⟨d9zq, td9zq, a9zq, b9zq, t9zq, u9zq, n9zq, e2zq, d0zq, d1zq, a90zq, b90zq, b91zq, e1zq⟩ := hOzq; rw [e1zq] at N9zq; clear e1zq; subst e2zq; (try dsimp only); (try k_fold))))) | (have tokzq : PassTok := PassTok.mk; walk1 <;> (try clear tokzq))) | (k_unfold; (try dsimp only)) | (k_end; wrow_close) | walk1 | (dsimp only; walk1) | (leave1; walk_say "STEP leave1"; try dsimp only) | fail "no step")); (all_goals (try (with_reducible refine Halt.mk ?_))))
      · trivial
      · rename Fr _ _ _ _ => lF'
        rename News _ _ _ _ => lN'
        rename (@LT.lt Nat _ _ _ ∧ _) => lo
        refine LSx_mk (rest := []) lF' lN' (by assumption) (by assumption) (by assumption) (by assumption) ?_ ?_ ?_ (Nat.ne_of_gt lo.2.2.2) (Nat.ne_of_gt lo.2.2.1) (Nat.ne_of_gt lo.2.1) (Nat.ne_of_gt lo.1) ?_ ?_ ?_ ?_ ?_ trivial
        · exact pool_a0 _ _
        · exact Int.fmod_nonneg_of_pos _ (by decide)
        · exact Int.fmod_lt_of_pos _ (by decide)
        all_goals exact fun _ h => nomatch h
      · trivial
      · rename Fr _ _ _ _ => lF'
        rename News _ _ _ _ => lN'
        rename (@LT.lt Nat _ _ _ ∧ _) => lo
        refine LSx_mk (rest := []) lF' lN' (by assumption) (by assumption) (by assumption) (by assumption) ?_ ?_ ?_ (Nat.ne_of_gt lo.2.2.2) (Nat.ne_of_gt lo.2.2.1) (Nat.ne_of_gt lo.2.1) (Nat.ne_of_gt lo.1) ?_ ?_ ?_ ?_ ?_ trivial
        · exact pool_a0 _ _
        · exact Int.fmod_nonneg_of_pos _ (by decide)
        · exact Int.fmod_lt_of_pos _ (by decide)
        all_goals exact fun _ h => nomatch h
    · rename News _ _ _ _ => N0
      rename CellsAre _ _ _ => X0
      rintro m1 h1 tk1 S cw cm cr a1 b1 t1 u1 n1 o1 o2 o3 o4 rest F1 N1 c1 c2 c3 c4 a0 b0 b1' s1' s2' s3' s4' rS r1 r2 r3 r4 -
      clear N0 X0 F0
      dsimp only
      refine wpAny_execs_cons ?_
      refine cut_law F1 (fun rest cw cm cr m => ∃ W H M tW tH tM, 0 < W ∧ W ≤ 4 ∧ 0 < H ∧ H ≤ 4 ∧ 0 < M ∧ M ≤ 65536 ∧ cw = some (.int W tW) ∧ cm = some (.int M tM) ∧ m (Str.ofString "high") = some (.int H tH)) ?_ ?_
      · ((repeat' (first | ((with_reducible refine Halt.mk ?_); first | (safely (with_reducible (k_here; (with_reducible show wpAny _ _ (call (Value.ref 105) [Value.ref _, Value.int _ _]) _ _ _); (rename Pl _ _ _ _ _ _ (turned _ _ _) => hT9zq); k_dflt (refine' smoothed_con _ _ _ _ _ _ _ _ hT9zq ?kazq ?kbzq _ _ _ _ _ _ _ _ _ _ _ _ _ _ _ _ _ ?k1zq ?k2zq ?k3zq ?k4zq ?k5zq ?kKzq ?kdzq ?kuzq ?_; (case k1zq => k_asm); (case k2zq => k_asm); (case k3zq => k_asm); (case k4zq => k_asm); (case k5zq => k_asm); (case kazq => assumption); (case kbzq => assumption); (case kKzq => first | exact rfl | assumption); (case kdzq => ktr_room); (case kuzq => ktr_units)); (intro r9zq news9zq h9zq tk9zq F9zq N9zq hOzq; obtain ⟨q9zq, c9zq, tl9zq, e2zq, -, hG9zq, hP9zq, -⟩ := hOzq; subst e2zq); (with_unfolding_all (have hS9zq := hP9zq.rs; have hA9zq := hP9zq.pl; obtain ⟨dx9zq, w1zq, w2zq, w3zq, w4zq, w5zq, n9zq, hp1zq, hp2zq⟩ := hA9zq)); ((try dsimp only); (try k_fold))))) | (safely (with_reducible (k_here; (with_reducible show wpAny _ _ (call (Value.ref 100) [Value.ref _, Value.str _ _]) _ _ _); k_dflt (refine' turned_con _ _ _ _ _ _ _ _ ?khzq ?kwzq _ _ _ _ _ _ _ _ _ _ _ _ _ _ _ _ _ ?k1zq ?k2zq ?k3zq ?k4zq ?k5zq ?kKzq ?kdzq ?kuzq ?_; (case k1zq => k_asm); (case k2zq => k_asm); (case k3zq => k_asm); (case k4zq => k_asm); (case k5zq => k_asm); (case khzq => refine Pl.mono (by assumption) ?_; intro q9zq hq9zq; (repeat (first | exact hq9zq | refine List.mem_cons_of_mem _ ?_ | refine Grows.sub (by assumption) _ ?_))); (case kwzq => assumption); (case kKzq => first | exact rfl | assumption); (case kdzq => ktr_room); (case kuzq => ktr_units)); (intro r9zq news9zq h9zq tk9zq F9zq N9zq hOzq; obtain ⟨q9zq, c9zq, e2zq, hG9zq, hP9zq⟩ := hOzq; subst e2zq); (with_unfolding_all (have hS9zq := hP9zq.rs; have hA9zq := hP9zq.pl; obtain ⟨dx9zq, w1zq, w2zq, w3zq, w4zq, w5zq, n9zq, hp1zq, hp2zq⟩ := hA9zq)); ((try dsimp only); (try k_fold))))) | (safely (with_reducible (k_here; (with_reducible show wpAny _ _ (compareOp CmpOp.Eq (Value.ref _) (Value.ref _)) _ _ _); k_dflt (refine' rows_eq ?Nzq ?azq ?bzq ?czq ?dzq ?uzq ?_; (case Nzq => k_asm); (case azq => assumption); (case czq => assumption); (case bzq => intro q9zq hq9zq; (repeat (first | exact hq9zq | refine List.mem_cons_of_mem _ ?_ | refine List.mem_append.mpr (.inr ?_) | refine Grows.sub (by assumption) _ ?_))); (case dzq => first | exact fun q9zq hq9zq => hq9zq | (intro q9zq hq9zq; (repeat (first | exact hq9zq | refine List.mem_cons_of_mem _ ?_ | refine List.mem_append.mpr (.inr ?_) | refine Grows.sub (by assumption) _ ?_))) | assumption); (case uzq => ktr_units))))) | (safely (with_reducible (k_here; (with_reducible show wpAny _ _ (call (Value.ref 154) [Value.ref _, Value.ref _, Value.int _ _]) _ _ _); k_dflt (refine' right_con' _ _ _ _ _ _ _ _ _ _ _ ?h1zq ?h2zq ?hszq ?htzq ?h3zq ?h4zq ?h5zq ?h6zq ?h7zq ?h8zq ?h9zq ?hazq ?hbzq ?hczq ?hezq _ _ _ _ _ _ _ _ _ _ _ _ _ _ _ _ _ ?k1zq ?k2zq ?k3zq ?k4zq ?k5zq ?kKzq ?kdzq ?kuzq ?_; (case k1zq => k_asm); (case k2zq => k_asm); (case k3zq => k_asm); (case k4zq => k_asm); (case k5zq => k_asm); (case h1zq => assumption); (case h2zq => assumption); (case hszq => intro q9zq hq9zq; (repeat (first | exact hq9zq | refine List.mem_cons_of_mem _ ?_))); (case htzq => intro q9zq hq9zq; (repeat (first | exact hq9zq | refine List.mem_cons_of_mem _ ?_))); (case h4zq => assumption); (case hbzq => assumption); (case h5zq => assumption); (case h6zq => assumption); (case h3zq => exact rfl); (case h7zq => assumption); (case h8zq => assumption); (case h9zq => assumption); (case hazq => assumption); (case hczq => assumption); (case hezq => assumption); (case kKzq => first | exact rfl | assumption); (case kdzq => ktr_room); (case kuzq => ktr_units)); (intro r9zq news9zq h9zq tk9zq F9zq N9zq hOzq; obtain ⟨e2zq, hG9zq⟩ := hOzq; subst e2zq; (try dsimp only); (try k_fold))))) | (safely (with_reducible (k_here; (with_reducible show wpAny _ _ (compareOp CmpOp.NotEq (Value.ref _) (Value.ref _)) _ _ _); k_dflt (first | (refine' ne_three ?Nzq ?azq ?bzq ?czq ?dzq ?ezq ?fzq ?uzq ?_; (case Nzq => k_asm); (case azq => k_mem); (case bzq => k_mem); (case czq => rfl); (case dzq => rfl); (case ezq => rfl); (case fzq => rfl); (case uzq => ktr_units)) | (refine' rows_ne ?Nzq ?azq ?bzq ?czq ?dzq ?uzq ?_; (case Nzq => k_asm); (case azq => assumption); (case czq => assumption); (case bzq => intro q9zq hq9zq; k_mem); (case dzq => intro q9zq hq9zq; k_mem); (case uzq => ktr_units))); (try simp only [eq_self, decide_true, Bool.not_true])))) | (safely (with_reducible (k_here; (with_reducible show wpAny _ _ (call (Value.ref 105) [Value.ref _, Value.int _ _]) _ _ _); k_dflt (refine' smoothed_con _ _ _ _ _ _ _ _ ?khzq ?kazq ?kbzq _ _ _ _ _ _ _ _ _ _ _ _ _ _ _ _ _ ?k1zq ?k2zq ?k3zq ?k4zq ?k5zq ?kKzq ?kdzq ?kuzq ?_; (case k1zq => k_asm); (case k2zq => k_asm); (case k3zq => k_asm); (case k4zq => k_asm); (case k5zq => k_asm); (case khzq => refine Pl.mono (by assumption) ?_; intro q9zq hq9zq; (repeat (first | assumption | refine List.mem_cons_of_mem _ ?_ | refine Grows.sub (by assumption) _ ?_))); (case kazq => assumption); (case kbzq => assumption); (case kKzq => first | exact rfl | assumption); (case kdzq => ktr_room); (case kuzq => ktr_units)); (intro r9zq news9zq h9zq tk9zq F9zq N9zq hOzq; obtain ⟨q9zq, c9zq, tl9zq, e2zq, etl9zq, hG9zq, hP9zq, hR9zq⟩ := hOzq; subst e2zq; (try dsimp only); (try k_fold))))) | (safely (with_reducible (k_here; (with_reducible show wpAny _ _ (call (Value.ref 161) [Value.ref _, Value.int _ _]) _ _ _); k_dflt (refine' refused_con _ _ _ _ ?khzq _ _ _ _ _ _ _ _ _ _ _ _ _ _ _ ?k1zq ?k2zq ?k3zq ?k4zq ?k5zq ?kKzq ?kdzq ?kuzq ?_; (case k1zq => k_asm); (case k2zq => k_asm); (case k3zq => k_asm); (case k4zq => k_asm); (case k5zq => k_asm); (case khzq => first | exact .inl (by omega) | exact .inr (by omega)); (case kKzq => first | exact rfl | assumption); (case kdzq => ktr_room); (case kuzq => ktr_units)); (intro r9zq news9zq h9zq tk9zq F9zq N9zq hOzq; obtain ⟨e2zq, e1zq⟩ := hOzq; rw [e1zq] at N9zq; clear e1zq; subst e2zq; (try dsimp only); (try k_fold))))) | (safely (with_reducible (k_here; (with_reducible show wpAny _ _ (call (Value.ref 84) [Value.int _ _, Value.int _ _, Value.ref _]) _ _ _); k_dflt (refine' plane_con _ _ _ _ _ _ _ _ _ _ _ _ _ _ _ _ _ _ _ _ _ _ _ ?k1zq ?k2zq ?k3zq ?k4zq ?k5zq ?kKzq ?kdzq ?kuzq ?_; (case k1zq => k_asm); (case k2zq => k_asm); (case k3zq => k_asm); (case k4zq => k_asm); (case k5zq => k_asm); (case kKzq => first | exact rfl | assumption); (case kdzq => ktr_room); (case kuzq => ktr_units)); (intro r9zq news9zq h9zq tk9zq F9zq N9zq hOzq; obtain ⟨q9zq, e2zq, hG9zq, hP9zq⟩ := hOzq; subst e2zq; (try dsimp only); (try k_fold))))) | (safely (with_reducible (k_here; (with_reducible show wpAny _ _ (call (Value.builtin "len") [Value.ref _]) _ _ _); k_dflt (refine' len_led ?Nzq ?mzq ?ezq ?azq ?bzq ?_; (case Nzq => k_asm); (case mzq => k_mem); (case ezq => assumption); (case azq => assumption); (case bzq => assumption))))) | (safely (with_reducible (k_here; (with_reducible show wpAny _ _ (subscriptTail (PySem.Expr.Subscript _ _ _) (PySem.Expr.Constant _ _ _) (Value.ref _) (Value.int _ _)) _ _ _); (with_unfolding_all refine' int_itemB ?Nzq ?mzq ?izq ?dzq ?ezq ?azq ?bzq ?czq ?_ ?szq; (case izq => with_reducible assumption); (case Nzq => with_reducible assumption); (case mzq => (repeat (first | with_reducible assumption | refine List.mem_cons_of_mem _ ?_ | refine List.mem_append.mpr (.inr ?_)))); (case dzq => with_reducible assumption); (case ezq => with_reducible assumption); (case azq => omega); (case bzq => omega); (case czq => omega); (case szq => with_unfolding_all rfl)); k_whole; intro t9zq a9zq ea9zq la9zq lb9zq))) | (safely (with_reducible (k_here; (with_reducible show wpAny _ _ (subscriptTail (PySem.Expr.Name _ _) (PySem.Expr.Constant _ _ _) (Value.ref _) (Value.int _ _)) _ _ _); (with_unfolding_all refine' row_itemB ?Nzq ?mzq ?zzq ?dzq ?ezq ?azq ?bzq ?czq ?_ ?szq; (case Nzq => with_reducible assumption); (case mzq => with_reducible assumption); (case dzq => with_reducible assumption); (case ezq => with_reducible assumption); (case zzq => intro q9zq hq9zq; (repeat (first | exact hq9zq | refine List.mem_cons_of_mem _ ?_ | refine List.mem_append.mpr (.inr ?_)))); (case azq => omega); (case bzq => omega); (case czq => omega); (case szq => with_unfolding_all rfl)); k_whole; intro c9zq us9zq n9zq hm9zq hi9zq hu9zq hl9zq hc9zq))) | (safely (with_reducible (k_here; (with_reducible show wpAny _ _ (call (Value.ref 133) [Value.ref _, Value.ref _]) _ _ _); k_dflt (refine' one_con _ _ _ _ _ _ _ _ _ _ _ ?kszq ?knzq ?klzq ?kvzq ?kwzq ?kazq ?kbzq ?kczq _ _ _ _ _ _ _ _ _ _ _ _ _ _ _ _ _ ?k1zq ?k2zq ?k3zq ?k4zq ?k5zq ?kKzq ?kdzq ?kuzq ?_; (case k1zq => k_asm); (case k2zq => k_asm); (case k3zq => k_asm); (case k4zq => k_asm); (case k5zq => k_asm); (case kszq => first | exact SplitL.here | exact SplitL.there .here | exact SplitL.there (.there .here) | exact SplitL.there (.there (.there .here)) | exact SplitL.there (.there (.there (.there .here))) | exact SplitL.there (.there (.there (.there (.there .here)))) | exact SplitL.there (.there (.there (.there (.there (.there .here))))) | exact SplitL.there (.there (.there (.there (.there (.there (.there .here))))))); (case knzq => k_all); (case klzq => k_mem); (case kvzq => exact Nat.zero_lt_succ _); (case kwzq => exact Nat.le_of_ble_eq_true rfl); (case kazq => assumption); (case kbzq => assumption); (case kczq => assumption); (case kKzq => first | exact rfl | assumption); (case kdzq => ktr_room); (case kuzq => ktr_units)); (intro r9zq news9zq h9zq tk9zq F9zq N9zq hOzq; obtain ⟨i9zq, a9zq, b9zq, t9zq, u9zq, n9zq, e2zq, a90zq, b90zq, b91zq, e1zq⟩ := hOzq; rw [e1zq] at N9zq; clear e1zq; (first | (have hp9zq := pick4 e2zq) | (have hp9zq := pick7 e2zq) | (have hp9zq := pickS e2zq)); obtain ⟨x9zq, tx9zq, ex9zq, hx9zq⟩ := hp9zq; clear e2zq; subst ex9zq; (try dsimp only); (try k_fold))))) | (safely (with_reducible (k_here; (with_reducible show wpAny _ _ (call (Value.ref 126) [Value.ref _, Value.int _ _]) _ _ _); k_dflt (refine' take_con _ _ _ _ _ _ _ _ _ _ ?kszq ?knzq ?kazq ?kbzq ?kczq ?ktzq ?kpzq _ _ _ _ _ _ _ _ _ _ _ _ _ _ _ _ _ ?k1zq ?k2zq ?k3zq ?k4zq ?k5zq ?kKzq ?kdzq ?kuzq ?_; (case k1zq => k_asm); (case k2zq => k_asm); (case k3zq => k_asm); (case k4zq => k_asm); (case k5zq => k_asm); (case kszq => first | exact SplitL.here | exact SplitL.there .here | exact SplitL.there (.there .here) | exact SplitL.there (.there (.there .here)) | exact SplitL.there (.there (.there (.there .here))) | exact SplitL.there (.there (.there (.there (.there .here)))) | exact SplitL.there (.there (.there (.there (.there (.there .here))))) | exact SplitL.there (.there (.there (.there (.there (.there (.there .here))))))); (case knzq => k_all); (case kazq => assumption); (case kbzq => assumption); (case kczq => assumption); (case ktzq => first | decide | assumption | omega); (case kpzq => first | decide | assumption | omega); (case kKzq => first | exact rfl | assumption); (case kdzq => ktr_room); (case kuzq => ktr_units)); (intro r9zq news9zq h9zq tk9zq F9zq N9zq hOzq; obtain ⟨d9zq, td9zq, a9zq, b9zq, t9zq, u9zq, n9zq, e2zq, d0zq, d1zq, a90zq, b90zq, b91zq, e1zq⟩ := hOzq; rw [e1zq] at N9zq; clear e1zq; subst e2zq; (try dsimp only); (try k_fold))))) | (have tokzq : PassTok := PassTok.mk; walk1 <;> (try clear tokzq))) | (k_unfold; (try dsimp only)) | (k_end; wrow_close) | walk1 | (dsimp only; walk1) | (leave1; walk_say "STEP leave1"; try dsimp only) | fail "no step")); (all_goals (try (with_reducible refine Halt.mk ?_))))
        · trivial
        · rename Fr _ _ _ _ => lF'
          rename News _ _ _ _ => lN'
          rename (_ ∈ [_, _, _, _]) => hx
          simp only [List.mem_cons, List.not_mem_nil, or_false] at hx
          refine LSx_mk (S := S) (rest := rest) lF' (sub_news lN' sub7) c1 (by assumption) (by assumption) c4 (by assumption) (by assumption) (by assumption) s1' s2' s3' s4' rS r1 r2 r3 r4 ?_
          refine ⟨_, _, _, _, _, _, ?_, ?_, ?_, ?_, ?_, ?_, rfl, rfl, by with_unfolding_all rfl⟩ <;> omega
      · clear F1 N1 c1 c2 c3 c4 a0 b0 b1' s1' s2' s3' s4' rS r1 r2 r3 r4
        rintro m2 h2 tk2 S cw cm cr a1 b1 t1 u1 n1 o1 o2 o3 o4 rest F2 N2 c1 c2 c3 c4 a0 b0 b1' s1' s2' s3' s4' rS r1 r2 r3 r4 ⟨W, H, M, tW, tH, tM, w0, w4, h0, h4, m0, m6, ecw, ecm, ehigh⟩
        rw [ecw] at c2
        rw [ecm] at c3
        have F2' := fr_pin F2 ehigh
        clear F2
        dsimp only
        refine wpAny_execs_cons ?_
        refine cut_law F2' RowsP ?_ ?_
        · have hHn : H = ((H.toNat : Nat) : Int) := by omega
          have hWn : W = ((W.toNat : Nat) : Int) := by omega
          ((repeat' (first | ((with_reducible refine Halt.mk ?_); first | (safely (with_reducible (k_here; (with_reducible show wpAny _ _ (call (Value.ref 105) [Value.ref _, Value.int _ _]) _ _ _); (rename Pl _ _ _ _ _ _ (turned _ _ _) => hT9zq); k_dflt (refine' smoothed_con _ _ _ _ _ _ _ _ hT9zq ?kazq ?kbzq _ _ _ _ _ _ _ _ _ _ _ _ _ _ _ _ _ ?k1zq ?k2zq ?k3zq ?k4zq ?k5zq ?kKzq ?kdzq ?kuzq ?_; (case k1zq => k_asm); (case k2zq => k_asm); (case k3zq => k_asm); (case k4zq => k_asm); (case k5zq => k_asm); (case kazq => assumption); (case kbzq => assumption); (case kKzq => first | exact rfl | assumption); (case kdzq => ktr_room); (case kuzq => ktr_units)); (intro r9zq news9zq h9zq tk9zq F9zq N9zq hOzq; obtain ⟨q9zq, c9zq, tl9zq, e2zq, -, hG9zq, hP9zq, -⟩ := hOzq; subst e2zq); (with_unfolding_all (have hS9zq := hP9zq.rs; have hA9zq := hP9zq.pl; obtain ⟨dx9zq, w1zq, w2zq, w3zq, w4zq, w5zq, n9zq, hp1zq, hp2zq⟩ := hA9zq)); ((try dsimp only); (try k_fold))))) | (safely (with_reducible (k_here; (with_reducible show wpAny _ _ (call (Value.ref 100) [Value.ref _, Value.str _ _]) _ _ _); k_dflt (refine' turned_con _ _ _ _ _ _ _ _ ?khzq ?kwzq _ _ _ _ _ _ _ _ _ _ _ _ _ _ _ _ _ ?k1zq ?k2zq ?k3zq ?k4zq ?k5zq ?kKzq ?kdzq ?kuzq ?_; (case k1zq => k_asm); (case k2zq => k_asm); (case k3zq => k_asm); (case k4zq => k_asm); (case k5zq => k_asm); (case khzq => refine Pl.mono (by assumption) ?_; intro q9zq hq9zq; (repeat (first | exact hq9zq | refine List.mem_cons_of_mem _ ?_ | refine Grows.sub (by assumption) _ ?_))); (case kwzq => assumption); (case kKzq => first | exact rfl | assumption); (case kdzq => ktr_room); (case kuzq => ktr_units)); (intro r9zq news9zq h9zq tk9zq F9zq N9zq hOzq; obtain ⟨q9zq, c9zq, e2zq, hG9zq, hP9zq⟩ := hOzq; subst e2zq); (with_unfolding_all (have hS9zq := hP9zq.rs; have hA9zq := hP9zq.pl; obtain ⟨dx9zq, w1zq, w2zq, w3zq, w4zq, w5zq, n9zq, hp1zq, hp2zq⟩ := hA9zq)); ((try dsimp only); (try k_fold))))) | (safely (with_reducible (k_here; (with_reducible show wpAny _ _ (compareOp CmpOp.Eq (Value.ref _) (Value.ref _)) _ _ _); k_dflt (refine' rows_eq ?Nzq ?azq ?bzq ?czq ?dzq ?uzq ?_; (case Nzq => k_asm); (case azq => assumption); (case czq => assumption); (case bzq => intro q9zq hq9zq; (repeat (first | exact hq9zq | refine List.mem_cons_of_mem _ ?_ | refine List.mem_append.mpr (.inr ?_) | refine Grows.sub (by assumption) _ ?_))); (case dzq => first | exact fun q9zq hq9zq => hq9zq | (intro q9zq hq9zq; (repeat (first | exact hq9zq | refine List.mem_cons_of_mem _ ?_ | refine List.mem_append.mpr (.inr ?_) | refine Grows.sub (by assumption) _ ?_))) | assumption); (case uzq => ktr_units))))) | (safely (with_reducible (k_here; (with_reducible show wpAny _ _ (call (Value.ref 154) [Value.ref _, Value.ref _, Value.int _ _]) _ _ _); k_dflt (refine' right_con' _ _ _ _ _ _ _ _ _ _ _ ?h1zq ?h2zq ?hszq ?htzq ?h3zq ?h4zq ?h5zq ?h6zq ?h7zq ?h8zq ?h9zq ?hazq ?hbzq ?hczq ?hezq _ _ _ _ _ _ _ _ _ _ _ _ _ _ _ _ _ ?k1zq ?k2zq ?k3zq ?k4zq ?k5zq ?kKzq ?kdzq ?kuzq ?_; (case k1zq => k_asm); (case k2zq => k_asm); (case k3zq => k_asm); (case k4zq => k_asm); (case k5zq => k_asm); (case h1zq => assumption); (case h2zq => assumption); (case hszq => intro q9zq hq9zq; (repeat (first | exact hq9zq | refine List.mem_cons_of_mem _ ?_))); (case htzq => intro q9zq hq9zq; (repeat (first | exact hq9zq | refine List.mem_cons_of_mem _ ?_))); (case h4zq => assumption); (case hbzq => assumption); (case h5zq => assumption); (case h6zq => assumption); (case h3zq => exact rfl); (case h7zq => assumption); (case h8zq => assumption); (case h9zq => assumption); (case hazq => assumption); (case hczq => assumption); (case hezq => assumption); (case kKzq => first | exact rfl | assumption); (case kdzq => ktr_room); (case kuzq => ktr_units)); (intro r9zq news9zq h9zq tk9zq F9zq N9zq hOzq; obtain ⟨e2zq, hG9zq⟩ := hOzq; subst e2zq; (try dsimp only); (try k_fold))))) | (safely (with_reducible (k_here; (with_reducible show wpAny _ _ (compareOp CmpOp.NotEq (Value.ref _) (Value.ref _)) _ _ _); k_dflt (first | (refine' ne_three ?Nzq ?azq ?bzq ?czq ?dzq ?ezq ?fzq ?uzq ?_; (case Nzq => k_asm); (case azq => k_mem); (case bzq => k_mem); (case czq => rfl); (case dzq => rfl); (case ezq => rfl); (case fzq => rfl); (case uzq => ktr_units)) | (refine' rows_ne ?Nzq ?azq ?bzq ?czq ?dzq ?uzq ?_; (case Nzq => k_asm); (case azq => assumption); (case czq => assumption); (case bzq => intro q9zq hq9zq; k_mem); (case dzq => intro q9zq hq9zq; k_mem); (case uzq => ktr_units))); (try simp only [eq_self, decide_true, Bool.not_true])))) | (safely (with_reducible (k_here; (with_reducible show wpAny _ _ (call (Value.ref 105) [Value.ref _, Value.int _ _]) _ _ _); k_dflt (refine' smoothed_con _ _ _ _ _ _ _ _ ?khzq ?kazq ?kbzq _ _ _ _ _ _ _ _ _ _ _ _ _ _ _ _ _ ?k1zq ?k2zq ?k3zq ?k4zq ?k5zq ?kKzq ?kdzq ?kuzq ?_; (case k1zq => k_asm); (case k2zq => k_asm); (case k3zq => k_asm); (case k4zq => k_asm); (case k5zq => k_asm); (case khzq => refine Pl.mono (by assumption) ?_; intro q9zq hq9zq; (repeat (first | assumption | refine List.mem_cons_of_mem _ ?_ | refine Grows.sub (by assumption) _ ?_))); (case kazq => assumption); (case kbzq => assumption); (case kKzq => first | exact rfl | assumption); (case kdzq => ktr_room); (case kuzq => ktr_units)); (intro r9zq news9zq h9zq tk9zq F9zq N9zq hOzq; obtain ⟨q9zq, c9zq, tl9zq, e2zq, etl9zq, hG9zq, hP9zq, hR9zq⟩ := hOzq; subst e2zq; (try dsimp only); (try k_fold))))) | (safely (with_reducible (k_here; (with_reducible show wpAny _ _ (call (Value.ref 161) [Value.ref _, Value.int _ _]) _ _ _); k_dflt (refine' refused_con _ _ _ _ ?khzq _ _ _ _ _ _ _ _ _ _ _ _ _ _ _ ?k1zq ?k2zq ?k3zq ?k4zq ?k5zq ?kKzq ?kdzq ?kuzq ?_; (case k1zq => k_asm); (case k2zq => k_asm); (case k3zq => k_asm); (case k4zq => k_asm); (case k5zq => k_asm); (case khzq => first | exact .inl (by omega) | exact .inr (by omega)); (case kKzq => first | exact rfl | assumption); (case kdzq => ktr_room); (case kuzq => ktr_units)); (intro r9zq news9zq h9zq tk9zq F9zq N9zq hOzq; obtain ⟨e2zq, e1zq⟩ := hOzq; rw [e1zq] at N9zq; clear e1zq; subst e2zq; (try dsimp only); (try k_fold))))) | (safely (with_reducible (k_here; (with_reducible show wpAny _ _ (call (Value.ref 84) [Value.int _ _, Value.int _ _, Value.ref _]) _ _ _); k_dflt (refine' plane_con _ _ _ _ _ _ _ _ _ _ _ _ _ _ _ _ _ _ _ _ _ _ _ ?k1zq ?k2zq ?k3zq ?k4zq ?k5zq ?kKzq ?kdzq ?kuzq ?_; (case k1zq => k_asm); (case k2zq => k_asm); (case k3zq => k_asm); (case k4zq => k_asm); (case k5zq => k_asm); (case kKzq => first | exact rfl | assumption); (case kdzq => ktr_room); (case kuzq => ktr_units)); (intro r9zq news9zq h9zq tk9zq F9zq N9zq hOzq; obtain ⟨q9zq, e2zq, hG9zq, hP9zq⟩ := hOzq; subst e2zq; (try dsimp only); (try k_fold))))) | (safely (with_reducible (k_here; (with_reducible show wpAny _ _ (call (Value.builtin "len") [Value.ref _]) _ _ _); k_dflt (refine' len_led ?Nzq ?mzq ?ezq ?azq ?bzq ?_; (case Nzq => k_asm); (case mzq => k_mem); (case ezq => assumption); (case azq => assumption); (case bzq => assumption))))) | (safely (with_reducible (k_here; (with_reducible show wpAny _ _ (subscriptTail (PySem.Expr.Subscript _ _ _) (PySem.Expr.Constant _ _ _) (Value.ref _) (Value.int _ _)) _ _ _); (with_unfolding_all refine' int_itemB ?Nzq ?mzq ?izq ?dzq ?ezq ?azq ?bzq ?czq ?_ ?szq; (case izq => with_reducible assumption); (case Nzq => with_reducible assumption); (case mzq => (repeat (first | with_reducible assumption | refine List.mem_cons_of_mem _ ?_ | refine List.mem_append.mpr (.inr ?_)))); (case dzq => with_reducible assumption); (case ezq => with_reducible assumption); (case azq => omega); (case bzq => omega); (case czq => omega); (case szq => with_unfolding_all rfl)); k_whole; intro t9zq a9zq ea9zq la9zq lb9zq))) | (safely (with_reducible (k_here; (with_reducible show wpAny _ _ (subscriptTail (PySem.Expr.Name _ _) (PySem.Expr.Constant _ _ _) (Value.ref _) (Value.int _ _)) _ _ _); (with_unfolding_all refine' row_itemB ?Nzq ?mzq ?zzq ?dzq ?ezq ?azq ?bzq ?czq ?_ ?szq; (case Nzq => with_reducible assumption); (case mzq => with_reducible assumption); (case dzq => with_reducible assumption); (case ezq => with_reducible assumption); (case zzq => intro q9zq hq9zq; (repeat (first | exact hq9zq | refine List.mem_cons_of_mem _ ?_ | refine List.mem_append.mpr (.inr ?_)))); (case azq => omega); (case bzq => omega); (case czq => omega); (case szq => with_unfolding_all rfl)); k_whole; intro c9zq us9zq n9zq hm9zq hi9zq hu9zq hl9zq hc9zq))) | (safely (with_reducible (k_here; (with_reducible show wpAny _ _ (call (Value.ref 133) [Value.ref _, Value.ref _]) _ _ _); k_dflt (refine' one_con _ _ _ _ _ _ _ _ _ _ _ ?kszq ?knzq ?klzq ?kvzq ?kwzq ?kazq ?kbzq ?kczq _ _ _ _ _ _ _ _ _ _ _ _ _ _ _ _ _ ?k1zq ?k2zq ?k3zq ?k4zq ?k5zq ?kKzq ?kdzq ?kuzq ?_; (case k1zq => k_asm); (case k2zq => k_asm); (case k3zq => k_asm); (case k4zq => k_asm); (case k5zq => k_asm); (case kszq => first | exact SplitL.here | exact SplitL.there .here | exact SplitL.there (.there .here) | exact SplitL.there (.there (.there .here)) | exact SplitL.there (.there (.there (.there .here))) | exact SplitL.there (.there (.there (.there (.there .here)))) | exact SplitL.there (.there (.there (.there (.there (.there .here))))) | exact SplitL.there (.there (.there (.there (.there (.there (.there .here))))))); (case knzq => k_all); (case klzq => k_mem); (case kvzq => exact Nat.zero_lt_succ _); (case kwzq => exact Nat.le_of_ble_eq_true rfl); (case kazq => assumption); (case kbzq => assumption); (case kczq => assumption); (case kKzq => first | exact rfl | assumption); (case kdzq => ktr_room); (case kuzq => ktr_units)); (intro r9zq news9zq h9zq tk9zq F9zq N9zq hOzq; obtain ⟨i9zq, a9zq, b9zq, t9zq, u9zq, n9zq, e2zq, a90zq, b90zq, b91zq, e1zq⟩ := hOzq; rw [e1zq] at N9zq; clear e1zq; (first | (have hp9zq := pick4 e2zq) | (have hp9zq := pick7 e2zq) | (have hp9zq := pickS e2zq)); obtain ⟨x9zq, tx9zq, ex9zq, hx9zq⟩ := hp9zq; clear e2zq; subst ex9zq; (try dsimp only); (try k_fold))))) | (safely (with_reducible (k_here; (with_reducible show wpAny _ _ (call (Value.ref 126) [Value.ref _, Value.int _ _]) _ _ _); k_dflt (refine' take_con _ _ _ _ _ _ _ _ _ _ ?kszq ?knzq ?kazq ?kbzq ?kczq ?ktzq ?kpzq _ _ _ _ _ _ _ _ _ _ _ _ _ _ _ _ _ ?k1zq ?k2zq ?k3zq ?k4zq ?k5zq ?kKzq ?kdzq ?kuzq ?_; (case k1zq => k_asm); (case k2zq => k_asm); (case k3zq => k_asm); (case k4zq => k_asm); (case k5zq => k_asm); (case kszq => first | exact SplitL.here | exact SplitL.there .here | exact SplitL.there (.there .here) | exact SplitL.there (.there (.there .here)) | exact SplitL.there (.there (.there (.there .here))) | exact SplitL.there (.there (.there (.there (.there .here)))) | exact SplitL.there (.there (.there (.there (.there (.there .here))))) | exact SplitL.there (.there (.there (.there (.there (.there (.there .here))))))); (case knzq => k_all); (case kazq => assumption); (case kbzq => assumption); (case kczq => assumption); (case ktzq => first | decide | assumption | omega); (case kpzq => first | decide | assumption | omega); (case kKzq => first | exact rfl | assumption); (case kdzq => ktr_room); (case kuzq => ktr_units)); (intro r9zq news9zq h9zq tk9zq F9zq N9zq hOzq; obtain ⟨d9zq, td9zq, a9zq, b9zq, t9zq, u9zq, n9zq, e2zq, d0zq, d1zq, a90zq, b90zq, b91zq, e1zq⟩ := hOzq; rw [e1zq] at N9zq; clear e1zq; subst e2zq; (try dsimp only); (try k_fold))))) | (have tokzq : PassTok := PassTok.mk; walk1 <;> (try clear tokzq))) | (k_unfold; (try dsimp only)) | (k_end; wrow_close) | walk1 | (dsimp only; walk1) | (leave1; walk_say "STEP leave1"; try dsimp only) | fail "no step")); (all_goals (try (with_reducible refine Halt.mk ?_))))
          dsimp only
          rename Fr _ _ _ _ => lF'
          rename News _ _ _ _ => lN'
          rename IsRange _ _ _ _ _ _ _ _ => rgX
          dsimp only at rgX
          with_unfolding_all refine crange_J (JO _ S o1 o2 o3 o4 rest W M) rfl lF' lN' rgX hHn (by simp only [sizeLine]; omega) ⟨_, _, _, _, _, [], [], rfl, a0, b0, b1', (fun _ h => nomatch h), RowVals.nil _, rfl, (fun _ h => nomatch h), (fun _ h => nomatch h)⟩ ?_ ?_
          · rintro i ys nx t9 I oI C oC D m9 h9 tk9 E9 hi ⟨a3, b3, t3, u3, n3, tl, rws, rfl, a30, b30, b31, htl, hR, hl, hw, hcl⟩ hC hx F9 N9 off ne
            clear lF' lN' rgX
            (try k_fold)
            ((repeat' (first | ((with_reducible refine Halt.mk ?_); first | (safely (with_reducible (k_here; (with_reducible show wpAny _ _ (call (Value.ref 105) [Value.ref _, Value.int _ _]) _ _ _); (rename Pl _ _ _ _ _ _ (turned _ _ _) => hT9zq); k_dflt (refine' smoothed_con _ _ _ _ _ _ _ _ hT9zq ?kazq ?kbzq _ _ _ _ _ _ _ _ _ _ _ _ _ _ _ _ _ ?k1zq ?k2zq ?k3zq ?k4zq ?k5zq ?kKzq ?kdzq ?kuzq ?_; (case k1zq => k_asm); (case k2zq => k_asm); (case k3zq => k_asm); (case k4zq => k_asm); (case k5zq => k_asm); (case kazq => assumption); (case kbzq => assumption); (case kKzq => first | exact rfl | assumption); (case kdzq => ktr_room); (case kuzq => ktr_units)); (intro r9zq news9zq h9zq tk9zq F9zq N9zq hOzq; obtain ⟨q9zq, c9zq, tl9zq, e2zq, -, hG9zq, hP9zq, -⟩ := hOzq; subst e2zq); (with_unfolding_all (have hS9zq := hP9zq.rs; have hA9zq := hP9zq.pl; obtain ⟨dx9zq, w1zq, w2zq, w3zq, w4zq, w5zq, n9zq, hp1zq, hp2zq⟩ := hA9zq)); ((try dsimp only); (try k_fold))))) | (safely (with_reducible (k_here; (with_reducible show wpAny _ _ (call (Value.ref 100) [Value.ref _, Value.str _ _]) _ _ _); k_dflt (refine' turned_con _ _ _ _ _ _ _ _ ?khzq ?kwzq _ _ _ _ _ _ _ _ _ _ _ _ _ _ _ _ _ ?k1zq ?k2zq ?k3zq ?k4zq ?k5zq ?kKzq ?kdzq ?kuzq ?_; (case k1zq => k_asm); (case k2zq => k_asm); (case k3zq => k_asm); (case k4zq => k_asm); (case k5zq => k_asm); (case khzq => refine Pl.mono (by assumption) ?_; intro q9zq hq9zq; (repeat (first | exact hq9zq | refine List.mem_cons_of_mem _ ?_ | refine Grows.sub (by assumption) _ ?_))); (case kwzq => assumption); (case kKzq => first | exact rfl | assumption); (case kdzq => ktr_room); (case kuzq => ktr_units)); (intro r9zq news9zq h9zq tk9zq F9zq N9zq hOzq; obtain ⟨q9zq, c9zq, e2zq, hG9zq, hP9zq⟩ := hOzq; subst e2zq); (with_unfolding_all (have hS9zq := hP9zq.rs; have hA9zq := hP9zq.pl; obtain ⟨dx9zq, w1zq, w2zq, w3zq, w4zq, w5zq, n9zq, hp1zq, hp2zq⟩ := hA9zq)); ((try dsimp only); (try k_fold))))) | (safely (with_reducible (k_here; (with_reducible show wpAny _ _ (compareOp CmpOp.Eq (Value.ref _) (Value.ref _)) _ _ _); k_dflt (refine' rows_eq ?Nzq ?azq ?bzq ?czq ?dzq ?uzq ?_; (case Nzq => k_asm); (case azq => assumption); (case czq => assumption); (case bzq => intro q9zq hq9zq; (repeat (first | exact hq9zq | refine List.mem_cons_of_mem _ ?_ | refine List.mem_append.mpr (.inr ?_) | refine Grows.sub (by assumption) _ ?_))); (case dzq => first | exact fun q9zq hq9zq => hq9zq | (intro q9zq hq9zq; (repeat (first | exact hq9zq | refine List.mem_cons_of_mem _ ?_ | refine List.mem_append.mpr (.inr ?_) | refine Grows.sub (by assumption) _ ?_))) | assumption); (case uzq => ktr_units))))) | (safely (with_reducible (k_here; (with_reducible show wpAny _ _ (call (Value.ref 154) [Value.ref _, Value.ref _, Value.int _ _]) _ _ _); k_dflt (refine' right_con' _ _ _ _ _ _ _ _ _ _ _ ?h1zq ?h2zq ?hszq ?htzq ?h3zq ?h4zq ?h5zq ?h6zq ?h7zq ?h8zq ?h9zq ?hazq ?hbzq ?hczq ?hezq _ _ _ _ _ _ _ _ _ _ _ _ _ _ _ _ _ ?k1zq ?k2zq ?k3zq ?k4zq ?k5zq ?kKzq ?kdzq ?kuzq ?_; (case k1zq => k_asm); (case k2zq => k_asm); (case k3zq => k_asm); (case k4zq => k_asm); (case k5zq => k_asm); (case h1zq => assumption); (case h2zq => assumption); (case hszq => intro q9zq hq9zq; (repeat (first | exact hq9zq | refine List.mem_cons_of_mem _ ?_))); (case htzq => intro q9zq hq9zq; (repeat (first | exact hq9zq | refine List.mem_cons_of_mem _ ?_))); (case h4zq => assumption); (case hbzq => assumption); (case h5zq => assumption); (case h6zq => assumption); (case h3zq => exact rfl); (case h7zq => assumption); (case h8zq => assumption); (case h9zq => assumption); (case hazq => assumption); (case hczq => assumption); (case hezq => assumption); (case kKzq => first | exact rfl | assumption); (case kdzq => ktr_room); (case kuzq => ktr_units)); (intro r9zq news9zq h9zq tk9zq F9zq N9zq hOzq; obtain ⟨e2zq, hG9zq⟩ := hOzq; subst e2zq; (try dsimp only); (try k_fold))))) | (safely (with_reducible (k_here; (with_reducible show wpAny _ _ (compareOp CmpOp.NotEq (Value.ref _) (Value.ref _)) _ _ _); k_dflt (first | (refine' ne_three ?Nzq ?azq ?bzq ?czq ?dzq ?ezq ?fzq ?uzq ?_; (case Nzq => k_asm); (case azq => k_mem); (case bzq => k_mem); (case czq => rfl); (case dzq => rfl); (case ezq => rfl); (case fzq => rfl); (case uzq => ktr_units)) | (refine' rows_ne ?Nzq ?azq ?bzq ?czq ?dzq ?uzq ?_; (case Nzq => k_asm); (case azq => assumption); (case czq => assumption); (case bzq => intro q9zq hq9zq; k_mem); (case dzq => intro q9zq hq9zq; k_mem); (case uzq => ktr_units))); (try simp only [eq_self, decide_true, Bool.not_true])))) | (safely (with_reducible (k_here; (with_reducible show wpAny _ _ (call (Value.ref 105) [Value.ref _, Value.int _ _]) _ _ _); k_dflt (refine' smoothed_con _ _ _ _ _ _ _ _ ?khzq ?kazq ?kbzq _ _ _ _ _ _ _ _ _ _ _ _ _ _ _ _ _ ?k1zq ?k2zq ?k3zq ?k4zq ?k5zq ?kKzq ?kdzq ?kuzq ?_; (case k1zq => k_asm); (case k2zq => k_asm); (case k3zq => k_asm); (case k4zq => k_asm); (case k5zq => k_asm); (case khzq => refine Pl.mono (by assumption) ?_; intro q9zq hq9zq; (repeat (first | assumption | refine List.mem_cons_of_mem _ ?_ | refine Grows.sub (by assumption) _ ?_))); (case kazq => assumption); (case kbzq => assumption); (case kKzq => first | exact rfl | assumption); (case kdzq => ktr_room); (case kuzq => ktr_units)); (intro r9zq news9zq h9zq tk9zq F9zq N9zq hOzq; obtain ⟨q9zq, c9zq, tl9zq, e2zq, etl9zq, hG9zq, hP9zq, hR9zq⟩ := hOzq; subst e2zq; (try dsimp only); (try k_fold))))) | (safely (with_reducible (k_here; (with_reducible show wpAny _ _ (call (Value.ref 161) [Value.ref _, Value.int _ _]) _ _ _); k_dflt (refine' refused_con _ _ _ _ ?khzq _ _ _ _ _ _ _ _ _ _ _ _ _ _ _ ?k1zq ?k2zq ?k3zq ?k4zq ?k5zq ?kKzq ?kdzq ?kuzq ?_; (case k1zq => k_asm); (case k2zq => k_asm); (case k3zq => k_asm); (case k4zq => k_asm); (case k5zq => k_asm); (case khzq => first | exact .inl (by omega) | exact .inr (by omega)); (case kKzq => first | exact rfl | assumption); (case kdzq => ktr_room); (case kuzq => ktr_units)); (intro r9zq news9zq h9zq tk9zq F9zq N9zq hOzq; obtain ⟨e2zq, e1zq⟩ := hOzq; rw [e1zq] at N9zq; clear e1zq; subst e2zq; (try dsimp only); (try k_fold))))) | (safely (with_reducible (k_here; (with_reducible show wpAny _ _ (call (Value.ref 84) [Value.int _ _, Value.int _ _, Value.ref _]) _ _ _); k_dflt (refine' plane_con _ _ _ _ _ _ _ _ _ _ _ _ _ _ _ _ _ _ _ _ _ _ _ ?k1zq ?k2zq ?k3zq ?k4zq ?k5zq ?kKzq ?kdzq ?kuzq ?_; (case k1zq => k_asm); (case k2zq => k_asm); (case k3zq => k_asm); (case k4zq => k_asm); (case k5zq => k_asm); (case kKzq => first | exact rfl | assumption); (case kdzq => ktr_room); (case kuzq => ktr_units)); (intro r9zq news9zq h9zq tk9zq F9zq N9zq hOzq; obtain ⟨q9zq, e2zq, hG9zq, hP9zq⟩ := hOzq; subst e2zq; (try dsimp only); (try k_fold))))) | (safely (with_reducible (k_here; (with_reducible show wpAny _ _ (call (Value.builtin "len") [Value.ref _]) _ _ _); k_dflt (refine' len_led ?Nzq ?mzq ?ezq ?azq ?bzq ?_; (case Nzq => k_asm); (case mzq => k_mem); (case ezq => assumption); (case azq => assumption); (case bzq => assumption))))) | (safely (with_reducible (k_here; (with_reducible show wpAny _ _ (subscriptTail (PySem.Expr.Subscript _ _ _) (PySem.Expr.Constant _ _ _) (Value.ref _) (Value.int _ _)) _ _ _); (with_unfolding_all refine' int_itemB ?Nzq ?mzq ?izq ?dzq ?ezq ?azq ?bzq ?czq ?_ ?szq; (case izq => with_reducible assumption); (case Nzq => with_reducible assumption); (case mzq => (repeat (first | with_reducible assumption | refine List.mem_cons_of_mem _ ?_ | refine List.mem_append.mpr (.inr ?_)))); (case dzq => with_reducible assumption); (case ezq => with_reducible assumption); (case azq => omega); (case bzq => omega); (case czq => omega); (case szq => with_unfolding_all rfl)); k_whole; intro t9zq a9zq ea9zq la9zq lb9zq))) | (safely (with_reducible (k_here; (with_reducible show wpAny _ _ (subscriptTail (PySem.Expr.Name _ _) (PySem.Expr.Constant _ _ _) (Value.ref _) (Value.int _ _)) _ _ _); (with_unfolding_all refine' row_itemB ?Nzq ?mzq ?zzq ?dzq ?ezq ?azq ?bzq ?czq ?_ ?szq; (case Nzq => with_reducible assumption); (case mzq => with_reducible assumption); (case dzq => with_reducible assumption); (case ezq => with_reducible assumption); (case zzq => intro q9zq hq9zq; (repeat (first | exact hq9zq | refine List.mem_cons_of_mem _ ?_ | refine List.mem_append.mpr (.inr ?_)))); (case azq => omega); (case bzq => omega); (case czq => omega); (case szq => with_unfolding_all rfl)); k_whole; intro c9zq us9zq n9zq hm9zq hi9zq hu9zq hl9zq hc9zq))) | (safely (with_reducible (k_here; (with_reducible show wpAny _ _ (call (Value.ref 133) [Value.ref _, Value.ref _]) _ _ _); k_dflt (refine' one_con _ _ _ _ _ _ _ _ _ _ _ ?kszq ?knzq ?klzq ?kvzq ?kwzq ?kazq ?kbzq ?kczq _ _ _ _ _ _ _ _ _ _ _ _ _ _ _ _ _ ?k1zq ?k2zq ?k3zq ?k4zq ?k5zq ?kKzq ?kdzq ?kuzq ?_; (case k1zq => k_asm); (case k2zq => k_asm); (case k3zq => k_asm); (case k4zq => k_asm); (case k5zq => k_asm); (case kszq => first | exact SplitL.here | exact SplitL.there .here | exact SplitL.there (.there .here) | exact SplitL.there (.there (.there .here)) | exact SplitL.there (.there (.there (.there .here))) | exact SplitL.there (.there (.there (.there (.there .here)))) | exact SplitL.there (.there (.there (.there (.there (.there .here))))) | exact SplitL.there (.there (.there (.there (.there (.there (.there .here))))))); (case knzq => k_all); (case klzq => k_mem); (case kvzq => exact Nat.zero_lt_succ _); (case kwzq => exact Nat.le_of_ble_eq_true rfl); (case kazq => assumption); (case kbzq => assumption); (case kczq => assumption); (case kKzq => first | exact rfl | assumption); (case kdzq => ktr_room); (case kuzq => ktr_units)); (intro r9zq news9zq h9zq tk9zq F9zq N9zq hOzq; obtain ⟨i9zq, a9zq, b9zq, t9zq, u9zq, n9zq, e2zq, a90zq, b90zq, b91zq, e1zq⟩ := hOzq; rw [e1zq] at N9zq; clear e1zq; (first | (have hp9zq := pick4 e2zq) | (have hp9zq := pick7 e2zq) | (have hp9zq := pickS e2zq)); obtain ⟨x9zq, tx9zq, ex9zq, hx9zq⟩ := hp9zq; clear e2zq; subst ex9zq; (try dsimp only); (try k_fold))))) | (safely (with_reducible (k_here; (with_reducible show wpAny _ _ (call (Value.ref 126) [Value.ref _, Value.int _ _]) _ _ _); k_dflt (refine' take_con _ _ _ _ _ _ _ _ _ _ ?kszq ?knzq ?kazq ?kbzq ?kczq ?ktzq ?kpzq _ _ _ _ _ _ _ _ _ _ _ _ _ _ _ _ _ ?k1zq ?k2zq ?k3zq ?k4zq ?k5zq ?kKzq ?kdzq ?kuzq ?_; (case k1zq => k_asm); (case k2zq => k_asm); (case k3zq => k_asm); (case k4zq => k_asm); (case k5zq => k_asm); (case kszq => first | exact SplitL.here | exact SplitL.there .here | exact SplitL.there (.there .here) | exact SplitL.there (.there (.there .here)) | exact SplitL.there (.there (.there (.there .here))) | exact SplitL.there (.there (.there (.there (.there .here)))) | exact SplitL.there (.there (.there (.there (.there (.there .here))))) | exact SplitL.there (.there (.there (.there (.there (.there (.there .here))))))); (case knzq => k_all); (case kazq => assumption); (case kbzq => assumption); (case kczq => assumption); (case ktzq => first | decide | assumption | omega); (case kpzq => first | decide | assumption | omega); (case kKzq => first | exact rfl | assumption); (case kdzq => ktr_room); (case kuzq => ktr_units)); (intro r9zq news9zq h9zq tk9zq F9zq N9zq hOzq; obtain ⟨d9zq, td9zq, a9zq, b9zq, t9zq, u9zq, n9zq, e2zq, d0zq, d1zq, a90zq, b90zq, b91zq, e1zq⟩ := hOzq; rw [e1zq] at N9zq; clear e1zq; subst e2zq; (try dsimp only); (try k_fold))))) | (have tokzq : PassTok := PassTok.mk; walk1 <;> (try clear tokzq))) | (k_unfold; (try dsimp only)) | (k_end; wrow_close) | walk1 | (dsimp only; walk1) | (leave1; walk_say "STEP leave1"; try dsimp only) | fail "no step")); (all_goals (try (with_reducible refine Halt.mk ?_))))
            dsimp only
            rename Fr _ _ _ _ => lF'
            rename News _ _ _ _ => lN'
            rename IsRange _ _ _ _ _ _ _ _ => rgX
            dsimp only at rgX
            have hS : ∀ q ∈ (I, oI) :: (C, oC) :: (D, LCg.lst ys) :: (sQ.heap.objs.size + 1 + 1 + 1 + 1, o4) :: (sQ.heap.objs.size + 1 + 1 + 1, o3) :: (sQ.heap.objs.size + 1 + 1, o2) :: (sQ.heap.objs.size + 1, o1) :: (tl ++ rest), q.1 ≠ S :=
              ne_cons (Ne.symm off.1.1) (ne_cons (Ne.symm off.1.2.1) (ne_cons (Ne.symm off.1.2.2) (ne_cons (Ne.symm s4') (ne_cons (Ne.symm s3') (ne_cons (Ne.symm s2') (ne_cons (Ne.symm s1') fun q hq => (List.mem_append.mp hq).elim (fun hq => (htl q hq).1) (rS q)))))))
            with_unfolding_all refine crange_J (JI S ((I, oI) :: (C, oC) :: (D, LCg.lst ys) :: (sQ.heap.objs.size + 1 + 1 + 1 + 1, o4) :: (sQ.heap.objs.size + 1 + 1 + 1, o3) :: (sQ.heap.objs.size + 1 + 1, o2) :: (sQ.heap.objs.size + 1, o1) :: (tl ++ rest)) M) rfl lF' (sub_news lN' ?_) rgX hWn (by simp only [sizeLine]; omega) ⟨a3, b3, t3, u3, n3, [], rfl, a30, b30, b31, .nil, rfl, (fun _ h => nomatch h)⟩ ?_ ?_
            · exact perm4'
            · rintro j zs nx2 t8 I2 oI2 C2 oC2 D2 m8 h8 tk8 E8 hj ⟨a4, b4, t4, u4, n4, ns, rfl, a40, b40, b41, hI4, hl4, hc4⟩ hC2 hx2 F8 N8 off8 ne8
              clear lF' lN' rgX
              have g1 : @Ne Nat I2 S := Ne.symm off8.1.1
              have g2 : @Ne Nat C2 S := Ne.symm off8.1.2.1
              have g3 : @Ne Nat D2 S := Ne.symm off8.1.2.2
              (try k_fold)
              ((repeat' (first | ((with_reducible refine Halt.mk ?_); first | (safely (with_reducible (k_here; (with_reducible show wpAny _ _ (call (Value.ref 105) [Value.ref _, Value.int _ _]) _ _ _); (rename Pl _ _ _ _ _ _ (turned _ _ _) => hT9zq); k_dflt (refine' smoothed_con _ _ _ _ _ _ _ _ hT9zq ?kazq ?kbzq _ _ _ _ _ _ _ _ _ _ _ _ _ _ _ _ _ ?k1zq ?k2zq ?k3zq ?k4zq ?k5zq ?kKzq ?kdzq ?kuzq ?_; (case k1zq => k_asm); (case k2zq => k_asm); (case k3zq => k_asm); (case k4zq => k_asm); (case k5zq => k_asm); (case kazq => assumption); (case kbzq => assumption); (case kKzq => first | exact rfl | assumption); (case kdzq => ktr_room); (case kuzq => ktr_units)); (intro r9zq news9zq h9zq tk9zq F9zq N9zq hOzq; obtain ⟨q9zq, c9zq, tl9zq, e2zq, -, hG9zq, hP9zq, -⟩ := hOzq; subst e2zq); (with_unfolding_all (have hS9zq := hP9zq.rs; have hA9zq := hP9zq.pl; obtain ⟨dx9zq, w1zq, w2zq, w3zq, w4zq, w5zq, n9zq, hp1zq, hp2zq⟩ := hA9zq)); ((try dsimp only); (try k_fold))))) | (safely (with_reducible (k_here; (with_reducible show wpAny _ _ (call (Value.ref 100) [Value.ref _, Value.str _ _]) _ _ _); k_dflt (refine' turned_con _ _ _ _ _ _ _ _ ?khzq ?kwzq _ _ _ _ _ _ _ _ _ _ _ _ _ _ _ _ _ ?k1zq ?k2zq ?k3zq ?k4zq ?k5zq ?kKzq ?kdzq ?kuzq ?_; (case k1zq => k_asm); (case k2zq => k_asm); (case k3zq => k_asm); (case k4zq => k_asm); (case k5zq => k_asm); (case khzq => refine Pl.mono (by assumption) ?_; intro q9zq hq9zq; (repeat (first | exact hq9zq | refine List.mem_cons_of_mem _ ?_ | refine Grows.sub (by assumption) _ ?_))); (case kwzq => assumption); (case kKzq => first | exact rfl | assumption); (case kdzq => ktr_room); (case kuzq => ktr_units)); (intro r9zq news9zq h9zq tk9zq F9zq N9zq hOzq; obtain ⟨q9zq, c9zq, e2zq, hG9zq, hP9zq⟩ := hOzq; subst e2zq); (with_unfolding_all (have hS9zq := hP9zq.rs; have hA9zq := hP9zq.pl; obtain ⟨dx9zq, w1zq, w2zq, w3zq, w4zq, w5zq, n9zq, hp1zq, hp2zq⟩ := hA9zq)); ((try dsimp only); (try k_fold))))) | (safely (with_reducible (k_here; (with_reducible show wpAny _ _ (compareOp CmpOp.Eq (Value.ref _) (Value.ref _)) _ _ _); k_dflt (refine' rows_eq ?Nzq ?azq ?bzq ?czq ?dzq ?uzq ?_; (case Nzq => k_asm); (case azq => assumption); (case czq => assumption); (case bzq => intro q9zq hq9zq; (repeat (first | exact hq9zq | refine List.mem_cons_of_mem _ ?_ | refine List.mem_append.mpr (.inr ?_) | refine Grows.sub (by assumption) _ ?_))); (case dzq => first | exact fun q9zq hq9zq => hq9zq | (intro q9zq hq9zq; (repeat (first | exact hq9zq | refine List.mem_cons_of_mem _ ?_ | refine List.mem_append.mpr (.inr ?_) | refine Grows.sub (by assumption) _ ?_))) | assumption); (case uzq => ktr_units))))) | (safely (with_reducible (k_here; (with_reducible show wpAny _ _ (call (Value.ref 154) [Value.ref _, Value.ref _, Value.int _ _]) _ _ _); k_dflt (refine' right_con' _ _ _ _ _ _ _ _ _ _ _ ?h1zq ?h2zq ?hszq ?htzq ?h3zq ?h4zq ?h5zq ?h6zq ?h7zq ?h8zq ?h9zq ?hazq ?hbzq ?hczq ?hezq _ _ _ _ _ _ _ _ _ _ _ _ _ _ _ _ _ ?k1zq ?k2zq ?k3zq ?k4zq ?k5zq ?kKzq ?kdzq ?kuzq ?_; (case k1zq => k_asm); (case k2zq => k_asm); (case k3zq => k_asm); (case k4zq => k_asm); (case k5zq => k_asm); (case h1zq => assumption); (case h2zq => assumption); (case hszq => intro q9zq hq9zq; (repeat (first | exact hq9zq | refine List.mem_cons_of_mem _ ?_))); (case htzq => intro q9zq hq9zq; (repeat (first | exact hq9zq | refine List.mem_cons_of_mem _ ?_))); (case h4zq => assumption); (case hbzq => assumption); (case h5zq => assumption); (case h6zq => assumption); (case h3zq => exact rfl); (case h7zq => assumption); (case h8zq => assumption); (case h9zq => assumption); (case hazq => assumption); (case hczq => assumption); (case hezq => assumption); (case kKzq => first | exact rfl | assumption); (case kdzq => ktr_room); (case kuzq => ktr_units)); (intro r9zq news9zq h9zq tk9zq F9zq N9zq hOzq; obtain ⟨e2zq, hG9zq⟩ := hOzq; subst e2zq; (try dsimp only); (try k_fold))))) | (safely (with_reducible (k_here; (with_reducible show wpAny _ _ (compareOp CmpOp.NotEq (Value.ref _) (Value.ref _)) _ _ _); k_dflt (first | (refine' ne_three ?Nzq ?azq ?bzq ?czq ?dzq ?ezq ?fzq ?uzq ?_; (case Nzq => k_asm); (case azq => k_mem); (case bzq => k_mem); (case czq => rfl); (case dzq => rfl); (case ezq => rfl); (case fzq => rfl); (case uzq => ktr_units)) | (refine' rows_ne ?Nzq ?azq ?bzq ?czq ?dzq ?uzq ?_; (case Nzq => k_asm); (case azq => assumption); (case czq => assumption); (case bzq => intro q9zq hq9zq; k_mem); (case dzq => intro q9zq hq9zq; k_mem); (case uzq => ktr_units))); (try simp only [eq_self, decide_true, Bool.not_true])))) | (safely (with_reducible (k_here; (with_reducible show wpAny _ _ (call (Value.ref 105) [Value.ref _, Value.int _ _]) _ _ _); k_dflt (refine' smoothed_con _ _ _ _ _ _ _ _ ?khzq ?kazq ?kbzq _ _ _ _ _ _ _ _ _ _ _ _ _ _ _ _ _ ?k1zq ?k2zq ?k3zq ?k4zq ?k5zq ?kKzq ?kdzq ?kuzq ?_; (case k1zq => k_asm); (case k2zq => k_asm); (case k3zq => k_asm); (case k4zq => k_asm); (case k5zq => k_asm); (case khzq => refine Pl.mono (by assumption) ?_; intro q9zq hq9zq; (repeat (first | assumption | refine List.mem_cons_of_mem _ ?_ | refine Grows.sub (by assumption) _ ?_))); (case kazq => assumption); (case kbzq => assumption); (case kKzq => first | exact rfl | assumption); (case kdzq => ktr_room); (case kuzq => ktr_units)); (intro r9zq news9zq h9zq tk9zq F9zq N9zq hOzq; obtain ⟨q9zq, c9zq, tl9zq, e2zq, etl9zq, hG9zq, hP9zq, hR9zq⟩ := hOzq; subst e2zq; (try dsimp only); (try k_fold))))) | (safely (with_reducible (k_here; (with_reducible show wpAny _ _ (call (Value.ref 161) [Value.ref _, Value.int _ _]) _ _ _); k_dflt (refine' refused_con _ _ _ _ ?khzq _ _ _ _ _ _ _ _ _ _ _ _ _ _ _ ?k1zq ?k2zq ?k3zq ?k4zq ?k5zq ?kKzq ?kdzq ?kuzq ?_; (case k1zq => k_asm); (case k2zq => k_asm); (case k3zq => k_asm); (case k4zq => k_asm); (case k5zq => k_asm); (case khzq => first | exact .inl (by omega) | exact .inr (by omega)); (case kKzq => first | exact rfl | assumption); (case kdzq => ktr_room); (case kuzq => ktr_units)); (intro r9zq news9zq h9zq tk9zq F9zq N9zq hOzq; obtain ⟨e2zq, e1zq⟩ := hOzq; rw [e1zq] at N9zq; clear e1zq; subst e2zq; (try dsimp only); (try k_fold))))) | (safely (with_reducible (k_here; (with_reducible show wpAny _ _ (call (Value.ref 84) [Value.int _ _, Value.int _ _, Value.ref _]) _ _ _); k_dflt (refine' plane_con _ _ _ _ _ _ _ _ _ _ _ _ _ _ _ _ _ _ _ _ _ _ _ ?k1zq ?k2zq ?k3zq ?k4zq ?k5zq ?kKzq ?kdzq ?kuzq ?_; (case k1zq => k_asm); (case k2zq => k_asm); (case k3zq => k_asm); (case k4zq => k_asm); (case k5zq => k_asm); (case kKzq => first | exact rfl | assumption); (case kdzq => ktr_room); (case kuzq => ktr_units)); (intro r9zq news9zq h9zq tk9zq F9zq N9zq hOzq; obtain ⟨q9zq, e2zq, hG9zq, hP9zq⟩ := hOzq; subst e2zq; (try dsimp only); (try k_fold))))) | (safely (with_reducible (k_here; (with_reducible show wpAny _ _ (call (Value.builtin "len") [Value.ref _]) _ _ _); k_dflt (refine' len_led ?Nzq ?mzq ?ezq ?azq ?bzq ?_; (case Nzq => k_asm); (case mzq => k_mem); (case ezq => assumption); (case azq => assumption); (case bzq => assumption))))) | (safely (with_reducible (k_here; (with_reducible show wpAny _ _ (subscriptTail (PySem.Expr.Subscript _ _ _) (PySem.Expr.Constant _ _ _) (Value.ref _) (Value.int _ _)) _ _ _); (with_unfolding_all refine' int_itemB ?Nzq ?mzq ?izq ?dzq ?ezq ?azq ?bzq ?czq ?_ ?szq; (case izq => with_reducible assumption); (case Nzq => with_reducible assumption); (case mzq => (repeat (first | with_reducible assumption | refine List.mem_cons_of_mem _ ?_ | refine List.mem_append.mpr (.inr ?_)))); (case dzq => with_reducible assumption); (case ezq => with_reducible assumption); (case azq => omega); (case bzq => omega); (case czq => omega); (case szq => with_unfolding_all rfl)); k_whole; intro t9zq a9zq ea9zq la9zq lb9zq))) | (safely (with_reducible (k_here; (with_reducible show wpAny _ _ (subscriptTail (PySem.Expr.Name _ _) (PySem.Expr.Constant _ _ _) (Value.ref _) (Value.int _ _)) _ _ _); (with_unfolding_all refine' row_itemB ?Nzq ?mzq ?zzq ?dzq ?ezq ?azq ?bzq ?czq ?_ ?szq; (case Nzq => with_reducible assumption); (case mzq => with_reducible assumption); (case dzq => with_reducible assumption); (case ezq => with_reducible assumption); (case zzq => intro q9zq hq9zq; (repeat (first | exact hq9zq | refine List.mem_cons_of_mem _ ?_ | refine List.mem_append.mpr (.inr ?_)))); (case azq => omega); (case bzq => omega); (case czq => omega); (case szq => with_unfolding_all rfl)); k_whole; intro c9zq us9zq n9zq hm9zq hi9zq hu9zq hl9zq hc9zq))) | (safely (with_reducible (k_here; (with_reducible show wpAny _ _ (call (Value.ref 133) [Value.ref _, Value.ref _]) _ _ _); k_dflt (refine' one_con _ _ _ _ _ _ _ _ _ _ _ ?kszq ?knzq ?klzq ?kvzq ?kwzq ?kazq ?kbzq ?kczq _ _ _ _ _ _ _ _ _ _ _ _ _ _ _ _ _ ?k1zq ?k2zq ?k3zq ?k4zq ?k5zq ?kKzq ?kdzq ?kuzq ?_; (case k1zq => k_asm); (case k2zq => k_asm); (case k3zq => k_asm); (case k4zq => k_asm); (case k5zq => k_asm); (case kszq => first | exact SplitL.here | exact SplitL.there .here | exact SplitL.there (.there .here) | exact SplitL.there (.there (.there .here)) | exact SplitL.there (.there (.there (.there .here))) | exact SplitL.there (.there (.there (.there (.there .here)))) | exact SplitL.there (.there (.there (.there (.there (.there .here))))) | exact SplitL.there (.there (.there (.there (.there (.there (.there .here))))))); (case knzq => k_all); (case klzq => k_mem); (case kvzq => exact Nat.zero_lt_succ _); (case kwzq => exact Nat.le_of_ble_eq_true rfl); (case kazq => assumption); (case kbzq => assumption); (case kczq => assumption); (case kKzq => first | exact rfl | assumption); (case kdzq => ktr_room); (case kuzq => ktr_units)); (intro r9zq news9zq h9zq tk9zq F9zq N9zq hOzq; obtain ⟨i9zq, a9zq, b9zq, t9zq, u9zq, n9zq, e2zq, a90zq, b90zq, b91zq, e1zq⟩ := hOzq; rw [e1zq] at N9zq; clear e1zq; (first | (have hp9zq := pick4 e2zq) | (have hp9zq := pick7 e2zq) | (have hp9zq := pickS e2zq)); obtain ⟨x9zq, tx9zq, ex9zq, hx9zq⟩ := hp9zq; clear e2zq; subst ex9zq; (try dsimp only); (try k_fold))))) | (safely (with_reducible (k_here; (with_reducible show wpAny _ _ (call (Value.ref 126) [Value.ref _, Value.int _ _]) _ _ _); k_dflt (refine' take_con _ _ _ _ _ _ _ _ _ _ ?kszq ?knzq ?kazq ?kbzq ?kczq ?ktzq ?kpzq _ _ _ _ _ _ _ _ _ _ _ _ _ _ _ _ _ ?k1zq ?k2zq ?k3zq ?k4zq ?k5zq ?kKzq ?kdzq ?kuzq ?_; (case k1zq => k_asm); (case k2zq => k_asm); (case k3zq => k_asm); (case k4zq => k_asm); (case k5zq => k_asm); (case kszq => first | exact SplitL.here | exact SplitL.there .here | exact SplitL.there (.there .here) | exact SplitL.there (.there (.there .here)) | exact SplitL.there (.there (.there (.there .here))) | exact SplitL.there (.there (.there (.there (.there .here)))) | exact SplitL.there (.there (.there (.there (.there (.there .here))))) | exact SplitL.there (.there (.there (.there (.there (.there (.there .here))))))); (case knzq => k_all); (case kazq => assumption); (case kbzq => assumption); (case kczq => assumption); (case ktzq => first | decide | assumption | omega); (case kpzq => first | decide | assumption | omega); (case kKzq => first | exact rfl | assumption); (case kdzq => ktr_room); (case kuzq => ktr_units)); (intro r9zq news9zq h9zq tk9zq F9zq N9zq hOzq; obtain ⟨d9zq, td9zq, a9zq, b9zq, t9zq, u9zq, n9zq, e2zq, d0zq, d1zq, a90zq, b90zq, b91zq, e1zq⟩ := hOzq; rw [e1zq] at N9zq; clear e1zq; subst e2zq; (try dsimp only); (try k_fold))))) | (have tokzq : PassTok := PassTok.mk; walk1 <;> (try clear tokzq))) | (k_unfold; (try dsimp only)) | (k_end; wrow_close) | walk1 | (dsimp only; walk1) | (leave1; walk_say "STEP leave1"; try dsimp only) | fail "no step")); (all_goals (try (with_reducible refine Halt.mk ?_))))
              rename News _ _ _ _ => lN'
              refine LCg.CompEnd.intro (by assumption) lN' ((S, _) :: (I, oI) :: (C, oC) :: (D, LCg.lst ys) :: (sQ.heap.objs.size + 1 + 1 + 1 + 1, o4) :: (sQ.heap.objs.size + 1 + 1 + 1, o3) :: (sQ.heap.objs.size + 1 + 1, o2) :: (sQ.heap.objs.size + 1, o1) :: (tl ++ rest)) perm4 ⟨off8.1, off8.2⟩ trivial ⟨_, _, _, _, _, ns ++ [_], rfl, by assumption, by assumption, by assumption, ints_snoc hI4 _ _, by simp [hl4], ?_⟩
              · intro c hc
                rcases List.mem_append.mp hc with hc | hc
                · exact hc4 c hc
                · rw [List.mem_singleton.mp hc]
                  exact ⟨by assumption, by assumption⟩
            · rintro g8 zs nx2 ⟨a4, b4, t4, u4, n4, ns, rfl, a40, b40, b41, hI4, hl4, hc4⟩
              unfold LCg.FinE
              intro D2 h8 tk8 F8 N8 off8
              clear lF' lN' rgX
              have hDn := off1_ne off8
              refine LCg.CompEnd.intro F8 N8 ((S, src a4 b4 t4 u4 n4) :: (sQ.heap.objs.size + 1 + 1 + 1 + 1, o4) :: (sQ.heap.objs.size + 1 + 1 + 1, o3) :: (sQ.heap.objs.size + 1 + 1, o2) :: (sQ.heap.objs.size + 1, o1) :: (((D2, LCg.lst zs) :: tl) ++ rest)) ?_ ⟨off.1, off.2.1, off.2.2.1, off.2.2.2.1, off.2.2.2.2.1, ⟨Ne.symm (hDn (I, oI) (.tail _ (.head _))), Ne.symm (hDn (C, oC) (.tail _ (.tail _ (.head _)))), Ne.symm (hDn (D, LCg.lst ys) (.tail _ (.tail _ (.tail _ (.head _)))))⟩, off.2.2.2.2.2⟩ trivial ⟨a4, b4, t4, u4, n4, (D2, LCg.lst zs) :: tl, rws ++ [ns], rfl, a40, b40, b41, ?_, RowVals.snoc (hR.mono fun q hq => List.mem_cons_of_mem _ hq) ⟨_, _, _, rfl, List.mem_cons_self, hI4⟩, by simp [hl], ?_, ?_⟩
              · exact perm9
              · intro p hp
                rcases List.mem_cons.mp hp with rfl | hp
                · exact ⟨Ne.symm (hDn (S, _) List.mem_cons_self), Ne.symm (hDn (sQ.heap.objs.size + 1 + 1 + 1 + 1, o4) (.tail _ (.tail _ (.tail _ (.tail _ (.head _)))))), Ne.symm (hDn (sQ.heap.objs.size + 1 + 1 + 1, o3) (.tail _ (.tail _ (.tail _ (.tail _ (.tail _ (.head _))))))), Ne.symm (hDn (sQ.heap.objs.size + 1 + 1, o2) (.tail _ (.tail _ (.tail _ (.tail _ (.tail _ (.tail _ (.head _)))))))), Ne.symm (hDn (sQ.heap.objs.size + 1, o1) (.tail _ (.tail _ (.tail _ (.tail _ (.tail _ (.tail _ (.tail _ (.head _)))))))))⟩
                · exact htl p hp
              · intro r hr
                rcases List.mem_append.mp hr with hr | hr
                · exact hw r hr
                · rw [List.mem_singleton.mp hr, hl4]
              · intro r hr c hc
                rcases List.mem_append.mp hr with hr | hr
                · exact hcl r hr c hc
                · rw [List.mem_singleton.mp hr] at hc
                  exact hc4 c hc
          · rintro g9 ys nx ⟨a3, b3, t3, u3, n3, tl, rws, rfl, a30, b30, b31, htl, hR, hl, hw, hcl⟩
            unfold LCg.FinE
            intro D2 h8 tk8 F8 N8 off8
            clear lF' lN' rgX
            have hDn := off1_ne off8
            have d1 : @Ne Nat D2 (sQ.heap.objs.size + 1) := Ne.symm (hDn (sQ.heap.objs.size + 1, o1) (.tail _ (.tail _ (.tail _ (.tail _ (.head _))))))
            have d2 : @Ne Nat D2 (sQ.heap.objs.size + 1 + 1) := Ne.symm (hDn (sQ.heap.objs.size + 1 + 1, o2) (.tail _ (.tail _ (.tail _ (.head _)))))
            have d3 : @Ne Nat D2 (sQ.heap.objs.size + 1 + 1 + 1) := Ne.symm (hDn (sQ.heap.objs.size + 1 + 1 + 1, o3) (.tail _ (.tail _ (.head _))))
            have d4 : @Ne Nat D2 (sQ.heap.objs.size + 1 + 1 + 1 + 1) := Ne.symm (hDn (sQ.heap.objs.size + 1 + 1 + 1 + 1, o4) (.tail _ (.head _)))
            have d5 : @Ne Nat D2 S := Ne.symm (hDn (S, _) List.mem_cons_self)
            have d6 : ∀ q ∈ tl ++ rest, q.1 ≠ D2 := fun q hq => hDn q (.tail _ (.tail _ (.tail _ (.tail _ (.tail _ hq)))))
            have r4' : ∀ q ∈ tl ++ rest, q.1 ≠ sQ.heap.objs.size + 1 + 1 + 1 + 1 := fun q hq => (List.mem_append.mp hq).elim (fun hq => (htl q hq).2.1) (r4 q)
            have r3' : ∀ q ∈ tl ++ rest, q.1 ≠ sQ.heap.objs.size + 1 + 1 + 1 := fun q hq => (List.mem_append.mp hq).elim (fun hq => (htl q hq).2.2.1) (r3 q)
            have r2' : ∀ q ∈ tl ++ rest, q.1 ≠ sQ.heap.objs.size + 1 + 1 := fun q hq => (List.mem_append.mp hq).elim (fun hq => (htl q hq).2.2.2.1) (r2 q)
            have r1' : ∀ q ∈ tl ++ rest, q.1 ≠ sQ.heap.objs.size + 1 := fun q hq => (List.mem_append.mp hq).elim (fun hq => (htl q hq).2.2.2.2) (r1 q)
            have rS' : ∀ q ∈ tl ++ rest, q.1 ≠ S := fun q hq => (List.mem_append.mp hq).elim (fun hq => (htl q hq).1) (rS q)
            (try k_fold)
            ((repeat' (first | ((with_reducible refine Halt.mk ?_); first | (safely (with_reducible (k_here; (with_reducible show wpAny _ _ (call (Value.ref 105) [Value.ref _, Value.int _ _]) _ _ _); (rename Pl _ _ _ _ _ _ (turned _ _ _) => hT9zq); k_dflt (refine' smoothed_con _ _ _ _ _ _ _ _ hT9zq ?kazq ?kbzq _ _ _ _ _ _ _ _ _ _ _ _ _ _ _ _ _ ?k1zq ?k2zq ?k3zq ?k4zq ?k5zq ?kKzq ?kdzq ?kuzq ?_; (case k1zq => k_asm); (case k2zq => k_asm); (case k3zq => k_asm); (case k4zq => k_asm); (case k5zq => k_asm); (case kazq => assumption); (case kbzq => assumption); (case kKzq => first | exact rfl | assumption); (case kdzq => ktr_room); (case kuzq => ktr_units)); (intro r9zq news9zq h9zq tk9zq F9zq N9zq hOzq; obtain ⟨q9zq, c9zq, tl9zq, e2zq, -, hG9zq, hP9zq, -⟩ := hOzq; subst e2zq); (with_unfolding_all (have hS9zq := hP9zq.rs; have hA9zq := hP9zq.pl; obtain ⟨dx9zq, w1zq, w2zq, w3zq, w4zq, w5zq, n9zq, hp1zq, hp2zq⟩ := hA9zq)); ((try dsimp only); (try k_fold))))) | (safely (with_reducible (k_here; (with_reducible show wpAny _ _ (call (Value.ref 100) [Value.ref _, Value.str _ _]) _ _ _); k_dflt (refine' turned_con _ _ _ _ _ _ _ _ ?khzq ?kwzq _ _ _ _ _ _ _ _ _ _ _ _ _ _ _ _ _ ?k1zq ?k2zq ?k3zq ?k4zq ?k5zq ?kKzq ?kdzq ?kuzq ?_; (case k1zq => k_asm); (case k2zq => k_asm); (case k3zq => k_asm); (case k4zq => k_asm); (case k5zq => k_asm); (case khzq => refine Pl.mono (by assumption) ?_; intro q9zq hq9zq; (repeat (first | exact hq9zq | refine List.mem_cons_of_mem _ ?_ | refine Grows.sub (by assumption) _ ?_))); (case kwzq => assumption); (case kKzq => first | exact rfl | assumption); (case kdzq => ktr_room); (case kuzq => ktr_units)); (intro r9zq news9zq h9zq tk9zq F9zq N9zq hOzq; obtain ⟨q9zq, c9zq, e2zq, hG9zq, hP9zq⟩ := hOzq; subst e2zq); (with_unfolding_all (have hS9zq := hP9zq.rs; have hA9zq := hP9zq.pl; obtain ⟨dx9zq, w1zq, w2zq, w3zq, w4zq, w5zq, n9zq, hp1zq, hp2zq⟩ := hA9zq)); ((try dsimp only); (try k_fold))))) | (safely (with_reducible (k_here; (with_reducible show wpAny _ _ (compareOp CmpOp.Eq (Value.ref _) (Value.ref _)) _ _ _); k_dflt (refine' rows_eq ?Nzq ?azq ?bzq ?czq ?dzq ?uzq ?_; (case Nzq => k_asm); (case azq => assumption); (case czq => assumption); (case bzq => intro q9zq hq9zq; (repeat (first | exact hq9zq | refine List.mem_cons_of_mem _ ?_ | refine List.mem_append.mpr (.inr ?_) | refine Grows.sub (by assumption) _ ?_))); (case dzq => first | exact fun q9zq hq9zq => hq9zq | (intro q9zq hq9zq; (repeat (first | exact hq9zq | refine List.mem_cons_of_mem _ ?_ | refine List.mem_append.mpr (.inr ?_) | refine Grows.sub (by assumption) _ ?_))) | assumption); (case uzq => ktr_units))))) | (safely (with_reducible (k_here; (with_reducible show wpAny _ _ (call (Value.ref 154) [Value.ref _, Value.ref _, Value.int _ _]) _ _ _); k_dflt (refine' right_con' _ _ _ _ _ _ _ _ _ _ _ ?h1zq ?h2zq ?hszq ?htzq ?h3zq ?h4zq ?h5zq ?h6zq ?h7zq ?h8zq ?h9zq ?hazq ?hbzq ?hczq ?hezq _ _ _ _ _ _ _ _ _ _ _ _ _ _ _ _ _ ?k1zq ?k2zq ?k3zq ?k4zq ?k5zq ?kKzq ?kdzq ?kuzq ?_; (case k1zq => k_asm); (case k2zq => k_asm); (case k3zq => k_asm); (case k4zq => k_asm); (case k5zq => k_asm); (case h1zq => assumption); (case h2zq => assumption); (case hszq => intro q9zq hq9zq; (repeat (first | exact hq9zq | refine List.mem_cons_of_mem _ ?_))); (case htzq => intro q9zq hq9zq; (repeat (first | exact hq9zq | refine List.mem_cons_of_mem _ ?_))); (case h4zq => assumption); (case hbzq => assumption); (case h5zq => assumption); (case h6zq => assumption); (case h3zq => exact rfl); (case h7zq => assumption); (case h8zq => assumption); (case h9zq => assumption); (case hazq => assumption); (case hczq => assumption); (case hezq => assumption); (case kKzq => first | exact rfl | assumption); (case kdzq => ktr_room); (case kuzq => ktr_units)); (intro r9zq news9zq h9zq tk9zq F9zq N9zq hOzq; obtain ⟨e2zq, hG9zq⟩ := hOzq; subst e2zq; (try dsimp only); (try k_fold))))) | (safely (with_reducible (k_here; (with_reducible show wpAny _ _ (compareOp CmpOp.NotEq (Value.ref _) (Value.ref _)) _ _ _); k_dflt (first | (refine' ne_three ?Nzq ?azq ?bzq ?czq ?dzq ?ezq ?fzq ?uzq ?_; (case Nzq => k_asm); (case azq => k_mem); (case bzq => k_mem); (case czq => rfl); (case dzq => rfl); (case ezq => rfl); (case fzq => rfl); (case uzq => ktr_units)) | (refine' rows_ne ?Nzq ?azq ?bzq ?czq ?dzq ?uzq ?_; (case Nzq => k_asm); (case azq => assumption); (case czq => assumption); (case bzq => intro q9zq hq9zq; k_mem); (case dzq => intro q9zq hq9zq; k_mem); (case uzq => ktr_units))); (try simp only [eq_self, decide_true, Bool.not_true])))) | (safely (with_reducible (k_here; (with_reducible show wpAny _ _ (call (Value.ref 105) [Value.ref _, Value.int _ _]) _ _ _); k_dflt (refine' smoothed_con _ _ _ _ _ _ _ _ ?khzq ?kazq ?kbzq _ _ _ _ _ _ _ _ _ _ _ _ _ _ _ _ _ ?k1zq ?k2zq ?k3zq ?k4zq ?k5zq ?kKzq ?kdzq ?kuzq ?_; (case k1zq => k_asm); (case k2zq => k_asm); (case k3zq => k_asm); (case k4zq => k_asm); (case k5zq => k_asm); (case khzq => refine Pl.mono (by assumption) ?_; intro q9zq hq9zq; (repeat (first | assumption | refine List.mem_cons_of_mem _ ?_ | refine Grows.sub (by assumption) _ ?_))); (case kazq => assumption); (case kbzq => assumption); (case kKzq => first | exact rfl | assumption); (case kdzq => ktr_room); (case kuzq => ktr_units)); (intro r9zq news9zq h9zq tk9zq F9zq N9zq hOzq; obtain ⟨q9zq, c9zq, tl9zq, e2zq, etl9zq, hG9zq, hP9zq, hR9zq⟩ := hOzq; subst e2zq; (try dsimp only); (try k_fold))))) | (safely (with_reducible (k_here; (with_reducible show wpAny _ _ (call (Value.ref 161) [Value.ref _, Value.int _ _]) _ _ _); k_dflt (refine' refused_con _ _ _ _ ?khzq _ _ _ _ _ _ _ _ _ _ _ _ _ _ _ ?k1zq ?k2zq ?k3zq ?k4zq ?k5zq ?kKzq ?kdzq ?kuzq ?_; (case k1zq => k_asm); (case k2zq => k_asm); (case k3zq => k_asm); (case k4zq => k_asm); (case k5zq => k_asm); (case khzq => first | exact .inl (by omega) | exact .inr (by omega)); (case kKzq => first | exact rfl | assumption); (case kdzq => ktr_room); (case kuzq => ktr_units)); (intro r9zq news9zq h9zq tk9zq F9zq N9zq hOzq; obtain ⟨e2zq, e1zq⟩ := hOzq; rw [e1zq] at N9zq; clear e1zq; subst e2zq; (try dsimp only); (try k_fold))))) | (safely (with_reducible (k_here; (with_reducible show wpAny _ _ (call (Value.ref 84) [Value.int _ _, Value.int _ _, Value.ref _]) _ _ _); k_dflt (refine' plane_con _ _ _ _ _ _ _ _ _ _ _ _ _ _ _ _ _ _ _ _ _ _ _ ?k1zq ?k2zq ?k3zq ?k4zq ?k5zq ?kKzq ?kdzq ?kuzq ?_; (case k1zq => k_asm); (case k2zq => k_asm); (case k3zq => k_asm); (case k4zq => k_asm); (case k5zq => k_asm); (case kKzq => first | exact rfl | assumption); (case kdzq => ktr_room); (case kuzq => ktr_units)); (intro r9zq news9zq h9zq tk9zq F9zq N9zq hOzq; obtain ⟨q9zq, e2zq, hG9zq, hP9zq⟩ := hOzq; subst e2zq; (try dsimp only); (try k_fold))))) | (safely (with_reducible (k_here; (with_reducible show wpAny _ _ (call (Value.builtin "len") [Value.ref _]) _ _ _); k_dflt (refine' len_led ?Nzq ?mzq ?ezq ?azq ?bzq ?_; (case Nzq => k_asm); (case mzq => k_mem); (case ezq => assumption); (case azq => assumption); (case bzq => assumption))))) | (safely (with_reducible (k_here; (with_reducible show wpAny _ _ (subscriptTail (PySem.Expr.Subscript _ _ _) (PySem.Expr.Constant _ _ _) (Value.ref _) (Value.int _ _)) _ _ _); (with_unfolding_all refine' int_itemB ?Nzq ?mzq ?izq ?dzq ?ezq ?azq ?bzq ?czq ?_ ?szq; (case izq => with_reducible assumption); (case Nzq => with_reducible assumption); (case mzq => (repeat (first | with_reducible assumption | refine List.mem_cons_of_mem _ ?_ | refine List.mem_append.mpr (.inr ?_)))); (case dzq => with_reducible assumption); (case ezq => with_reducible assumption); (case azq => omega); (case bzq => omega); (case czq => omega); (case szq => with_unfolding_all rfl)); k_whole; intro t9zq a9zq ea9zq la9zq lb9zq))) | (safely (with_reducible (k_here; (with_reducible show wpAny _ _ (subscriptTail (PySem.Expr.Name _ _) (PySem.Expr.Constant _ _ _) (Value.ref _) (Value.int _ _)) _ _ _); (with_unfolding_all refine' row_itemB ?Nzq ?mzq ?zzq ?dzq ?ezq ?azq ?bzq ?czq ?_ ?szq; (case Nzq => with_reducible assumption); (case mzq => with_reducible assumption); (case dzq => with_reducible assumption); (case ezq => with_reducible assumption); (case zzq => intro q9zq hq9zq; (repeat (first | exact hq9zq | refine List.mem_cons_of_mem _ ?_ | refine List.mem_append.mpr (.inr ?_)))); (case azq => omega); (case bzq => omega); (case czq => omega); (case szq => with_unfolding_all rfl)); k_whole; intro c9zq us9zq n9zq hm9zq hi9zq hu9zq hl9zq hc9zq))) | (safely (with_reducible (k_here; (with_reducible show wpAny _ _ (call (Value.ref 133) [Value.ref _, Value.ref _]) _ _ _); k_dflt (refine' one_con _ _ _ _ _ _ _ _ _ _ _ ?kszq ?knzq ?klzq ?kvzq ?kwzq ?kazq ?kbzq ?kczq _ _ _ _ _ _ _ _ _ _ _ _ _ _ _ _ _ ?k1zq ?k2zq ?k3zq ?k4zq ?k5zq ?kKzq ?kdzq ?kuzq ?_; (case k1zq => k_asm); (case k2zq => k_asm); (case k3zq => k_asm); (case k4zq => k_asm); (case k5zq => k_asm); (case kszq => first | exact SplitL.here | exact SplitL.there .here | exact SplitL.there (.there .here) | exact SplitL.there (.there (.there .here)) | exact SplitL.there (.there (.there (.there .here))) | exact SplitL.there (.there (.there (.there (.there .here)))) | exact SplitL.there (.there (.there (.there (.there (.there .here))))) | exact SplitL.there (.there (.there (.there (.there (.there (.there .here))))))); (case knzq => k_all); (case klzq => k_mem); (case kvzq => exact Nat.zero_lt_succ _); (case kwzq => exact Nat.le_of_ble_eq_true rfl); (case kazq => assumption); (case kbzq => assumption); (case kczq => assumption); (case kKzq => first | exact rfl | assumption); (case kdzq => ktr_room); (case kuzq => ktr_units)); (intro r9zq news9zq h9zq tk9zq F9zq N9zq hOzq; obtain ⟨i9zq, a9zq, b9zq, t9zq, u9zq, n9zq, e2zq, a90zq, b90zq, b91zq, e1zq⟩ := hOzq; rw [e1zq] at N9zq; clear e1zq; (first | (have hp9zq := pick4 e2zq) | (have hp9zq := pick7 e2zq) | (have hp9zq := pickS e2zq)); obtain ⟨x9zq, tx9zq, ex9zq, hx9zq⟩ := hp9zq; clear e2zq; subst ex9zq; (try dsimp only); (try k_fold))))) | (safely (with_reducible (k_here; (with_reducible show wpAny _ _ (call (Value.ref 126) [Value.ref _, Value.int _ _]) _ _ _); k_dflt (refine' take_con _ _ _ _ _ _ _ _ _ _ ?kszq ?knzq ?kazq ?kbzq ?kczq ?ktzq ?kpzq _ _ _ _ _ _ _ _ _ _ _ _ _ _ _ _ _ ?k1zq ?k2zq ?k3zq ?k4zq ?k5zq ?kKzq ?kdzq ?kuzq ?_; (case k1zq => k_asm); (case k2zq => k_asm); (case k3zq => k_asm); (case k4zq => k_asm); (case k5zq => k_asm); (case kszq => first | exact SplitL.here | exact SplitL.there .here | exact SplitL.there (.there .here) | exact SplitL.there (.there (.there .here)) | exact SplitL.there (.there (.there (.there .here))) | exact SplitL.there (.there (.there (.there (.there .here)))) | exact SplitL.there (.there (.there (.there (.there (.there .here))))) | exact SplitL.there (.there (.there (.there (.there (.there (.there .here))))))); (case knzq => k_all); (case kazq => assumption); (case kbzq => assumption); (case kczq => assumption); (case ktzq => first | decide | assumption | omega); (case kpzq => first | decide | assumption | omega); (case kKzq => first | exact rfl | assumption); (case kdzq => ktr_room); (case kuzq => ktr_units)); (intro r9zq news9zq h9zq tk9zq F9zq N9zq hOzq; obtain ⟨d9zq, td9zq, a9zq, b9zq, t9zq, u9zq, n9zq, e2zq, d0zq, d1zq, a90zq, b90zq, b91zq, e1zq⟩ := hOzq; rw [e1zq] at N9zq; clear e1zq; subst e2zq; (try dsimp only); (try k_fold))))) | (have tokzq : PassTok := PassTok.mk; walk1 <;> (try clear tokzq))) | (k_unfold; (try dsimp only)) | (k_end; wrow_close) | walk1 | (dsimp only; walk1) | (leave1; walk_say "STEP leave1"; try dsimp only) | fail "no step")); (all_goals (try (with_reducible refine Halt.mk ?_))))
            · trivial
            · rename Fr _ _ _ _ => lF'
              rename News _ _ _ _ => lN'
              refine LSx_mk (S := S) (rest := (D2, LCg.lst ys) :: (tl ++ rest)) lF' (sub_news lN' perm6) c1 c2 c3 (by assumption) a30 b30 b31 s1' s2' s3' s4' (ne_cons d5 rS') (ne_cons d1 r1') (ne_cons d2 r2') (ne_cons d3 r3') (ne_cons d4 r4') ?_
              refine ⟨W, H, D2, rws, _, _, w0, w4, h0, h4, rfl, rfl, by with_unfolding_all rfl, ?_, ?_, hw, fun r hr c hc => ⟨(hcl r hr c hc).1, ?_⟩⟩
              · exact (hR.mono fun q hq => List.mem_cons_of_mem _ (List.mem_append.mpr (.inl hq))).rows List.mem_cons_self
              · exact hl
              · have := (hcl r hr c hc).2
                omega
        · clear F2' N2 c1 c2 c3 c4 a0 b0 b1' s1' s2' s3' s4' rS r1 r2 r3 r4 ecw ecm ehigh w0 w4 h0 h4 m0 m6
          rintro m3 h3 tk3 S cw cm cr a1 b1 t1 u1 n1 o1 o2 o3 o4 rest F3 N3 c1 c2 c3 c4 a0 b0 b1' s1' s2' s3' s4' rS r1 r2 r3 r4 hp9
          refine RowsP_elim hp9 ?_
          clear hp9
          rintro W H R rows tW tH w0 w4 h0 h4 ecw ecr ehigh hr hl wl hc
          rw [ecw] at c2
          rw [ecr] at c4
          have F3' := fr_pin F3 ehigh
          clear F3
          dsimp only
          refine wpAny_execs_cons ?_
          refine cut_law F3' RowsP ?_ ?_
          · --S4
            have hHn : H = ((H.toNat : Nat) : Int) := by omega
            have hWn : W = ((W.toNat : Nat) : Int) := by omega
            ((repeat' (first | ((with_reducible refine Halt.mk ?_); first | (safely (with_reducible (k_here; (with_reducible show wpAny _ _ (call (Value.ref 105) [Value.ref _, Value.int _ _]) _ _ _); (rename Pl _ _ _ _ _ _ (turned _ _ _) => hT9zq); k_dflt (refine' smoothed_con _ _ _ _ _ _ _ _ hT9zq ?kazq ?kbzq _ _ _ _ _ _ _ _ _ _ _ _ _ _ _ _ _ ?k1zq ?k2zq ?k3zq ?k4zq ?k5zq ?kKzq ?kdzq ?kuzq ?_; (case k1zq => k_asm); (case k2zq => k_asm); (case k3zq => k_asm); (case k4zq => k_asm); (case k5zq => k_asm); (case kazq => assumption); (case kbzq => assumption); (case kKzq => first | exact rfl | assumption); (case kdzq => ktr_room); (case kuzq => ktr_units)); (intro r9zq news9zq h9zq tk9zq F9zq N9zq hOzq; obtain ⟨q9zq, c9zq, tl9zq, e2zq, -, hG9zq, hP9zq, -⟩ := hOzq; subst e2zq); (with_unfolding_all (have hS9zq := hP9zq.rs; have hA9zq := hP9zq.pl; obtain ⟨dx9zq, w1zq, w2zq, w3zq, w4zq, w5zq, n9zq, hp1zq, hp2zq⟩ := hA9zq)); ((try dsimp only); (try k_fold))))) | (safely (with_reducible (k_here; (with_reducible show wpAny _ _ (call (Value.ref 100) [Value.ref _, Value.str _ _]) _ _ _); k_dflt (refine' turned_con _ _ _ _ _ _ _ _ ?khzq ?kwzq _ _ _ _ _ _ _ _ _ _ _ _ _ _ _ _ _ ?k1zq ?k2zq ?k3zq ?k4zq ?k5zq ?kKzq ?kdzq ?kuzq ?_; (case k1zq => k_asm); (case k2zq => k_asm); (case k3zq => k_asm); (case k4zq => k_asm); (case k5zq => k_asm); (case khzq => refine Pl.mono (by assumption) ?_; intro q9zq hq9zq; (repeat (first | exact hq9zq | refine List.mem_cons_of_mem _ ?_ | refine Grows.sub (by assumption) _ ?_))); (case kwzq => assumption); (case kKzq => first | exact rfl | assumption); (case kdzq => ktr_room); (case kuzq => ktr_units)); (intro r9zq news9zq h9zq tk9zq F9zq N9zq hOzq; obtain ⟨q9zq, c9zq, e2zq, hG9zq, hP9zq⟩ := hOzq; subst e2zq); (with_unfolding_all (have hS9zq := hP9zq.rs; have hA9zq := hP9zq.pl; obtain ⟨dx9zq, w1zq, w2zq, w3zq, w4zq, w5zq, n9zq, hp1zq, hp2zq⟩ := hA9zq)); ((try dsimp only); (try k_fold))))) | (safely (with_reducible (k_here; (with_reducible show wpAny _ _ (compareOp CmpOp.Eq (Value.ref _) (Value.ref _)) _ _ _); k_dflt (refine' rows_eq ?Nzq ?azq ?bzq ?czq ?dzq ?uzq ?_; (case Nzq => k_asm); (case azq => assumption); (case czq => assumption); (case bzq => intro q9zq hq9zq; (repeat (first | exact hq9zq | refine List.mem_cons_of_mem _ ?_ | refine List.mem_append.mpr (.inr ?_) | refine Grows.sub (by assumption) _ ?_))); (case dzq => first | exact fun q9zq hq9zq => hq9zq | (intro q9zq hq9zq; (repeat (first | exact hq9zq | refine List.mem_cons_of_mem _ ?_ | refine List.mem_append.mpr (.inr ?_) | refine Grows.sub (by assumption) _ ?_))) | assumption); (case uzq => ktr_units))))) | (safely (with_reducible (k_here; (with_reducible show wpAny _ _ (call (Value.ref 154) [Value.ref _, Value.ref _, Value.int _ _]) _ _ _); k_dflt (refine' right_con' _ _ _ _ _ _ _ _ _ _ _ ?h1zq ?h2zq ?hszq ?htzq ?h3zq ?h4zq ?h5zq ?h6zq ?h7zq ?h8zq ?h9zq ?hazq ?hbzq ?hczq ?hezq _ _ _ _ _ _ _ _ _ _ _ _ _ _ _ _ _ ?k1zq ?k2zq ?k3zq ?k4zq ?k5zq ?kKzq ?kdzq ?kuzq ?_; (case k1zq => k_asm); (case k2zq => k_asm); (case k3zq => k_asm); (case k4zq => k_asm); (case k5zq => k_asm); (case h1zq => assumption); (case h2zq => assumption); (case hszq => intro q9zq hq9zq; (repeat (first | exact hq9zq | refine List.mem_cons_of_mem _ ?_))); (case htzq => intro q9zq hq9zq; (repeat (first | exact hq9zq | refine List.mem_cons_of_mem _ ?_))); (case h4zq => assumption); (case hbzq => assumption); (case h5zq => assumption); (case h6zq => assumption); (case h3zq => exact rfl); (case h7zq => assumption); (case h8zq => assumption); (case h9zq => assumption); (case hazq => assumption); (case hczq => assumption); (case hezq => assumption); (case kKzq => first | exact rfl | assumption); (case kdzq => ktr_room); (case kuzq => ktr_units)); (intro r9zq news9zq h9zq tk9zq F9zq N9zq hOzq; obtain ⟨e2zq, hG9zq⟩ := hOzq; subst e2zq; (try dsimp only); (try k_fold))))) | (safely (with_reducible (k_here; (with_reducible show wpAny _ _ (compareOp CmpOp.NotEq (Value.ref _) (Value.ref _)) _ _ _); k_dflt (first | (refine' ne_three ?Nzq ?azq ?bzq ?czq ?dzq ?ezq ?fzq ?uzq ?_; (case Nzq => k_asm); (case azq => k_mem); (case bzq => k_mem); (case czq => rfl); (case dzq => rfl); (case ezq => rfl); (case fzq => rfl); (case uzq => ktr_units)) | (refine' rows_ne ?Nzq ?azq ?bzq ?czq ?dzq ?uzq ?_; (case Nzq => k_asm); (case azq => assumption); (case czq => assumption); (case bzq => intro q9zq hq9zq; k_mem); (case dzq => intro q9zq hq9zq; k_mem); (case uzq => ktr_units))); (try simp only [eq_self, decide_true, Bool.not_true])))) | (safely (with_reducible (k_here; (with_reducible show wpAny _ _ (call (Value.ref 105) [Value.ref _, Value.int _ _]) _ _ _); k_dflt (refine' smoothed_con _ _ _ _ _ _ _ _ ?khzq ?kazq ?kbzq _ _ _ _ _ _ _ _ _ _ _ _ _ _ _ _ _ ?k1zq ?k2zq ?k3zq ?k4zq ?k5zq ?kKzq ?kdzq ?kuzq ?_; (case k1zq => k_asm); (case k2zq => k_asm); (case k3zq => k_asm); (case k4zq => k_asm); (case k5zq => k_asm); (case khzq => refine Pl.mono (by assumption) ?_; intro q9zq hq9zq; (repeat (first | assumption | refine List.mem_cons_of_mem _ ?_ | refine Grows.sub (by assumption) _ ?_))); (case kazq => assumption); (case kbzq => assumption); (case kKzq => first | exact rfl | assumption); (case kdzq => ktr_room); (case kuzq => ktr_units)); (intro r9zq news9zq h9zq tk9zq F9zq N9zq hOzq; obtain ⟨q9zq, c9zq, tl9zq, e2zq, etl9zq, hG9zq, hP9zq, hR9zq⟩ := hOzq; subst e2zq; (try dsimp only); (try k_fold))))) | (safely (with_reducible (k_here; (with_reducible show wpAny _ _ (call (Value.ref 161) [Value.ref _, Value.int _ _]) _ _ _); k_dflt (refine' refused_con _ _ _ _ ?khzq _ _ _ _ _ _ _ _ _ _ _ _ _ _ _ ?k1zq ?k2zq ?k3zq ?k4zq ?k5zq ?kKzq ?kdzq ?kuzq ?_; (case k1zq => k_asm); (case k2zq => k_asm); (case k3zq => k_asm); (case k4zq => k_asm); (case k5zq => k_asm); (case khzq => first | exact .inl (by omega) | exact .inr (by omega)); (case kKzq => first | exact rfl | assumption); (case kdzq => ktr_room); (case kuzq => ktr_units)); (intro r9zq news9zq h9zq tk9zq F9zq N9zq hOzq; obtain ⟨e2zq, e1zq⟩ := hOzq; rw [e1zq] at N9zq; clear e1zq; subst e2zq; (try dsimp only); (try k_fold))))) | (safely (with_reducible (k_here; (with_reducible show wpAny _ _ (call (Value.ref 84) [Value.int _ _, Value.int _ _, Value.ref _]) _ _ _); k_dflt (refine' plane_con _ _ _ _ _ _ _ _ _ _ _ _ _ _ _ _ _ _ _ _ _ _ _ ?k1zq ?k2zq ?k3zq ?k4zq ?k5zq ?kKzq ?kdzq ?kuzq ?_; (case k1zq => k_asm); (case k2zq => k_asm); (case k3zq => k_asm); (case k4zq => k_asm); (case k5zq => k_asm); (case kKzq => first | exact rfl | assumption); (case kdzq => ktr_room); (case kuzq => ktr_units)); (intro r9zq news9zq h9zq tk9zq F9zq N9zq hOzq; obtain ⟨q9zq, e2zq, hG9zq, hP9zq⟩ := hOzq; subst e2zq; (try dsimp only); (try k_fold))))) | (safely (with_reducible (k_here; (with_reducible show wpAny _ _ (call (Value.builtin "len") [Value.ref _]) _ _ _); k_dflt (refine' len_led ?Nzq ?mzq ?ezq ?azq ?bzq ?_; (case Nzq => k_asm); (case mzq => k_mem); (case ezq => assumption); (case azq => assumption); (case bzq => assumption))))) | (safely (with_reducible (k_here; (with_reducible show wpAny _ _ (subscriptTail (PySem.Expr.Subscript _ _ _) (PySem.Expr.Constant _ _ _) (Value.ref _) (Value.int _ _)) _ _ _); (with_unfolding_all refine' int_itemB ?Nzq ?mzq ?izq ?dzq ?ezq ?azq ?bzq ?czq ?_ ?szq; (case izq => with_reducible assumption); (case Nzq => with_reducible assumption); (case mzq => (repeat (first | with_reducible assumption | refine List.mem_cons_of_mem _ ?_ | refine List.mem_append.mpr (.inr ?_)))); (case dzq => with_reducible assumption); (case ezq => with_reducible assumption); (case azq => omega); (case bzq => omega); (case czq => omega); (case szq => with_unfolding_all rfl)); k_whole; intro t9zq a9zq ea9zq la9zq lb9zq))) | (safely (with_reducible (k_here; (with_reducible show wpAny _ _ (subscriptTail (PySem.Expr.Name _ _) (PySem.Expr.Constant _ _ _) (Value.ref _) (Value.int _ _)) _ _ _); (with_unfolding_all refine' row_itemB ?Nzq ?mzq ?zzq ?dzq ?ezq ?azq ?bzq ?czq ?_ ?szq; (case Nzq => with_reducible assumption); (case mzq => with_reducible assumption); (case dzq => with_reducible assumption); (case ezq => with_reducible assumption); (case zzq => intro q9zq hq9zq; (repeat (first | exact hq9zq | refine List.mem_cons_of_mem _ ?_ | refine List.mem_append.mpr (.inr ?_)))); (case azq => omega); (case bzq => omega); (case czq => omega); (case szq => with_unfolding_all rfl)); k_whole; intro c9zq us9zq n9zq hm9zq hi9zq hu9zq hl9zq hc9zq))) | (safely (with_reducible (k_here; (with_reducible show wpAny _ _ (call (Value.ref 133) [Value.ref _, Value.ref _]) _ _ _); k_dflt (refine' one_con _ _ _ _ _ _ _ _ _ _ _ ?kszq ?knzq ?klzq ?kvzq ?kwzq ?kazq ?kbzq ?kczq _ _ _ _ _ _ _ _ _ _ _ _ _ _ _ _ _ ?k1zq ?k2zq ?k3zq ?k4zq ?k5zq ?kKzq ?kdzq ?kuzq ?_; (case k1zq => k_asm); (case k2zq => k_asm); (case k3zq => k_asm); (case k4zq => k_asm); (case k5zq => k_asm); (case kszq => first | exact SplitL.here | exact SplitL.there .here | exact SplitL.there (.there .here) | exact SplitL.there (.there (.there .here)) | exact SplitL.there (.there (.there (.there .here))) | exact SplitL.there (.there (.there (.there (.there .here)))) | exact SplitL.there (.there (.there (.there (.there (.there .here))))) | exact SplitL.there (.there (.there (.there (.there (.there (.there .here))))))); (case knzq => k_all); (case klzq => k_mem); (case kvzq => exact Nat.zero_lt_succ _); (case kwzq => exact Nat.le_of_ble_eq_true rfl); (case kazq => assumption); (case kbzq => assumption); (case kczq => assumption); (case kKzq => first | exact rfl | assumption); (case kdzq => ktr_room); (case kuzq => ktr_units)); (intro r9zq news9zq h9zq tk9zq F9zq N9zq hOzq; obtain ⟨i9zq, a9zq, b9zq, t9zq, u9zq, n9zq, e2zq, a90zq, b90zq, b91zq, e1zq⟩ := hOzq; rw [e1zq] at N9zq; clear e1zq; (first | (have hp9zq := pick4 e2zq) | (have hp9zq := pick7 e2zq) | (have hp9zq := pickS e2zq)); obtain ⟨x9zq, tx9zq, ex9zq, hx9zq⟩ := hp9zq; clear e2zq; subst ex9zq; (try dsimp only); (try k_fold))))) | (safely (with_reducible (k_here; (with_reducible show wpAny _ _ (call (Value.ref 126) [Value.ref _, Value.int _ _]) _ _ _); k_dflt (refine' take_con _ _ _ _ _ _ _ _ _ _ ?kszq ?knzq ?kazq ?kbzq ?kczq ?ktzq ?kpzq _ _ _ _ _ _ _ _ _ _ _ _ _ _ _ _ _ ?k1zq ?k2zq ?k3zq ?k4zq ?k5zq ?kKzq ?kdzq ?kuzq ?_; (case k1zq => k_asm); (case k2zq => k_asm); (case k3zq => k_asm); (case k4zq => k_asm); (case k5zq => k_asm); (case kszq => first | exact SplitL.here | exact SplitL.there .here | exact SplitL.there (.there .here) | exact SplitL.there (.there (.there .here)) | exact SplitL.there (.there (.there (.there .here))) | exact SplitL.there (.there (.there (.there (.there .here)))) | exact SplitL.there (.there (.there (.there (.there (.there .here))))) | exact SplitL.there (.there (.there (.there (.there (.there (.there .here))))))); (case knzq => k_all); (case kazq => assumption); (case kbzq => assumption); (case kczq => assumption); (case ktzq => first | decide | assumption | omega); (case kpzq => first | decide | assumption | omega); (case kKzq => first | exact rfl | assumption); (case kdzq => ktr_room); (case kuzq => ktr_units)); (intro r9zq news9zq h9zq tk9zq F9zq N9zq hOzq; obtain ⟨d9zq, td9zq, a9zq, b9zq, t9zq, u9zq, n9zq, e2zq, d0zq, d1zq, a90zq, b90zq, b91zq, e1zq⟩ := hOzq; rw [e1zq] at N9zq; clear e1zq; subst e2zq; (try dsimp only); (try k_fold))))) | (have tokzq : PassTok := PassTok.mk; walk1 <;> (try clear tokzq))) | (k_unfold; (try dsimp only)) | (k_end; wrow_close) | walk1 | (dsimp only; walk1) | (leave1; walk_say "STEP leave1"; try dsimp only) | fail "no step")); (all_goals (try (with_reducible refine Halt.mk ?_))))
            · dsimp only
              rename Fr _ _ _ _ => lF'
              rename News _ _ _ _ => lN'
              rename IsRange _ _ _ _ _ _ _ _ => rgX
              dsimp only at rgX
              refine led_obj lN' fun oS eS => ?_
              rw [← eS] at lN'
              with_unfolding_all refine crange_J (JC _ S oS o1 o2 o3 o4 rest W ((rows.getD 0 []).getD 0 0)) rfl lF' lN' rgX hHn (by simp only [sizeLine]; omega) ⟨[], rfl, (fun _ h => nomatch h), RowVals.nil _⟩ ?_ ?_
              · rintro i ys nx t9 I oI C oC D m9 h9 tk9 E9 hi ⟨tl, rfl, htl, hR⟩ hC hx F9 N9 off ne
                clear lF' lN' rgX eS
                (try k_fold)
                ((repeat' (first | ((with_reducible refine Halt.mk ?_); first | (safely (with_reducible (k_here; (with_reducible show wpAny _ _ (call (Value.ref 105) [Value.ref _, Value.int _ _]) _ _ _); (rename Pl _ _ _ _ _ _ (turned _ _ _) => hT9zq); k_dflt (refine' smoothed_con _ _ _ _ _ _ _ _ hT9zq ?kazq ?kbzq _ _ _ _ _ _ _ _ _ _ _ _ _ _ _ _ _ ?k1zq ?k2zq ?k3zq ?k4zq ?k5zq ?kKzq ?kdzq ?kuzq ?_; (case k1zq => k_asm); (case k2zq => k_asm); (case k3zq => k_asm); (case k4zq => k_asm); (case k5zq => k_asm); (case kazq => assumption); (case kbzq => assumption); (case kKzq => first | exact rfl | assumption); (case kdzq => ktr_room); (case kuzq => ktr_units)); (intro r9zq news9zq h9zq tk9zq F9zq N9zq hOzq; obtain ⟨q9zq, c9zq, tl9zq, e2zq, -, hG9zq, hP9zq, -⟩ := hOzq; subst e2zq); (with_unfolding_all (have hS9zq := hP9zq.rs; have hA9zq := hP9zq.pl; obtain ⟨dx9zq, w1zq, w2zq, w3zq, w4zq, w5zq, n9zq, hp1zq, hp2zq⟩ := hA9zq)); ((try dsimp only); (try k_fold))))) | (safely (with_reducible (k_here; (with_reducible show wpAny _ _ (call (Value.ref 100) [Value.ref _, Value.str _ _]) _ _ _); k_dflt (refine' turned_con _ _ _ _ _ _ _ _ ?khzq ?kwzq _ _ _ _ _ _ _ _ _ _ _ _ _ _ _ _ _ ?k1zq ?k2zq ?k3zq ?k4zq ?k5zq ?kKzq ?kdzq ?kuzq ?_; (case k1zq => k_asm); (case k2zq => k_asm); (case k3zq => k_asm); (case k4zq => k_asm); (case k5zq => k_asm); (case khzq => refine Pl.mono (by assumption) ?_; intro q9zq hq9zq; (repeat (first | exact hq9zq | refine List.mem_cons_of_mem _ ?_ | refine Grows.sub (by assumption) _ ?_))); (case kwzq => assumption); (case kKzq => first | exact rfl | assumption); (case kdzq => ktr_room); (case kuzq => ktr_units)); (intro r9zq news9zq h9zq tk9zq F9zq N9zq hOzq; obtain ⟨q9zq, c9zq, e2zq, hG9zq, hP9zq⟩ := hOzq; subst e2zq); (with_unfolding_all (have hS9zq := hP9zq.rs; have hA9zq := hP9zq.pl; obtain ⟨dx9zq, w1zq, w2zq, w3zq, w4zq, w5zq, n9zq, hp1zq, hp2zq⟩ := hA9zq)); ((try dsimp only); (try k_fold))))) | (safely (with_reducible (k_here; (with_reducible show wpAny _ _ (compareOp CmpOp.Eq (Value.ref _) (Value.ref _)) _ _ _); k_dflt (refine' rows_eq ?Nzq ?azq ?bzq ?czq ?dzq ?uzq ?_; (case Nzq => k_asm); (case azq => assumption); (case czq => assumption); (case bzq => intro q9zq hq9zq; (repeat (first | exact hq9zq | refine List.mem_cons_of_mem _ ?_ | refine List.mem_append.mpr (.inr ?_) | refine Grows.sub (by assumption) _ ?_))); (case dzq => first | exact fun q9zq hq9zq => hq9zq | (intro q9zq hq9zq; (repeat (first | exact hq9zq | refine List.mem_cons_of_mem _ ?_ | refine List.mem_append.mpr (.inr ?_) | refine Grows.sub (by assumption) _ ?_))) | assumption); (case uzq => ktr_units))))) | (safely (with_reducible (k_here; (with_reducible show wpAny _ _ (call (Value.ref 154) [Value.ref _, Value.ref _, Value.int _ _]) _ _ _); k_dflt (refine' right_con' _ _ _ _ _ _ _ _ _ _ _ ?h1zq ?h2zq ?hszq ?htzq ?h3zq ?h4zq ?h5zq ?h6zq ?h7zq ?h8zq ?h9zq ?hazq ?hbzq ?hczq ?hezq _ _ _ _ _ _ _ _ _ _ _ _ _ _ _ _ _ ?k1zq ?k2zq ?k3zq ?k4zq ?k5zq ?kKzq ?kdzq ?kuzq ?_; (case k1zq => k_asm); (case k2zq => k_asm); (case k3zq => k_asm); (case k4zq => k_asm); (case k5zq => k_asm); (case h1zq => assumption); (case h2zq => assumption); (case hszq => intro q9zq hq9zq; (repeat (first | exact hq9zq | refine List.mem_cons_of_mem _ ?_))); (case htzq => intro q9zq hq9zq; (repeat (first | exact hq9zq | refine List.mem_cons_of_mem _ ?_))); (case h4zq => assumption); (case hbzq => assumption); (case h5zq => assumption); (case h6zq => assumption); (case h3zq => exact rfl); (case h7zq => assumption); (case h8zq => assumption); (case h9zq => assumption); (case hazq => assumption); (case hczq => assumption); (case hezq => assumption); (case kKzq => first | exact rfl | assumption); (case kdzq => ktr_room); (case kuzq => ktr_units)); (intro r9zq news9zq h9zq tk9zq F9zq N9zq hOzq; obtain ⟨e2zq, hG9zq⟩ := hOzq; subst e2zq; (try dsimp only); (try k_fold))))) | (safely (with_reducible (k_here; (with_reducible show wpAny _ _ (compareOp CmpOp.NotEq (Value.ref _) (Value.ref _)) _ _ _); k_dflt (first | (refine' ne_three ?Nzq ?azq ?bzq ?czq ?dzq ?ezq ?fzq ?uzq ?_; (case Nzq => k_asm); (case azq => k_mem); (case bzq => k_mem); (case czq => rfl); (case dzq => rfl); (case ezq => rfl); (case fzq => rfl); (case uzq => ktr_units)) | (refine' rows_ne ?Nzq ?azq ?bzq ?czq ?dzq ?uzq ?_; (case Nzq => k_asm); (case azq => assumption); (case czq => assumption); (case bzq => intro q9zq hq9zq; k_mem); (case dzq => intro q9zq hq9zq; k_mem); (case uzq => ktr_units))); (try simp only [eq_self, decide_true, Bool.not_true])))) | (safely (with_reducible (k_here; (with_reducible show wpAny _ _ (call (Value.ref 105) [Value.ref _, Value.int _ _]) _ _ _); k_dflt (refine' smoothed_con _ _ _ _ _ _ _ _ ?khzq ?kazq ?kbzq _ _ _ _ _ _ _ _ _ _ _ _ _ _ _ _ _ ?k1zq ?k2zq ?k3zq ?k4zq ?k5zq ?kKzq ?kdzq ?kuzq ?_; (case k1zq => k_asm); (case k2zq => k_asm); (case k3zq => k_asm); (case k4zq => k_asm); (case k5zq => k_asm); (case khzq => refine Pl.mono (by assumption) ?_; intro q9zq hq9zq; (repeat (first | assumption | refine List.mem_cons_of_mem _ ?_ | refine Grows.sub (by assumption) _ ?_))); (case kazq => assumption); (case kbzq => assumption); (case kKzq => first | exact rfl | assumption); (case kdzq => ktr_room); (case kuzq => ktr_units)); (intro r9zq news9zq h9zq tk9zq F9zq N9zq hOzq; obtain ⟨q9zq, c9zq, tl9zq, e2zq, etl9zq, hG9zq, hP9zq, hR9zq⟩ := hOzq; subst e2zq; (try dsimp only); (try k_fold))))) | (safely (with_reducible (k_here; (with_reducible show wpAny _ _ (call (Value.ref 161) [Value.ref _, Value.int _ _]) _ _ _); k_dflt (refine' refused_con _ _ _ _ ?khzq _ _ _ _ _ _ _ _ _ _ _ _ _ _ _ ?k1zq ?k2zq ?k3zq ?k4zq ?k5zq ?kKzq ?kdzq ?kuzq ?_; (case k1zq => k_asm); (case k2zq => k_asm); (case k3zq => k_asm); (case k4zq => k_asm); (case k5zq => k_asm); (case khzq => first | exact .inl (by omega) | exact .inr (by omega)); (case kKzq => first | exact rfl | assumption); (case kdzq => ktr_room); (case kuzq => ktr_units)); (intro r9zq news9zq h9zq tk9zq F9zq N9zq hOzq; obtain ⟨e2zq, e1zq⟩ := hOzq; rw [e1zq] at N9zq; clear e1zq; subst e2zq; (try dsimp only); (try k_fold))))) | (safely (with_reducible (k_here; (with_reducible show wpAny _ _ (call (Value.ref 84) [Value.int _ _, Value.int _ _, Value.ref _]) _ _ _); k_dflt (refine' plane_con _ _ _ _ _ _ _ _ _ _ _ _ _ _ _ _ _ _ _ _ _ _ _ ?k1zq ?k2zq ?k3zq ?k4zq ?k5zq ?kKzq ?kdzq ?kuzq ?_; (case k1zq => k_asm); (case k2zq => k_asm); (case k3zq => k_asm); (case k4zq => k_asm); (case k5zq => k_asm); (case kKzq => first | exact rfl | assumption); (case kdzq => ktr_room); (case kuzq => ktr_units)); (intro r9zq news9zq h9zq tk9zq F9zq N9zq hOzq; obtain ⟨q9zq, e2zq, hG9zq, hP9zq⟩ := hOzq; subst e2zq; (try dsimp only); (try k_fold))))) | (safely (with_reducible (k_here; (with_reducible show wpAny _ _ (call (Value.builtin "len") [Value.ref _]) _ _ _); k_dflt (refine' len_led ?Nzq ?mzq ?ezq ?azq ?bzq ?_; (case Nzq => k_asm); (case mzq => k_mem); (case ezq => assumption); (case azq => assumption); (case bzq => assumption))))) | (safely (with_reducible (k_here; (with_reducible show wpAny _ _ (subscriptTail (PySem.Expr.Subscript _ _ _) (PySem.Expr.Constant _ _ _) (Value.ref _) (Value.int _ _)) _ _ _); (with_unfolding_all refine' int_itemB ?Nzq ?mzq ?izq ?dzq ?ezq ?azq ?bzq ?czq ?_ ?szq; (case izq => with_reducible assumption); (case Nzq => with_reducible assumption); (case mzq => (repeat (first | with_reducible assumption | refine List.mem_cons_of_mem _ ?_ | refine List.mem_append.mpr (.inr ?_)))); (case dzq => with_reducible assumption); (case ezq => with_reducible assumption); (case azq => omega); (case bzq => omega); (case czq => omega); (case szq => with_unfolding_all rfl)); k_whole; intro t9zq a9zq ea9zq la9zq lb9zq))) | (safely (with_reducible (k_here; (with_reducible show wpAny _ _ (subscriptTail (PySem.Expr.Name _ _) (PySem.Expr.Constant _ _ _) (Value.ref _) (Value.int _ _)) _ _ _); (with_unfolding_all refine' row_itemB ?Nzq ?mzq ?zzq ?dzq ?ezq ?azq ?bzq ?czq ?_ ?szq; (case Nzq => with_reducible assumption); (case mzq => with_reducible assumption); (case dzq => with_reducible assumption); (case ezq => with_reducible assumption); (case zzq => intro q9zq hq9zq; (repeat (first | exact hq9zq | refine List.mem_cons_of_mem _ ?_ | refine List.mem_append.mpr (.inr ?_)))); (case azq => omega); (case bzq => omega); (case czq => omega); (case szq => with_unfolding_all rfl)); k_whole; intro c9zq us9zq n9zq hm9zq hi9zq hu9zq hl9zq hc9zq))) | (safely (with_reducible (k_here; (with_reducible show wpAny _ _ (call (Value.ref 133) [Value.ref _, Value.ref _]) _ _ _); k_dflt (refine' one_con _ _ _ _ _ _ _ _ _ _ _ ?kszq ?knzq ?klzq ?kvzq ?kwzq ?kazq ?kbzq ?kczq _ _ _ _ _ _ _ _ _ _ _ _ _ _ _ _ _ ?k1zq ?k2zq ?k3zq ?k4zq ?k5zq ?kKzq ?kdzq ?kuzq ?_; (case k1zq => k_asm); (case k2zq => k_asm); (case k3zq => k_asm); (case k4zq => k_asm); (case k5zq => k_asm); (case kszq => first | exact SplitL.here | exact SplitL.there .here | exact SplitL.there (.there .here) | exact SplitL.there (.there (.there .here)) | exact SplitL.there (.there (.there (.there .here))) | exact SplitL.there (.there (.there (.there (.there .here)))) | exact SplitL.there (.there (.there (.there (.there (.there .here))))) | exact SplitL.there (.there (.there (.there (.there (.there (.there .here))))))); (case knzq => k_all); (case klzq => k_mem); (case kvzq => exact Nat.zero_lt_succ _); (case kwzq => exact Nat.le_of_ble_eq_true rfl); (case kazq => assumption); (case kbzq => assumption); (case kczq => assumption); (case kKzq => first | exact rfl | assumption); (case kdzq => ktr_room); (case kuzq => ktr_units)); (intro r9zq news9zq h9zq tk9zq F9zq N9zq hOzq; obtain ⟨i9zq, a9zq, b9zq, t9zq, u9zq, n9zq, e2zq, a90zq, b90zq, b91zq, e1zq⟩ := hOzq; rw [e1zq] at N9zq; clear e1zq; (first | (have hp9zq := pick4 e2zq) | (have hp9zq := pick7 e2zq) | (have hp9zq := pickS e2zq)); obtain ⟨x9zq, tx9zq, ex9zq, hx9zq⟩ := hp9zq; clear e2zq; subst ex9zq; (try dsimp only); (try k_fold))))) | (safely (with_reducible (k_here; (with_reducible show wpAny _ _ (call (Value.ref 126) [Value.ref _, Value.int _ _]) _ _ _); k_dflt (refine' take_con _ _ _ _ _ _ _ _ _ _ ?kszq ?knzq ?kazq ?kbzq ?kczq ?ktzq ?kpzq _ _ _ _ _ _ _ _ _ _ _ _ _ _ _ _ _ ?k1zq ?k2zq ?k3zq ?k4zq ?k5zq ?kKzq ?kdzq ?kuzq ?_; (case k1zq => k_asm); (case k2zq => k_asm); (case k3zq => k_asm); (case k4zq => k_asm); (case k5zq => k_asm); (case kszq => first | exact SplitL.here | exact SplitL.there .here | exact SplitL.there (.there .here) | exact SplitL.there (.there (.there .here)) | exact SplitL.there (.there (.there (.there .here))) | exact SplitL.there (.there (.there (.there (.there .here)))) | exact SplitL.there (.there (.there (.there (.there (.there .here))))) | exact SplitL.there (.there (.there (.there (.there (.there (.there .here))))))); (case knzq => k_all); (case kazq => assumption); (case kbzq => assumption); (case kczq => assumption); (case ktzq => first | decide | assumption | omega); (case kpzq => first | decide | assumption | omega); (case kKzq => first | exact rfl | assumption); (case kdzq => ktr_room); (case kuzq => ktr_units)); (intro r9zq news9zq h9zq tk9zq F9zq N9zq hOzq; obtain ⟨d9zq, td9zq, a9zq, b9zq, t9zq, u9zq, n9zq, e2zq, d0zq, d1zq, a90zq, b90zq, b91zq, e1zq⟩ := hOzq; rw [e1zq] at N9zq; clear e1zq; subst e2zq; (try dsimp only); (try k_fold))))) | (have tokzq : PassTok := PassTok.mk; walk1 <;> (try clear tokzq))) | (k_unfold; (try dsimp only)) | (k_end; wrow_close) | walk1 | (dsimp only; walk1) | (leave1; walk_say "STEP leave1"; try dsimp only) | fail "no step")); (all_goals (try (with_reducible refine Halt.mk ?_))))
                rename News _ _ _ _ => lN'
                rename (_ ∧ _ ∧ _ ∧ _ ∧ _ ∧ _ ∧ _ ∧ _ ∧ _ ∧ AllLt _ _) => lo
                rename (_ = (rows.getD _ []).getD _ 0) => ea
                rw [ea] at lN'
                refine LCg.CompEnd.intro (by assumption) lN' ((S, oS) :: (sQ.heap.objs.size + 1 + 1 + 1 + 1, o4) :: (sQ.heap.objs.size + 1 + 1 + 1, o3) :: (sQ.heap.objs.size + 1 + 1, o2) :: (sQ.heap.objs.size + 1, o1) :: ((_ :: tl) ++ rest)) perm10 ⟨off.1, off.2.1, off.2.2.1, off.2.2.2.1, off.2.2.2.2.1, ⟨Nat.ne_of_gt lo.2.1, Nat.ne_of_gt lo.2.2.1, Nat.ne_of_gt lo.2.2.2.1⟩, off.2.2.2.2.2⟩ trivial ⟨_ :: tl, rfl, List.forall_mem_cons.mpr ⟨⟨Nat.ne_of_gt lo.2.2.2.2.1, Nat.ne_of_gt lo.2.2.2.2.2.1, Nat.ne_of_gt lo.2.2.2.2.2.2.1, Nat.ne_of_gt lo.2.2.2.2.2.2.2.1, Nat.ne_of_gt lo.2.2.2.2.2.2.2.2.1⟩, htl⟩, ?_⟩
                rw [List.replicate_succ']
                exact RowVals.snoc (hR.mono fun q hq => List.mem_cons_of_mem _ hq) ⟨_, _, _, rfl, List.mem_cons_self, ints_rep _ _ _⟩
              · rintro g9 ys nx ⟨tl, rfl, htl, hR⟩
                unfold LCg.FinE
                intro D2 h8 tk8 F8 N8 off8
                clear lF' lN' rgX
                have hDn := off1_ne off8
                have d1 : @Ne Nat D2 (sQ.heap.objs.size + 1) := Ne.symm (hDn (sQ.heap.objs.size + 1, o1) (.tail _ (.tail _ (.tail _ (.tail _ (.head _))))))
                have d2 : @Ne Nat D2 (sQ.heap.objs.size + 1 + 1) := Ne.symm (hDn (sQ.heap.objs.size + 1 + 1, o2) (.tail _ (.tail _ (.tail _ (.head _)))))
                have d3 : @Ne Nat D2 (sQ.heap.objs.size + 1 + 1 + 1) := Ne.symm (hDn (sQ.heap.objs.size + 1 + 1 + 1, o3) (.tail _ (.tail _ (.head _))))
                have d4 : @Ne Nat D2 (sQ.heap.objs.size + 1 + 1 + 1 + 1) := Ne.symm (hDn (sQ.heap.objs.size + 1 + 1 + 1 + 1, o4) (.tail _ (.head _)))
                have d5 : @Ne Nat D2 S := Ne.symm (hDn (S, _) (.head _))
                have d6 : ∀ q ∈ tl ++ rest, q.1 ≠ D2 := fun q hq => hDn q (.tail _ (.tail _ (.tail _ (.tail _ (.tail _ hq)))))
                have r4' : ∀ q ∈ tl ++ rest, q.1 ≠ sQ.heap.objs.size + 1 + 1 + 1 + 1 := fun q hq => (List.mem_append.mp hq).elim (fun hq => (htl q hq).2.1) (r4 q)
                have r3' : ∀ q ∈ tl ++ rest, q.1 ≠ sQ.heap.objs.size + 1 + 1 + 1 := fun q hq => (List.mem_append.mp hq).elim (fun hq => (htl q hq).2.2.1) (r3 q)
                have r2' : ∀ q ∈ tl ++ rest, q.1 ≠ sQ.heap.objs.size + 1 + 1 := fun q hq => (List.mem_append.mp hq).elim (fun hq => (htl q hq).2.2.2.1) (r2 q)
                have r1' : ∀ q ∈ tl ++ rest, q.1 ≠ sQ.heap.objs.size + 1 := fun q hq => (List.mem_append.mp hq).elim (fun hq => (htl q hq).2.2.2.2) (r1 q)
                have rS' : ∀ q ∈ tl ++ rest, q.1 ≠ S := fun q hq => (List.mem_append.mp hq).elim (fun hq => (htl q hq).1) (rS q)
                (try k_fold)
                ((repeat' (first | ((with_reducible refine Halt.mk ?_); first | (safely (with_reducible (k_here; (with_reducible show wpAny _ _ (call (Value.ref 105) [Value.ref _, Value.int _ _]) _ _ _); (rename Pl _ _ _ _ _ _ (turned _ _ _) => hT9zq); k_dflt (refine' smoothed_con _ _ _ _ _ _ _ _ hT9zq ?kazq ?kbzq _ _ _ _ _ _ _ _ _ _ _ _ _ _ _ _ _ ?k1zq ?k2zq ?k3zq ?k4zq ?k5zq ?kKzq ?kdzq ?kuzq ?_; (case k1zq => k_asm); (case k2zq => k_asm); (case k3zq => k_asm); (case k4zq => k_asm); (case k5zq => k_asm); (case kazq => assumption); (case kbzq => assumption); (case kKzq => first | exact rfl | assumption); (case kdzq => ktr_room); (case kuzq => ktr_units)); (intro r9zq news9zq h9zq tk9zq F9zq N9zq hOzq; obtain ⟨q9zq, c9zq, tl9zq, e2zq, -, hG9zq, hP9zq, -⟩ := hOzq; subst e2zq); (with_unfolding_all (have hS9zq := hP9zq.rs; have hA9zq := hP9zq.pl; obtain ⟨dx9zq, w1zq, w2zq, w3zq, w4zq, w5zq, n9zq, hp1zq, hp2zq⟩ := hA9zq)); ((try dsimp only); (try k_fold))))) | (safely (with_reducible (k_here; (with_reducible show wpAny _ _ (call (Value.ref 100) [Value.ref _, Value.str _ _]) _ _ _); k_dflt (refine' turned_con _ _ _ _ _ _ _ _ ?khzq ?kwzq _ _ _ _ _ _ _ _ _ _ _ _ _ _ _ _ _ ?k1zq ?k2zq ?k3zq ?k4zq ?k5zq ?kKzq ?kdzq ?kuzq ?_; (case k1zq => k_asm); (case k2zq => k_asm); (case k3zq => k_asm); (case k4zq => k_asm); (case k5zq => k_asm); (case khzq => refine Pl.mono (by assumption) ?_; intro q9zq hq9zq; (repeat (first | exact hq9zq | refine List.mem_cons_of_mem _ ?_ | refine Grows.sub (by assumption) _ ?_))); (case kwzq => assumption); (case kKzq => first | exact rfl | assumption); (case kdzq => ktr_room); (case kuzq => ktr_units)); (intro r9zq news9zq h9zq tk9zq F9zq N9zq hOzq; obtain ⟨q9zq, c9zq, e2zq, hG9zq, hP9zq⟩ := hOzq; subst e2zq); (with_unfolding_all (have hS9zq := hP9zq.rs; have hA9zq := hP9zq.pl; obtain ⟨dx9zq, w1zq, w2zq, w3zq, w4zq, w5zq, n9zq, hp1zq, hp2zq⟩ := hA9zq)); ((try dsimp only); (try k_fold))))) | (safely (with_reducible (k_here; (with_reducible show wpAny _ _ (compareOp CmpOp.Eq (Value.ref _) (Value.ref _)) _ _ _); k_dflt (refine' rows_eq ?Nzq ?azq ?bzq ?czq ?dzq ?uzq ?_; (case Nzq => k_asm); (case azq => assumption); (case czq => assumption); (case bzq => intro q9zq hq9zq; (repeat (first | exact hq9zq | refine List.mem_cons_of_mem _ ?_ | refine List.mem_append.mpr (.inr ?_) | refine Grows.sub (by assumption) _ ?_))); (case dzq => first | exact fun q9zq hq9zq => hq9zq | (intro q9zq hq9zq; (repeat (first | exact hq9zq | refine List.mem_cons_of_mem _ ?_ | refine List.mem_append.mpr (.inr ?_) | refine Grows.sub (by assumption) _ ?_))) | assumption); (case uzq => ktr_units))))) | (safely (with_reducible (k_here; (with_reducible show wpAny _ _ (call (Value.ref 154) [Value.ref _, Value.ref _, Value.int _ _]) _ _ _); k_dflt (refine' right_con' _ _ _ _ _ _ _ _ _ _ _ ?h1zq ?h2zq ?hszq ?htzq ?h3zq ?h4zq ?h5zq ?h6zq ?h7zq ?h8zq ?h9zq ?hazq ?hbzq ?hczq ?hezq _ _ _ _ _ _ _ _ _ _ _ _ _ _ _ _ _ ?k1zq ?k2zq ?k3zq ?k4zq ?k5zq ?kKzq ?kdzq ?kuzq ?_; (case k1zq => k_asm); (case k2zq => k_asm); (case k3zq => k_asm); (case k4zq => k_asm); (case k5zq => k_asm); (case h1zq => assumption); (case h2zq => assumption); (case hszq => intro q9zq hq9zq; (repeat (first | exact hq9zq | refine List.mem_cons_of_mem _ ?_))); (case htzq => intro q9zq hq9zq; (repeat (first | exact hq9zq | refine List.mem_cons_of_mem _ ?_))); (case h4zq => assumption); (case hbzq => assumption); (case h5zq => assumption); (case h6zq => assumption); (case h3zq => exact rfl); (case h7zq => assumption); (case h8zq => assumption); (case h9zq => assumption); (case hazq => assumption); (case hczq => assumption); (case hezq => assumption); (case kKzq => first | exact rfl | assumption); (case kdzq => ktr_room); (case kuzq => ktr_units)); (intro r9zq news9zq h9zq tk9zq F9zq N9zq hOzq; obtain ⟨e2zq, hG9zq⟩ := hOzq; subst e2zq; (try dsimp only); (try k_fold))))) | (safely (with_reducible (k_here; (with_reducible show wpAny _ _ (compareOp CmpOp.NotEq (Value.ref _) (Value.ref _)) _ _ _); k_dflt (first | (refine' ne_three ?Nzq ?azq ?bzq ?czq ?dzq ?ezq ?fzq ?uzq ?_; (case Nzq => k_asm); (case azq => k_mem); (case bzq => k_mem); (case czq => rfl); (case dzq => rfl); (case ezq => rfl); (case fzq => rfl); (case uzq => ktr_units)) | (refine' rows_ne ?Nzq ?azq ?bzq ?czq ?dzq ?uzq ?_; (case Nzq => k_asm); (case azq => assumption); (case czq => assumption); (case bzq => intro q9zq hq9zq; k_mem); (case dzq => intro q9zq hq9zq; k_mem); (case uzq => ktr_units))); (try simp only [eq_self, decide_true, Bool.not_true])))) | (safely (with_reducible (k_here; (with_reducible show wpAny _ _ (call (Value.ref 105) [Value.ref _, Value.int _ _]) _ _ _); k_dflt (refine' smoothed_con _ _ _ _ _ _ _ _ ?khzq ?kazq ?kbzq _ _ _ _ _ _ _ _ _ _ _ _ _ _ _ _ _ ?k1zq ?k2zq ?k3zq ?k4zq ?k5zq ?kKzq ?kdzq ?kuzq ?_; (case k1zq => k_asm); (case k2zq => k_asm); (case k3zq => k_asm); (case k4zq => k_asm); (case k5zq => k_asm); (case khzq => refine Pl.mono (by assumption) ?_; intro q9zq hq9zq; (repeat (first | assumption | refine List.mem_cons_of_mem _ ?_ | refine Grows.sub (by assumption) _ ?_))); (case kazq => assumption); (case kbzq => assumption); (case kKzq => first | exact rfl | assumption); (case kdzq => ktr_room); (case kuzq => ktr_units)); (intro r9zq news9zq h9zq tk9zq F9zq N9zq hOzq; obtain ⟨q9zq, c9zq, tl9zq, e2zq, etl9zq, hG9zq, hP9zq, hR9zq⟩ := hOzq; subst e2zq; (try dsimp only); (try k_fold))))) | (safely (with_reducible (k_here; (with_reducible show wpAny _ _ (call (Value.ref 161) [Value.ref _, Value.int _ _]) _ _ _); k_dflt (refine' refused_con _ _ _ _ ?khzq _ _ _ _ _ _ _ _ _ _ _ _ _ _ _ ?k1zq ?k2zq ?k3zq ?k4zq ?k5zq ?kKzq ?kdzq ?kuzq ?_; (case k1zq => k_asm); (case k2zq => k_asm); (case k3zq => k_asm); (case k4zq => k_asm); (case k5zq => k_asm); (case khzq => first | exact .inl (by omega) | exact .inr (by omega)); (case kKzq => first | exact rfl | assumption); (case kdzq => ktr_room); (case kuzq => ktr_units)); (intro r9zq news9zq h9zq tk9zq F9zq N9zq hOzq; obtain ⟨e2zq, e1zq⟩ := hOzq; rw [e1zq] at N9zq; clear e1zq; subst e2zq; (try dsimp only); (try k_fold))))) | (safely (with_reducible (k_here; (with_reducible show wpAny _ _ (call (Value.ref 84) [Value.int _ _, Value.int _ _, Value.ref _]) _ _ _); k_dflt (refine' plane_con _ _ _ _ _ _ _ _ _ _ _ _ _ _ _ _ _ _ _ _ _ _ _ ?k1zq ?k2zq ?k3zq ?k4zq ?k5zq ?kKzq ?kdzq ?kuzq ?_; (case k1zq => k_asm); (case k2zq => k_asm); (case k3zq => k_asm); (case k4zq => k_asm); (case k5zq => k_asm); (case kKzq => first | exact rfl | assumption); (case kdzq => ktr_room); (case kuzq => ktr_units)); (intro r9zq news9zq h9zq tk9zq F9zq N9zq hOzq; obtain ⟨q9zq, e2zq, hG9zq, hP9zq⟩ := hOzq; subst e2zq; (try dsimp only); (try k_fold))))) | (safely (with_reducible (k_here; (with_reducible show wpAny _ _ (call (Value.builtin "len") [Value.ref _]) _ _ _); k_dflt (refine' len_led ?Nzq ?mzq ?ezq ?azq ?bzq ?_; (case Nzq => k_asm); (case mzq => k_mem); (case ezq => assumption); (case azq => assumption); (case bzq => assumption))))) | (safely (with_reducible (k_here; (with_reducible show wpAny _ _ (subscriptTail (PySem.Expr.Subscript _ _ _) (PySem.Expr.Constant _ _ _) (Value.ref _) (Value.int _ _)) _ _ _); (with_unfolding_all refine' int_itemB ?Nzq ?mzq ?izq ?dzq ?ezq ?azq ?bzq ?czq ?_ ?szq; (case izq => with_reducible assumption); (case Nzq => with_reducible assumption); (case mzq => (repeat (first | with_reducible assumption | refine List.mem_cons_of_mem _ ?_ | refine List.mem_append.mpr (.inr ?_)))); (case dzq => with_reducible assumption); (case ezq => with_reducible assumption); (case azq => omega); (case bzq => omega); (case czq => omega); (case szq => with_unfolding_all rfl)); k_whole; intro t9zq a9zq ea9zq la9zq lb9zq))) | (safely (with_reducible (k_here; (with_reducible show wpAny _ _ (subscriptTail (PySem.Expr.Name _ _) (PySem.Expr.Constant _ _ _) (Value.ref _) (Value.int _ _)) _ _ _); (with_unfolding_all refine' row_itemB ?Nzq ?mzq ?zzq ?dzq ?ezq ?azq ?bzq ?czq ?_ ?szq; (case Nzq => with_reducible assumption); (case mzq => with_reducible assumption); (case dzq => with_reducible assumption); (case ezq => with_reducible assumption); (case zzq => intro q9zq hq9zq; (repeat (first | exact hq9zq | refine List.mem_cons_of_mem _ ?_ | refine List.mem_append.mpr (.inr ?_)))); (case azq => omega); (case bzq => omega); (case czq => omega); (case szq => with_unfolding_all rfl)); k_whole; intro c9zq us9zq n9zq hm9zq hi9zq hu9zq hl9zq hc9zq))) | (safely (with_reducible (k_here; (with_reducible show wpAny _ _ (call (Value.ref 133) [Value.ref _, Value.ref _]) _ _ _); k_dflt (refine' one_con _ _ _ _ _ _ _ _ _ _ _ ?kszq ?knzq ?klzq ?kvzq ?kwzq ?kazq ?kbzq ?kczq _ _ _ _ _ _ _ _ _ _ _ _ _ _ _ _ _ ?k1zq ?k2zq ?k3zq ?k4zq ?k5zq ?kKzq ?kdzq ?kuzq ?_; (case k1zq => k_asm); (case k2zq => k_asm); (case k3zq => k_asm); (case k4zq => k_asm); (case k5zq => k_asm); (case kszq => first | exact SplitL.here | exact SplitL.there .here | exact SplitL.there (.there .here) | exact SplitL.there (.there (.there .here)) | exact SplitL.there (.there (.there (.there .here))) | exact SplitL.there (.there (.there (.there (.there .here)))) | exact SplitL.there (.there (.there (.there (.there (.there .here))))) | exact SplitL.there (.there (.there (.there (.there (.there (.there .here))))))); (case knzq => k_all); (case klzq => k_mem); (case kvzq => exact Nat.zero_lt_succ _); (case kwzq => exact Nat.le_of_ble_eq_true rfl); (case kazq => assumption); (case kbzq => assumption); (case kczq => assumption); (case kKzq => first | exact rfl | assumption); (case kdzq => ktr_room); (case kuzq => ktr_units)); (intro r9zq news9zq h9zq tk9zq F9zq N9zq hOzq; obtain ⟨i9zq, a9zq, b9zq, t9zq, u9zq, n9zq, e2zq, a90zq, b90zq, b91zq, e1zq⟩ := hOzq; rw [e1zq] at N9zq; clear e1zq; (first | (have hp9zq := pick4 e2zq) | (have hp9zq := pick7 e2zq) | (have hp9zq := pickS e2zq)); obtain ⟨x9zq, tx9zq, ex9zq, hx9zq⟩ := hp9zq; clear e2zq; subst ex9zq; (try dsimp only); (try k_fold))))) | (safely (with_reducible (k_here; (with_reducible show wpAny _ _ (call (Value.ref 126) [Value.ref _, Value.int _ _]) _ _ _); k_dflt (refine' take_con _ _ _ _ _ _ _ _ _ _ ?kszq ?knzq ?kazq ?kbzq ?kczq ?ktzq ?kpzq _ _ _ _ _ _ _ _ _ _ _ _ _ _ _ _ _ ?k1zq ?k2zq ?k3zq ?k4zq ?k5zq ?kKzq ?kdzq ?kuzq ?_; (case k1zq => k_asm); (case k2zq => k_asm); (case k3zq => k_asm); (case k4zq => k_asm); (case k5zq => k_asm); (case kszq => first | exact SplitL.here | exact SplitL.there .here | exact SplitL.there (.there .here) | exact SplitL.there (.there (.there .here)) | exact SplitL.there (.there (.there (.there .here))) | exact SplitL.there (.there (.there (.there (.there .here)))) | exact SplitL.there (.there (.there (.there (.there (.there .here))))) | exact SplitL.there (.there (.there (.there (.there (.there (.there .here))))))); (case knzq => k_all); (case kazq => assumption); (case kbzq => assumption); (case kczq => assumption); (case ktzq => first | decide | assumption | omega); (case kpzq => first | decide | assumption | omega); (case kKzq => first | exact rfl | assumption); (case kdzq => ktr_room); (case kuzq => ktr_units)); (intro r9zq news9zq h9zq tk9zq F9zq N9zq hOzq; obtain ⟨d9zq, td9zq, a9zq, b9zq, t9zq, u9zq, n9zq, e2zq, d0zq, d1zq, a90zq, b90zq, b91zq, e1zq⟩ := hOzq; rw [e1zq] at N9zq; clear e1zq; subst e2zq; (try dsimp only); (try k_fold))))) | (have tokzq : PassTok := PassTok.mk; walk1 <;> (try clear tokzq))) | (k_unfold; (try dsimp only)) | (k_end; wrow_close) | walk1 | (dsimp only; walk1) | (leave1; walk_say "STEP leave1"; try dsimp only) | fail "no step")); (all_goals (try (with_reducible refine Halt.mk ?_))))
                all_goals (try exact trivial)
                · rename Fr _ _ _ _ => lF'
                  rename News _ _ _ _ => lN'
                  rw [eS] at lN'
                  refine LSx_mk (S := S) (rest := (D2, LCg.lst ys) :: (tl ++ rest)) lF' (sub_news lN' perm6) c1 c2 c3 (by assumption) (by assumption) (by assumption) (by assumption) s1' s2' s3' s4' (ne_cons d5 rS') (ne_cons d1 r1') (ne_cons d2 r2') (ne_cons d3 r3') (ne_cons d4 r4') ?_
                  refine ⟨W, H, D2, List.replicate H.toNat (List.replicate W.toNat ((rows.getD 0 []).getD 0 0)), _, _, w0, w4, h0, h4, rfl, rfl, by with_unfolding_all rfl, ?_, by simp, ?_, ?_⟩
                  · exact (hR.mono fun q hq => List.mem_cons_of_mem _ (List.mem_append.mpr (.inl hq))).rows List.mem_cons_self
                  · intro r hr
                    rw [List.eq_of_mem_replicate hr]
                    simp
                  · intro r hr c hcr
                    rw [List.eq_of_mem_replicate hr] at hcr
                    rw [List.eq_of_mem_replicate hcr]
                    have hm0 : rows.getD 0 [] ∈ rows := by
                      rw [List.getD_eq_getElem?_getD, List.getElem?_eq_getElem (by omega)]
                      exact List.getElem_mem _
                    have hm1 : (rows.getD 0 []).getD 0 0 ∈ rows.getD 0 [] := by
                      have := wl _ hm0
                      rw [List.getD_eq_getElem?_getD (l := rows.getD 0 []), List.getElem?_eq_getElem (by omega)]
                      exact List.getElem_mem _
                    exact hc _ hm0 _ hm1
            · rename Fr _ _ _ _ => lF'
              rename News _ _ _ _ => lN'
              exact LSx_mk (S := S) (rest := rest) lF' lN' c1 c2 c3 c4 (by assumption) (by assumption) (by assumption) s1' s2' s3' s4' rS r1 r2 r3 r4 (RowsP_mk (W := W) (H := H) (R := R) (rows := rows) w0 w4 h0 h4 rfl rfl (by with_unfolding_all rfl) hr hl wl hc)
          · clear F3' N3 c1 c2 c3 c4 a0 b0 b1' s1' s2' s3' s4' rS r1 r2 r3 r4 ecw ecr ehigh w0 w4 h0 h4 hr hl wl hc
            rintro m4 h4' tk4 S cw cm cr a1 b1 t1 u1 n1 o1 o2 o3 o4 rest F4 N4 c1 c2 c3 c4 a0 b0 b1' s1' s2' s3' s4' rS r1 r2 r3 r4 hp9
            refine RowsP_elim hp9 ?_
            clear hp9
            rintro W H R rows tW tH w0 w4 h0 h4 ecw ecr ehigh hr hl wl hc
            rw [ecw] at c2
            rw [ecr] at c4
            have F4' := fr_pin F4 ehigh
            clear F4
            dsimp only
            refine wpAny_execs_cons ?_
            refine cut_law F4' ShareP ?_ ?_
            · --S5
              ((repeat' (first | ((with_reducible refine Halt.mk ?_); first | (safely (with_reducible (k_here; (with_reducible show wpAny _ _ (call (Value.ref 105) [Value.ref _, Value.int _ _]) _ _ _); (rename Pl _ _ _ _ _ _ (turned _ _ _) => hT9zq); k_dflt (refine' smoothed_con _ _ _ _ _ _ _ _ hT9zq ?kazq ?kbzq _ _ _ _ _ _ _ _ _ _ _ _ _ _ _ _ _ ?k1zq ?k2zq ?k3zq ?k4zq ?k5zq ?kKzq ?kdzq ?kuzq ?_; (case k1zq => k_asm); (case k2zq => k_asm); (case k3zq => k_asm); (case k4zq => k_asm); (case k5zq => k_asm); (case kazq => assumption); (case kbzq => assumption); (case kKzq => first | exact rfl | assumption); (case kdzq => ktr_room); (case kuzq => ktr_units)); (intro r9zq news9zq h9zq tk9zq F9zq N9zq hOzq; obtain ⟨q9zq, c9zq, tl9zq, e2zq, -, hG9zq, hP9zq, -⟩ := hOzq; subst e2zq); (with_unfolding_all (have hS9zq := hP9zq.rs; have hA9zq := hP9zq.pl; obtain ⟨dx9zq, w1zq, w2zq, w3zq, w4zq, w5zq, n9zq, hp1zq, hp2zq⟩ := hA9zq)); ((try dsimp only); (try k_fold))))) | (safely (with_reducible (k_here; (with_reducible show wpAny _ _ (call (Value.ref 100) [Value.ref _, Value.str _ _]) _ _ _); k_dflt (refine' turned_con _ _ _ _ _ _ _ _ ?khzq ?kwzq _ _ _ _ _ _ _ _ _ _ _ _ _ _ _ _ _ ?k1zq ?k2zq ?k3zq ?k4zq ?k5zq ?kKzq ?kdzq ?kuzq ?_; (case k1zq => k_asm); (case k2zq => k_asm); (case k3zq => k_asm); (case k4zq => k_asm); (case k5zq => k_asm); (case khzq => refine Pl.mono (by assumption) ?_; intro q9zq hq9zq; (repeat (first | exact hq9zq | refine List.mem_cons_of_mem _ ?_ | refine Grows.sub (by assumption) _ ?_))); (case kwzq => assumption); (case kKzq => first | exact rfl | assumption); (case kdzq => ktr_room); (case kuzq => ktr_units)); (intro r9zq news9zq h9zq tk9zq F9zq N9zq hOzq; obtain ⟨q9zq, c9zq, e2zq, hG9zq, hP9zq⟩ := hOzq; subst e2zq); (with_unfolding_all (have hS9zq := hP9zq.rs; have hA9zq := hP9zq.pl; obtain ⟨dx9zq, w1zq, w2zq, w3zq, w4zq, w5zq, n9zq, hp1zq, hp2zq⟩ := hA9zq)); ((try dsimp only); (try k_fold))))) | (safely (with_reducible (k_here; (with_reducible show wpAny _ _ (compareOp CmpOp.Eq (Value.ref _) (Value.ref _)) _ _ _); k_dflt (refine' rows_eq ?Nzq ?azq ?bzq ?czq ?dzq ?uzq ?_; (case Nzq => k_asm); (case azq => assumption); (case czq => assumption); (case bzq => intro q9zq hq9zq; (repeat (first | exact hq9zq | refine List.mem_cons_of_mem _ ?_ | refine List.mem_append.mpr (.inr ?_) | refine Grows.sub (by assumption) _ ?_))); (case dzq => first | exact fun q9zq hq9zq => hq9zq | (intro q9zq hq9zq; (repeat (first | exact hq9zq | refine List.mem_cons_of_mem _ ?_ | refine List.mem_append.mpr (.inr ?_) | refine Grows.sub (by assumption) _ ?_))) | assumption); (case uzq => ktr_units))))) | (safely (with_reducible (k_here; (with_reducible show wpAny _ _ (call (Value.ref 154) [Value.ref _, Value.ref _, Value.int _ _]) _ _ _); k_dflt (refine' right_con' _ _ _ _ _ _ _ _ _ _ _ ?h1zq ?h2zq ?hszq ?htzq ?h3zq ?h4zq ?h5zq ?h6zq ?h7zq ?h8zq ?h9zq ?hazq ?hbzq ?hczq ?hezq _ _ _ _ _ _ _ _ _ _ _ _ _ _ _ _ _ ?k1zq ?k2zq ?k3zq ?k4zq ?k5zq ?kKzq ?kdzq ?kuzq ?_; (case k1zq => k_asm); (case k2zq => k_asm); (case k3zq => k_asm); (case k4zq => k_asm); (case k5zq => k_asm); (case h1zq => assumption); (case h2zq => assumption); (case hszq => intro q9zq hq9zq; (repeat (first | exact hq9zq | refine List.mem_cons_of_mem _ ?_))); (case htzq => intro q9zq hq9zq; (repeat (first | exact hq9zq | refine List.mem_cons_of_mem _ ?_))); (case h4zq => assumption); (case hbzq => assumption); (case h5zq => assumption); (case h6zq => assumption); (case h3zq => exact rfl); (case h7zq => assumption); (case h8zq => assumption); (case h9zq => assumption); (case hazq => assumption); (case hczq => assumption); (case hezq => assumption); (case kKzq => first | exact rfl | assumption); (case kdzq => ktr_room); (case kuzq => ktr_units)); (intro r9zq news9zq h9zq tk9zq F9zq N9zq hOzq; obtain ⟨e2zq, hG9zq⟩ := hOzq; subst e2zq; (try dsimp only); (try k_fold))))) | (safely (with_reducible (k_here; (with_reducible show wpAny _ _ (compareOp CmpOp.NotEq (Value.ref _) (Value.ref _)) _ _ _); k_dflt (first | (refine' ne_three ?Nzq ?azq ?bzq ?czq ?dzq ?ezq ?fzq ?uzq ?_; (case Nzq => k_asm); (case azq => k_mem); (case bzq => k_mem); (case czq => rfl); (case dzq => rfl); (case ezq => rfl); (case fzq => rfl); (case uzq => ktr_units)) | (refine' rows_ne ?Nzq ?azq ?bzq ?czq ?dzq ?uzq ?_; (case Nzq => k_asm); (case azq => assumption); (case czq => assumption); (case bzq => intro q9zq hq9zq; k_mem); (case dzq => intro q9zq hq9zq; k_mem); (case uzq => ktr_units))); (try simp only [eq_self, decide_true, Bool.not_true])))) | (safely (with_reducible (k_here; (with_reducible show wpAny _ _ (call (Value.ref 105) [Value.ref _, Value.int _ _]) _ _ _); k_dflt (refine' smoothed_con _ _ _ _ _ _ _ _ ?khzq ?kazq ?kbzq _ _ _ _ _ _ _ _ _ _ _ _ _ _ _ _ _ ?k1zq ?k2zq ?k3zq ?k4zq ?k5zq ?kKzq ?kdzq ?kuzq ?_; (case k1zq => k_asm); (case k2zq => k_asm); (case k3zq => k_asm); (case k4zq => k_asm); (case k5zq => k_asm); (case khzq => refine Pl.mono (by assumption) ?_; intro q9zq hq9zq; (repeat (first | assumption | refine List.mem_cons_of_mem _ ?_ | refine Grows.sub (by assumption) _ ?_))); (case kazq => assumption); (case kbzq => assumption); (case kKzq => first | exact rfl | assumption); (case kdzq => ktr_room); (case kuzq => ktr_units)); (intro r9zq news9zq h9zq tk9zq F9zq N9zq hOzq; obtain ⟨q9zq, c9zq, tl9zq, e2zq, etl9zq, hG9zq, hP9zq, hR9zq⟩ := hOzq; subst e2zq; (try dsimp only); (try k_fold))))) | (safely (with_reducible (k_here; (with_reducible show wpAny _ _ (call (Value.ref 161) [Value.ref _, Value.int _ _]) _ _ _); k_dflt (refine' refused_con _ _ _ _ ?khzq _ _ _ _ _ _ _ _ _ _ _ _ _ _ _ ?k1zq ?k2zq ?k3zq ?k4zq ?k5zq ?kKzq ?kdzq ?kuzq ?_; (case k1zq => k_asm); (case k2zq => k_asm); (case k3zq => k_asm); (case k4zq => k_asm); (case k5zq => k_asm); (case khzq => first | exact .inl (by omega) | exact .inr (by omega)); (case kKzq => first | exact rfl | assumption); (case kdzq => ktr_room); (case kuzq => ktr_units)); (intro r9zq news9zq h9zq tk9zq F9zq N9zq hOzq; obtain ⟨e2zq, e1zq⟩ := hOzq; rw [e1zq] at N9zq; clear e1zq; subst e2zq; (try dsimp only); (try k_fold))))) | (safely (with_reducible (k_here; (with_reducible show wpAny _ _ (call (Value.ref 84) [Value.int _ _, Value.int _ _, Value.ref _]) _ _ _); k_dflt (refine' plane_con _ _ _ _ _ _ _ _ _ _ _ _ _ _ _ _ _ _ _ _ _ _ _ ?k1zq ?k2zq ?k3zq ?k4zq ?k5zq ?kKzq ?kdzq ?kuzq ?_; (case k1zq => k_asm); (case k2zq => k_asm); (case k3zq => k_asm); (case k4zq => k_asm); (case k5zq => k_asm); (case kKzq => first | exact rfl | assumption); (case kdzq => ktr_room); (case kuzq => ktr_units)); (intro r9zq news9zq h9zq tk9zq F9zq N9zq hOzq; obtain ⟨q9zq, e2zq, hG9zq, hP9zq⟩ := hOzq; subst e2zq; (try dsimp only); (try k_fold))))) | (safely (with_reducible (k_here; (with_reducible show wpAny _ _ (call (Value.builtin "len") [Value.ref _]) _ _ _); k_dflt (refine' len_led ?Nzq ?mzq ?ezq ?azq ?bzq ?_; (case Nzq => k_asm); (case mzq => k_mem); (case ezq => assumption); (case azq => assumption); (case bzq => assumption))))) | (safely (with_reducible (k_here; (with_reducible show wpAny _ _ (subscriptTail (PySem.Expr.Subscript _ _ _) (PySem.Expr.Constant _ _ _) (Value.ref _) (Value.int _ _)) _ _ _); (with_unfolding_all refine' int_itemB ?Nzq ?mzq ?izq ?dzq ?ezq ?azq ?bzq ?czq ?_ ?szq; (case izq => with_reducible assumption); (case Nzq => with_reducible assumption); (case mzq => (repeat (first | with_reducible assumption | refine List.mem_cons_of_mem _ ?_ | refine List.mem_append.mpr (.inr ?_)))); (case dzq => with_reducible assumption); (case ezq => with_reducible assumption); (case azq => omega); (case bzq => omega); (case czq => omega); (case szq => with_unfolding_all rfl)); k_whole; intro t9zq a9zq ea9zq la9zq lb9zq))) | (safely (with_reducible (k_here; (with_reducible show wpAny _ _ (subscriptTail (PySem.Expr.Name _ _) (PySem.Expr.Constant _ _ _) (Value.ref _) (Value.int _ _)) _ _ _); (with_unfolding_all refine' row_itemB ?Nzq ?mzq ?zzq ?dzq ?ezq ?azq ?bzq ?czq ?_ ?szq; (case Nzq => with_reducible assumption); (case mzq => with_reducible assumption); (case dzq => with_reducible assumption); (case ezq => with_reducible assumption); (case zzq => intro q9zq hq9zq; (repeat (first | exact hq9zq | refine List.mem_cons_of_mem _ ?_ | refine List.mem_append.mpr (.inr ?_)))); (case azq => omega); (case bzq => omega); (case czq => omega); (case szq => with_unfolding_all rfl)); k_whole; intro c9zq us9zq n9zq hm9zq hi9zq hu9zq hl9zq hc9zq))) | (safely (with_reducible (k_here; (with_reducible show wpAny _ _ (call (Value.ref 133) [Value.ref _, Value.ref _]) _ _ _); k_dflt (refine' one_con _ _ _ _ _ _ _ _ _ _ _ ?kszq ?knzq ?klzq ?kvzq ?kwzq ?kazq ?kbzq ?kczq _ _ _ _ _ _ _ _ _ _ _ _ _ _ _ _ _ ?k1zq ?k2zq ?k3zq ?k4zq ?k5zq ?kKzq ?kdzq ?kuzq ?_; (case k1zq => k_asm); (case k2zq => k_asm); (case k3zq => k_asm); (case k4zq => k_asm); (case k5zq => k_asm); (case kszq => first | exact SplitL.here | exact SplitL.there .here | exact SplitL.there (.there .here) | exact SplitL.there (.there (.there .here)) | exact SplitL.there (.there (.there (.there .here))) | exact SplitL.there (.there (.there (.there (.there .here)))) | exact SplitL.there (.there (.there (.there (.there (.there .here))))) | exact SplitL.there (.there (.there (.there (.there (.there (.there .here))))))); (case knzq => k_all); (case klzq => k_mem); (case kvzq => exact Nat.zero_lt_succ _); (case kwzq => exact Nat.le_of_ble_eq_true rfl); (case kazq => assumption); (case kbzq => assumption); (case kczq => assumption); (case kKzq => first | exact rfl | assumption); (case kdzq => ktr_room); (case kuzq => ktr_units)); (intro r9zq news9zq h9zq tk9zq F9zq N9zq hOzq; obtain ⟨i9zq, a9zq, b9zq, t9zq, u9zq, n9zq, e2zq, a90zq, b90zq, b91zq, e1zq⟩ := hOzq; rw [e1zq] at N9zq; clear e1zq; (first | (have hp9zq := pick4 e2zq) | (have hp9zq := pick7 e2zq) | (have hp9zq := pickS e2zq)); obtain ⟨x9zq, tx9zq, ex9zq, hx9zq⟩ := hp9zq; clear e2zq; subst ex9zq; (try dsimp only); (try k_fold))))) | (safely (with_reducible (k_here; (with_reducible show wpAny _ _ (call (Value.ref 126) [Value.ref _, Value.int _ _]) _ _ _); k_dflt (refine' take_con _ _ _ _ _ _ _ _ _ _ ?kszq ?knzq ?kazq ?kbzq ?kczq ?ktzq ?kpzq _ _ _ _ _ _ _ _ _ _ _ _ _ _ _ _ _ ?k1zq ?k2zq ?k3zq ?k4zq ?k5zq ?kKzq ?kdzq ?kuzq ?_; (case k1zq => k_asm); (case k2zq => k_asm); (case k3zq => k_asm); (case k4zq => k_asm); (case k5zq => k_asm); (case kszq => first | exact SplitL.here | exact SplitL.there .here | exact SplitL.there (.there .here) | exact SplitL.there (.there (.there .here)) | exact SplitL.there (.there (.there (.there .here))) | exact SplitL.there (.there (.there (.there (.there .here)))) | exact SplitL.there (.there (.there (.there (.there (.there .here))))) | exact SplitL.there (.there (.there (.there (.there (.there (.there .here))))))); (case knzq => k_all); (case kazq => assumption); (case kbzq => assumption); (case kczq => assumption); (case ktzq => first | decide | assumption | omega); (case kpzq => first | decide | assumption | omega); (case kKzq => first | exact rfl | assumption); (case kdzq => ktr_room); (case kuzq => ktr_units)); (intro r9zq news9zq h9zq tk9zq F9zq N9zq hOzq; obtain ⟨d9zq, td9zq, a9zq, b9zq, t9zq, u9zq, n9zq, e2zq, d0zq, d1zq, a90zq, b90zq, b91zq, e1zq⟩ := hOzq; rw [e1zq] at N9zq; clear e1zq; subst e2zq; (try dsimp only); (try k_fold))))) | (have tokzq : PassTok := PassTok.mk; walk1 <;> (try clear tokzq))) | (k_unfold; (try dsimp only)) | (k_end; wrow_close) | walk1 | (dsimp only; walk1) | (leave1; walk_say "STEP leave1"; try dsimp only) | fail "no step")); (all_goals (try (with_reducible refine Halt.mk ?_))))
              all_goals (try exact trivial)
              rename Fr _ _ _ _ => lF'
              rename News _ _ _ _ => lN'
              rename (_ ∈ [_, _, _, _, _, _, _]) => hx
              simp only [List.mem_cons, List.not_mem_nil, or_false] at hx
              refine LSx_mk (S := S) (rest := rest) lF' (sub_news lN' (sub7' (e := (S, default)))) c1 c2 c3 c4 (by assumption) (by assumption) (by assumption) s1' s2' s3' s4' rS r1 r2 r3 r4 ⟨(RowsP_mk (W := W) (H := H) (R := R) (rows := rows) w0 w4 h0 h4 rfl rfl (by with_unfolding_all rfl) hr hl wl hc), _, _, ?_, ?_, by with_unfolding_all rfl⟩
              · omega
              · omega
            · clear F4' N4 c1 c2 c3 c4 a0 b0 b1' s1' s2' s3' s4' rS r1 r2 r3 r4 ecw ecr ehigh w0 w4 h0 h4 hr hl wl hc
              rintro m5 h5 tk5 S cw cm cr a1 b1 t1 u1 n1 o1 o2 o3 o4 rest F5 N5 c1 c2 c3 c4 a0 b0 b1' s1' s2' s3' s4' rS r1 r2 r3 r4 ⟨hp9, sh, tS, sh0, sh1, eshare⟩
              refine RowsP_elim hp9 ?_
              clear hp9
              rintro W H R rows tW tH w0 w4 h0 h4 ecw ecr ehigh hr hl wl hc
              rw [ecw] at c2
              rw [ecr] at c4
              have F5' := fr_pin (fr_pin F5 ehigh) (n := Str.ofString "share") (by with_unfolding_all exact eshare)
              clear F5
              dsimp only
              refine wpAny_execs_cons ?_
              refine cut_law F5' (PlaneP wQ) ?_ ?_
              · --S6
                obtain ⟨vs, nv, hm, hvl, hvr⟩ := id hr
                ((repeat' (first | ((with_reducible refine Halt.mk ?_); first | (safely (with_reducible (k_here; (with_reducible show wpAny _ _ (call (Value.ref 105) [Value.ref _, Value.int _ _]) _ _ _); (rename Pl _ _ _ _ _ _ (turned _ _ _) => hT9zq); k_dflt (refine' smoothed_con _ _ _ _ _ _ _ _ hT9zq ?kazq ?kbzq _ _ _ _ _ _ _ _ _ _ _ _ _ _ _ _ _ ?k1zq ?k2zq ?k3zq ?k4zq ?k5zq ?kKzq ?kdzq ?kuzq ?_; (case k1zq => k_asm); (case k2zq => k_asm); (case k3zq => k_asm); (case k4zq => k_asm); (case k5zq => k_asm); (case kazq => assumption); (case kbzq => assumption); (case kKzq => first | exact rfl | assumption); (case kdzq => ktr_room); (case kuzq => ktr_units)); (intro r9zq news9zq h9zq tk9zq F9zq N9zq hOzq; obtain ⟨q9zq, c9zq, tl9zq, e2zq, -, hG9zq, hP9zq, -⟩ := hOzq; subst e2zq); (with_unfolding_all (have hS9zq := hP9zq.rs; have hA9zq := hP9zq.pl; obtain ⟨dx9zq, w1zq, w2zq, w3zq, w4zq, w5zq, n9zq, hp1zq, hp2zq⟩ := hA9zq)); ((try dsimp only); (try k_fold))))) | (safely (with_reducible (k_here; (with_reducible show wpAny _ _ (call (Value.ref 100) [Value.ref _, Value.str _ _]) _ _ _); k_dflt (refine' turned_con _ _ _ _ _ _ _ _ ?khzq ?kwzq _ _ _ _ _ _ _ _ _ _ _ _ _ _ _ _ _ ?k1zq ?k2zq ?k3zq ?k4zq ?k5zq ?kKzq ?kdzq ?kuzq ?_; (case k1zq => k_asm); (case k2zq => k_asm); (case k3zq => k_asm); (case k4zq => k_asm); (case k5zq => k_asm); (case khzq => refine Pl.mono (by assumption) ?_; intro q9zq hq9zq; (repeat (first | exact hq9zq | refine List.mem_cons_of_mem _ ?_ | refine Grows.sub (by assumption) _ ?_))); (case kwzq => assumption); (case kKzq => first | exact rfl | assumption); (case kdzq => ktr_room); (case kuzq => ktr_units)); (intro r9zq news9zq h9zq tk9zq F9zq N9zq hOzq; obtain ⟨q9zq, c9zq, e2zq, hG9zq, hP9zq⟩ := hOzq; subst e2zq); (with_unfolding_all (have hS9zq := hP9zq.rs; have hA9zq := hP9zq.pl; obtain ⟨dx9zq, w1zq, w2zq, w3zq, w4zq, w5zq, n9zq, hp1zq, hp2zq⟩ := hA9zq)); ((try dsimp only); (try k_fold))))) | (safely (with_reducible (k_here; (with_reducible show wpAny _ _ (compareOp CmpOp.Eq (Value.ref _) (Value.ref _)) _ _ _); k_dflt (refine' rows_eq ?Nzq ?azq ?bzq ?czq ?dzq ?uzq ?_; (case Nzq => k_asm); (case azq => assumption); (case czq => assumption); (case bzq => intro q9zq hq9zq; (repeat (first | exact hq9zq | refine List.mem_cons_of_mem _ ?_ | refine List.mem_append.mpr (.inr ?_) | refine Grows.sub (by assumption) _ ?_))); (case dzq => first | exact fun q9zq hq9zq => hq9zq | (intro q9zq hq9zq; (repeat (first | exact hq9zq | refine List.mem_cons_of_mem _ ?_ | refine List.mem_append.mpr (.inr ?_) | refine Grows.sub (by assumption) _ ?_))) | assumption); (case uzq => ktr_units))))) | (safely (with_reducible (k_here; (with_reducible show wpAny _ _ (call (Value.ref 154) [Value.ref _, Value.ref _, Value.int _ _]) _ _ _); k_dflt (refine' right_con' _ _ _ _ _ _ _ _ _ _ _ ?h1zq ?h2zq ?hszq ?htzq ?h3zq ?h4zq ?h5zq ?h6zq ?h7zq ?h8zq ?h9zq ?hazq ?hbzq ?hczq ?hezq _ _ _ _ _ _ _ _ _ _ _ _ _ _ _ _ _ ?k1zq ?k2zq ?k3zq ?k4zq ?k5zq ?kKzq ?kdzq ?kuzq ?_; (case k1zq => k_asm); (case k2zq => k_asm); (case k3zq => k_asm); (case k4zq => k_asm); (case k5zq => k_asm); (case h1zq => assumption); (case h2zq => assumption); (case hszq => intro q9zq hq9zq; (repeat (first | exact hq9zq | refine List.mem_cons_of_mem _ ?_))); (case htzq => intro q9zq hq9zq; (repeat (first | exact hq9zq | refine List.mem_cons_of_mem _ ?_))); (case h4zq => assumption); (case hbzq => assumption); (case h5zq => assumption); (case h6zq => assumption); (case h3zq => exact rfl); (case h7zq => assumption); (case h8zq => assumption); (case h9zq => assumption); (case hazq => assumption); (case hczq => assumption); (case hezq => assumption); (case kKzq => first | exact rfl | assumption); (case kdzq => ktr_room); (case kuzq => ktr_units)); (intro r9zq news9zq h9zq tk9zq F9zq N9zq hOzq; obtain ⟨e2zq, hG9zq⟩ := hOzq; subst e2zq; (try dsimp only); (try k_fold))))) | (safely (with_reducible (k_here; (with_reducible show wpAny _ _ (compareOp CmpOp.NotEq (Value.ref _) (Value.ref _)) _ _ _); k_dflt (first | (refine' ne_three ?Nzq ?azq ?bzq ?czq ?dzq ?ezq ?fzq ?uzq ?_; (case Nzq => k_asm); (case azq => k_mem); (case bzq => k_mem); (case czq => rfl); (case dzq => rfl); (case ezq => rfl); (case fzq => rfl); (case uzq => ktr_units)) | (refine' rows_ne ?Nzq ?azq ?bzq ?czq ?dzq ?uzq ?_; (case Nzq => k_asm); (case azq => assumption); (case czq => assumption); (case bzq => intro q9zq hq9zq; k_mem); (case dzq => intro q9zq hq9zq; k_mem); (case uzq => ktr_units))); (try simp only [eq_self, decide_true, Bool.not_true])))) | (safely (with_reducible (k_here; (with_reducible show wpAny _ _ (call (Value.ref 105) [Value.ref _, Value.int _ _]) _ _ _); k_dflt (refine' smoothed_con _ _ _ _ _ _ _ _ ?khzq ?kazq ?kbzq _ _ _ _ _ _ _ _ _ _ _ _ _ _ _ _ _ ?k1zq ?k2zq ?k3zq ?k4zq ?k5zq ?kKzq ?kdzq ?kuzq ?_; (case k1zq => k_asm); (case k2zq => k_asm); (case k3zq => k_asm); (case k4zq => k_asm); (case k5zq => k_asm); (case khzq => refine Pl.mono (by assumption) ?_; intro q9zq hq9zq; (repeat (first | assumption | refine List.mem_cons_of_mem _ ?_ | refine Grows.sub (by assumption) _ ?_))); (case kazq => assumption); (case kbzq => assumption); (case kKzq => first | exact rfl | assumption); (case kdzq => ktr_room); (case kuzq => ktr_units)); (intro r9zq news9zq h9zq tk9zq F9zq N9zq hOzq; obtain ⟨q9zq, c9zq, tl9zq, e2zq, etl9zq, hG9zq, hP9zq, hR9zq⟩ := hOzq; subst e2zq; (try dsimp only); (try k_fold))))) | (safely (with_reducible (k_here; (with_reducible show wpAny _ _ (call (Value.ref 161) [Value.ref _, Value.int _ _]) _ _ _); k_dflt (refine' refused_con _ _ _ _ ?khzq _ _ _ _ _ _ _ _ _ _ _ _ _ _ _ ?k1zq ?k2zq ?k3zq ?k4zq ?k5zq ?kKzq ?kdzq ?kuzq ?_; (case k1zq => k_asm); (case k2zq => k_asm); (case k3zq => k_asm); (case k4zq => k_asm); (case k5zq => k_asm); (case khzq => first | exact .inl (by omega) | exact .inr (by omega)); (case kKzq => first | exact rfl | assumption); (case kdzq => ktr_room); (case kuzq => ktr_units)); (intro r9zq news9zq h9zq tk9zq F9zq N9zq hOzq; obtain ⟨e2zq, e1zq⟩ := hOzq; rw [e1zq] at N9zq; clear e1zq; subst e2zq; (try dsimp only); (try k_fold))))) | (safely (with_reducible (k_here; (with_reducible show wpAny _ _ (call (Value.ref 84) [Value.int _ _, Value.int _ _, Value.ref _]) _ _ _); k_dflt (refine' plane_con _ _ _ _ _ _ _ _ _ _ _ _ _ _ _ _ _ _ _ _ _ _ _ ?k1zq ?k2zq ?k3zq ?k4zq ?k5zq ?kKzq ?kdzq ?kuzq ?_; (case k1zq => k_asm); (case k2zq => k_asm); (case k3zq => k_asm); (case k4zq => k_asm); (case k5zq => k_asm); (case kKzq => first | exact rfl | assumption); (case kdzq => ktr_room); (case kuzq => ktr_units)); (intro r9zq news9zq h9zq tk9zq F9zq N9zq hOzq; obtain ⟨q9zq, e2zq, hG9zq, hP9zq⟩ := hOzq; subst e2zq; (try dsimp only); (try k_fold))))) | (safely (with_reducible (k_here; (with_reducible show wpAny _ _ (call (Value.builtin "len") [Value.ref _]) _ _ _); k_dflt (refine' len_led ?Nzq ?mzq ?ezq ?azq ?bzq ?_; (case Nzq => k_asm); (case mzq => k_mem); (case ezq => assumption); (case azq => assumption); (case bzq => assumption))))) | (safely (with_reducible (k_here; (with_reducible show wpAny _ _ (subscriptTail (PySem.Expr.Subscript _ _ _) (PySem.Expr.Constant _ _ _) (Value.ref _) (Value.int _ _)) _ _ _); (with_unfolding_all refine' int_itemB ?Nzq ?mzq ?izq ?dzq ?ezq ?azq ?bzq ?czq ?_ ?szq; (case izq => with_reducible assumption); (case Nzq => with_reducible assumption); (case mzq => (repeat (first | with_reducible assumption | refine List.mem_cons_of_mem _ ?_ | refine List.mem_append.mpr (.inr ?_)))); (case dzq => with_reducible assumption); (case ezq => with_reducible assumption); (case azq => omega); (case bzq => omega); (case czq => omega); (case szq => with_unfolding_all rfl)); k_whole; intro t9zq a9zq ea9zq la9zq lb9zq))) | (safely (with_reducible (k_here; (with_reducible show wpAny _ _ (subscriptTail (PySem.Expr.Name _ _) (PySem.Expr.Constant _ _ _) (Value.ref _) (Value.int _ _)) _ _ _); (with_unfolding_all refine' row_itemB ?Nzq ?mzq ?zzq ?dzq ?ezq ?azq ?bzq ?czq ?_ ?szq; (case Nzq => with_reducible assumption); (case mzq => with_reducible assumption); (case dzq => with_reducible assumption); (case ezq => with_reducible assumption); (case zzq => intro q9zq hq9zq; (repeat (first | exact hq9zq | refine List.mem_cons_of_mem _ ?_ | refine List.mem_append.mpr (.inr ?_)))); (case azq => omega); (case bzq => omega); (case czq => omega); (case szq => with_unfolding_all rfl)); k_whole; intro c9zq us9zq n9zq hm9zq hi9zq hu9zq hl9zq hc9zq))) | (safely (with_reducible (k_here; (with_reducible show wpAny _ _ (call (Value.ref 133) [Value.ref _, Value.ref _]) _ _ _); k_dflt (refine' one_con _ _ _ _ _ _ _ _ _ _ _ ?kszq ?knzq ?klzq ?kvzq ?kwzq ?kazq ?kbzq ?kczq _ _ _ _ _ _ _ _ _ _ _ _ _ _ _ _ _ ?k1zq ?k2zq ?k3zq ?k4zq ?k5zq ?kKzq ?kdzq ?kuzq ?_; (case k1zq => k_asm); (case k2zq => k_asm); (case k3zq => k_asm); (case k4zq => k_asm); (case k5zq => k_asm); (case kszq => first | exact SplitL.here | exact SplitL.there .here | exact SplitL.there (.there .here) | exact SplitL.there (.there (.there .here)) | exact SplitL.there (.there (.there (.there .here))) | exact SplitL.there (.there (.there (.there (.there .here)))) | exact SplitL.there (.there (.there (.there (.there (.there .here))))) | exact SplitL.there (.there (.there (.there (.there (.there (.there .here))))))); (case knzq => k_all); (case klzq => k_mem); (case kvzq => exact Nat.zero_lt_succ _); (case kwzq => exact Nat.le_of_ble_eq_true rfl); (case kazq => assumption); (case kbzq => assumption); (case kczq => assumption); (case kKzq => first | exact rfl | assumption); (case kdzq => ktr_room); (case kuzq => ktr_units)); (intro r9zq news9zq h9zq tk9zq F9zq N9zq hOzq; obtain ⟨i9zq, a9zq, b9zq, t9zq, u9zq, n9zq, e2zq, a90zq, b90zq, b91zq, e1zq⟩ := hOzq; rw [e1zq] at N9zq; clear e1zq; (first | (have hp9zq := pick4 e2zq) | (have hp9zq := pick7 e2zq) | (have hp9zq := pickS e2zq)); obtain ⟨x9zq, tx9zq, ex9zq, hx9zq⟩ := hp9zq; clear e2zq; subst ex9zq; (try dsimp only); (try k_fold))))) | (safely (with_reducible (k_here; (with_reducible show wpAny _ _ (call (Value.ref 126) [Value.ref _, Value.int _ _]) _ _ _); k_dflt (refine' take_con _ _ _ _ _ _ _ _ _ _ ?kszq ?knzq ?kazq ?kbzq ?kczq ?ktzq ?kpzq _ _ _ _ _ _ _ _ _ _ _ _ _ _ _ _ _ ?k1zq ?k2zq ?k3zq ?k4zq ?k5zq ?kKzq ?kdzq ?kuzq ?_; (case k1zq => k_asm); (case k2zq => k_asm); (case k3zq => k_asm); (case k4zq => k_asm); (case k5zq => k_asm); (case kszq => first | exact SplitL.here | exact SplitL.there .here | exact SplitL.there (.there .here) | exact SplitL.there (.there (.there .here)) | exact SplitL.there (.there (.there (.there .here))) | exact SplitL.there (.there (.there (.there (.there .here)))) | exact SplitL.there (.there (.there (.there (.there (.there .here))))) | exact SplitL.there (.there (.there (.there (.there (.there (.there .here))))))); (case knzq => k_all); (case kazq => assumption); (case kbzq => assumption); (case kczq => assumption); (case ktzq => first | decide | assumption | omega); (case kpzq => first | decide | assumption | omega); (case kKzq => first | exact rfl | assumption); (case kdzq => ktr_room); (case kuzq => ktr_units)); (intro r9zq news9zq h9zq tk9zq F9zq N9zq hOzq; obtain ⟨d9zq, td9zq, a9zq, b9zq, t9zq, u9zq, n9zq, e2zq, d0zq, d1zq, a90zq, b90zq, b91zq, e1zq⟩ := hOzq; rw [e1zq] at N9zq; clear e1zq; subst e2zq; (try dsimp only); (try k_fold))))) | (have tokzq : PassTok := PassTok.mk; walk1 <;> (try clear tokzq))) | (k_unfold; (try dsimp only)) | (k_end; wrow_close) | walk1 | (dsimp only; walk1) | (leave1; walk_say "STEP leave1"; try dsimp only) | fail "no step")); (all_goals (try (with_reducible refine Halt.mk ?_))))
                (try dsimp only)
                rename Fr _ _ _ _ => lF'
                rename News _ _ _ _ => lN'
                rename Grows _ _ => hGx
                rename PlaneAt _ _ _ _ _ _ => hPx
                have hsub := fun q (hq : q ∈ rest) => hGx.sub q (.tail _ (.tail _ (.tail _ (.tail _ (.tail _ hq)))))
                have hlen : rows.length ≤ 4 := by omega
                with_unfolding_all refine clist_J (JB _ rows) rfl lF' lN' (hsub _ hm) (by simp only [sizeLine]; omega) ⟨[], rfl, apart_nil, RowVals.nil _⟩ ?_ ?_
                · rintro i ys nx v I8 oI8 C8 oC8 D8 m8 h8 tk8 E8 hv ⟨tl, rfl, htl, hR⟩ hC8 hx8 F8 N8 off8 ne8
                  have hi : i < rows.length := by
                    rw [← hvl]
                    exact (List.getElem?_eq_some_iff.mp hv).1
                  obtain ⟨v', hv', bi, us, ni, rfl, hmi, hii⟩ := hvr i (rows.getD i []) (by simp [List.getD_eq_getElem?_getD, hi])
                  rw [hv] at hv'
                  cases hv'
                  have hmi' := List.mem_append.mpr (.inr (hsub _ hmi) : _ ∈ tl ∨ _)
                  have hul : us.length ≤ 4 := by
                    have e1 := hii.length
                    have e2 := wl (rows.getD i []) (by rw [List.getD_eq_getElem?_getD, List.getElem?_eq_getElem hi]; exact List.getElem_mem _)
                    omega
                  have hmi8 := N8 _ (List.mem_cons_of_mem _ (List.mem_cons_of_mem _ (List.mem_cons_of_mem _ hmi')))
                  have hisl : h8.IsList bi us.toArray := ⟨_, hmi8.1, rfl, ni, rfl⟩
                  clear lF' lN'
                  (try k_fold)
                  ((repeat' (first | ((with_reducible refine Halt.mk ?_); first | (safely (with_reducible (k_here; (with_reducible show wpAny _ _ (call (Value.ref 105) [Value.ref _, Value.int _ _]) _ _ _); (rename Pl _ _ _ _ _ _ (turned _ _ _) => hT9zq); k_dflt (refine' smoothed_con _ _ _ _ _ _ _ _ hT9zq ?kazq ?kbzq _ _ _ _ _ _ _ _ _ _ _ _ _ _ _ _ _ ?k1zq ?k2zq ?k3zq ?k4zq ?k5zq ?kKzq ?kdzq ?kuzq ?_; (case k1zq => k_asm); (case k2zq => k_asm); (case k3zq => k_asm); (case k4zq => k_asm); (case k5zq => k_asm); (case kazq => assumption); (case kbzq => assumption); (case kKzq => first | exact rfl | assumption); (case kdzq => ktr_room); (case kuzq => ktr_units)); (intro r9zq news9zq h9zq tk9zq F9zq N9zq hOzq; obtain ⟨q9zq, c9zq, tl9zq, e2zq, -, hG9zq, hP9zq, -⟩ := hOzq; subst e2zq); (with_unfolding_all (have hS9zq := hP9zq.rs; have hA9zq := hP9zq.pl; obtain ⟨dx9zq, w1zq, w2zq, w3zq, w4zq, w5zq, n9zq, hp1zq, hp2zq⟩ := hA9zq)); ((try dsimp only); (try k_fold))))) | (safely (with_reducible (k_here; (with_reducible show wpAny _ _ (call (Value.ref 100) [Value.ref _, Value.str _ _]) _ _ _); k_dflt (refine' turned_con _ _ _ _ _ _ _ _ ?khzq ?kwzq _ _ _ _ _ _ _ _ _ _ _ _ _ _ _ _ _ ?k1zq ?k2zq ?k3zq ?k4zq ?k5zq ?kKzq ?kdzq ?kuzq ?_; (case k1zq => k_asm); (case k2zq => k_asm); (case k3zq => k_asm); (case k4zq => k_asm); (case k5zq => k_asm); (case khzq => refine Pl.mono (by assumption) ?_; intro q9zq hq9zq; (repeat (first | exact hq9zq | refine List.mem_cons_of_mem _ ?_ | refine Grows.sub (by assumption) _ ?_))); (case kwzq => assumption); (case kKzq => first | exact rfl | assumption); (case kdzq => ktr_room); (case kuzq => ktr_units)); (intro r9zq news9zq h9zq tk9zq F9zq N9zq hOzq; obtain ⟨q9zq, c9zq, e2zq, hG9zq, hP9zq⟩ := hOzq; subst e2zq); (with_unfolding_all (have hS9zq := hP9zq.rs; have hA9zq := hP9zq.pl; obtain ⟨dx9zq, w1zq, w2zq, w3zq, w4zq, w5zq, n9zq, hp1zq, hp2zq⟩ := hA9zq)); ((try dsimp only); (try k_fold))))) | (safely (with_reducible (k_here; (with_reducible show wpAny _ _ (compareOp CmpOp.Eq (Value.ref _) (Value.ref _)) _ _ _); k_dflt (refine' rows_eq ?Nzq ?azq ?bzq ?czq ?dzq ?uzq ?_; (case Nzq => k_asm); (case azq => assumption); (case czq => assumption); (case bzq => intro q9zq hq9zq; (repeat (first | exact hq9zq | refine List.mem_cons_of_mem _ ?_ | refine List.mem_append.mpr (.inr ?_) | refine Grows.sub (by assumption) _ ?_))); (case dzq => first | exact fun q9zq hq9zq => hq9zq | (intro q9zq hq9zq; (repeat (first | exact hq9zq | refine List.mem_cons_of_mem _ ?_ | refine List.mem_append.mpr (.inr ?_) | refine Grows.sub (by assumption) _ ?_))) | assumption); (case uzq => ktr_units))))) | (safely (with_reducible (k_here; (with_reducible show wpAny _ _ (call (Value.ref 154) [Value.ref _, Value.ref _, Value.int _ _]) _ _ _); k_dflt (refine' right_con' _ _ _ _ _ _ _ _ _ _ _ ?h1zq ?h2zq ?hszq ?htzq ?h3zq ?h4zq ?h5zq ?h6zq ?h7zq ?h8zq ?h9zq ?hazq ?hbzq ?hczq ?hezq _ _ _ _ _ _ _ _ _ _ _ _ _ _ _ _ _ ?k1zq ?k2zq ?k3zq ?k4zq ?k5zq ?kKzq ?kdzq ?kuzq ?_; (case k1zq => k_asm); (case k2zq => k_asm); (case k3zq => k_asm); (case k4zq => k_asm); (case k5zq => k_asm); (case h1zq => assumption); (case h2zq => assumption); (case hszq => intro q9zq hq9zq; (repeat (first | exact hq9zq | refine List.mem_cons_of_mem _ ?_))); (case htzq => intro q9zq hq9zq; (repeat (first | exact hq9zq | refine List.mem_cons_of_mem _ ?_))); (case h4zq => assumption); (case hbzq => assumption); (case h5zq => assumption); (case h6zq => assumption); (case h3zq => exact rfl); (case h7zq => assumption); (case h8zq => assumption); (case h9zq => assumption); (case hazq => assumption); (case hczq => assumption); (case hezq => assumption); (case kKzq => first | exact rfl | assumption); (case kdzq => ktr_room); (case kuzq => ktr_units)); (intro r9zq news9zq h9zq tk9zq F9zq N9zq hOzq; obtain ⟨e2zq, hG9zq⟩ := hOzq; subst e2zq; (try dsimp only); (try k_fold))))) | (safely (with_reducible (k_here; (with_reducible show wpAny _ _ (compareOp CmpOp.NotEq (Value.ref _) (Value.ref _)) _ _ _); k_dflt (first | (refine' ne_three ?Nzq ?azq ?bzq ?czq ?dzq ?ezq ?fzq ?uzq ?_; (case Nzq => k_asm); (case azq => k_mem); (case bzq => k_mem); (case czq => rfl); (case dzq => rfl); (case ezq => rfl); (case fzq => rfl); (case uzq => ktr_units)) | (refine' rows_ne ?Nzq ?azq ?bzq ?czq ?dzq ?uzq ?_; (case Nzq => k_asm); (case azq => assumption); (case czq => assumption); (case bzq => intro q9zq hq9zq; k_mem); (case dzq => intro q9zq hq9zq; k_mem); (case uzq => ktr_units))); (try simp only [eq_self, decide_true, Bool.not_true])))) | (safely (with_reducible (k_here; (with_reducible show wpAny _ _ (call (Value.ref 105) [Value.ref _, Value.int _ _]) _ _ _); k_dflt (refine' smoothed_con _ _ _ _ _ _ _ _ ?khzq ?kazq ?kbzq _ _ _ _ _ _ _ _ _ _ _ _ _ _ _ _ _ ?k1zq ?k2zq ?k3zq ?k4zq ?k5zq ?kKzq ?kdzq ?kuzq ?_; (case k1zq => k_asm); (case k2zq => k_asm); (case k3zq => k_asm); (case k4zq => k_asm); (case k5zq => k_asm); (case khzq => refine Pl.mono (by assumption) ?_; intro q9zq hq9zq; (repeat (first | assumption | refine List.mem_cons_of_mem _ ?_ | refine Grows.sub (by assumption) _ ?_))); (case kazq => assumption); (case kbzq => assumption); (case kKzq => first | exact rfl | assumption); (case kdzq => ktr_room); (case kuzq => ktr_units)); (intro r9zq news9zq h9zq tk9zq F9zq N9zq hOzq; obtain ⟨q9zq, c9zq, tl9zq, e2zq, etl9zq, hG9zq, hP9zq, hR9zq⟩ := hOzq; subst e2zq; (try dsimp only); (try k_fold))))) | (safely (with_reducible (k_here; (with_reducible show wpAny _ _ (call (Value.ref 161) [Value.ref _, Value.int _ _]) _ _ _); k_dflt (refine' refused_con _ _ _ _ ?khzq _ _ _ _ _ _ _ _ _ _ _ _ _ _ _ ?k1zq ?k2zq ?k3zq ?k4zq ?k5zq ?kKzq ?kdzq ?kuzq ?_; (case k1zq => k_asm); (case k2zq => k_asm); (case k3zq => k_asm); (case k4zq => k_asm); (case k5zq => k_asm); (case khzq => first | exact .inl (by omega) | exact .inr (by omega)); (case kKzq => first | exact rfl | assumption); (case kdzq => ktr_room); (case kuzq => ktr_units)); (intro r9zq news9zq h9zq tk9zq F9zq N9zq hOzq; obtain ⟨e2zq, e1zq⟩ := hOzq; rw [e1zq] at N9zq; clear e1zq; subst e2zq; (try dsimp only); (try k_fold))))) | (safely (with_reducible (k_here; (with_reducible show wpAny _ _ (call (Value.ref 84) [Value.int _ _, Value.int _ _, Value.ref _]) _ _ _); k_dflt (refine' plane_con _ _ _ _ _ _ _ _ _ _ _ _ _ _ _ _ _ _ _ _ _ _ _ ?k1zq ?k2zq ?k3zq ?k4zq ?k5zq ?kKzq ?kdzq ?kuzq ?_; (case k1zq => k_asm); (case k2zq => k_asm); (case k3zq => k_asm); (case k4zq => k_asm); (case k5zq => k_asm); (case kKzq => first | exact rfl | assumption); (case kdzq => ktr_room); (case kuzq => ktr_units)); (intro r9zq news9zq h9zq tk9zq F9zq N9zq hOzq; obtain ⟨q9zq, e2zq, hG9zq, hP9zq⟩ := hOzq; subst e2zq; (try dsimp only); (try k_fold))))) | (safely (with_reducible (k_here; (with_reducible show wpAny _ _ (call (Value.builtin "len") [Value.ref _]) _ _ _); k_dflt (refine' len_led ?Nzq ?mzq ?ezq ?azq ?bzq ?_; (case Nzq => k_asm); (case mzq => k_mem); (case ezq => assumption); (case azq => assumption); (case bzq => assumption))))) | (safely (with_reducible (k_here; (with_reducible show wpAny _ _ (subscriptTail (PySem.Expr.Subscript _ _ _) (PySem.Expr.Constant _ _ _) (Value.ref _) (Value.int _ _)) _ _ _); (with_unfolding_all refine' int_itemB ?Nzq ?mzq ?izq ?dzq ?ezq ?azq ?bzq ?czq ?_ ?szq; (case izq => with_reducible assumption); (case Nzq => with_reducible assumption); (case mzq => (repeat (first | with_reducible assumption | refine List.mem_cons_of_mem _ ?_ | refine List.mem_append.mpr (.inr ?_)))); (case dzq => with_reducible assumption); (case ezq => with_reducible assumption); (case azq => omega); (case bzq => omega); (case czq => omega); (case szq => with_unfolding_all rfl)); k_whole; intro t9zq a9zq ea9zq la9zq lb9zq))) | (safely (with_reducible (k_here; (with_reducible show wpAny _ _ (subscriptTail (PySem.Expr.Name _ _) (PySem.Expr.Constant _ _ _) (Value.ref _) (Value.int _ _)) _ _ _); (with_unfolding_all refine' row_itemB ?Nzq ?mzq ?zzq ?dzq ?ezq ?azq ?bzq ?czq ?_ ?szq; (case Nzq => with_reducible assumption); (case mzq => with_reducible assumption); (case dzq => with_reducible assumption); (case ezq => with_reducible assumption); (case zzq => intro q9zq hq9zq; (repeat (first | exact hq9zq | refine List.mem_cons_of_mem _ ?_ | refine List.mem_append.mpr (.inr ?_)))); (case azq => omega); (case bzq => omega); (case czq => omega); (case szq => with_unfolding_all rfl)); k_whole; intro c9zq us9zq n9zq hm9zq hi9zq hu9zq hl9zq hc9zq))) | (safely (with_reducible (k_here; (with_reducible show wpAny _ _ (call (Value.ref 133) [Value.ref _, Value.ref _]) _ _ _); k_dflt (refine' one_con _ _ _ _ _ _ _ _ _ _ _ ?kszq ?knzq ?klzq ?kvzq ?kwzq ?kazq ?kbzq ?kczq _ _ _ _ _ _ _ _ _ _ _ _ _ _ _ _ _ ?k1zq ?k2zq ?k3zq ?k4zq ?k5zq ?kKzq ?kdzq ?kuzq ?_; (case k1zq => k_asm); (case k2zq => k_asm); (case k3zq => k_asm); (case k4zq => k_asm); (case k5zq => k_asm); (case kszq => first | exact SplitL.here | exact SplitL.there .here | exact SplitL.there (.there .here) | exact SplitL.there (.there (.there .here)) | exact SplitL.there (.there (.there (.there .here))) | exact SplitL.there (.there (.there (.there (.there .here)))) | exact SplitL.there (.there (.there (.there (.there (.there .here))))) | exact SplitL.there (.there (.there (.there (.there (.there (.there .here))))))); (case knzq => k_all); (case klzq => k_mem); (case kvzq => exact Nat.zero_lt_succ _); (case kwzq => exact Nat.le_of_ble_eq_true rfl); (case kazq => assumption); (case kbzq => assumption); (case kczq => assumption); (case kKzq => first | exact rfl | assumption); (case kdzq => ktr_room); (case kuzq => ktr_units)); (intro r9zq news9zq h9zq tk9zq F9zq N9zq hOzq; obtain ⟨i9zq, a9zq, b9zq, t9zq, u9zq, n9zq, e2zq, a90zq, b90zq, b91zq, e1zq⟩ := hOzq; rw [e1zq] at N9zq; clear e1zq; (first | (have hp9zq := pick4 e2zq) | (have hp9zq := pick7 e2zq) | (have hp9zq := pickS e2zq)); obtain ⟨x9zq, tx9zq, ex9zq, hx9zq⟩ := hp9zq; clear e2zq; subst ex9zq; (try dsimp only); (try k_fold))))) | (safely (with_reducible (k_here; (with_reducible show wpAny _ _ (call (Value.ref 126) [Value.ref _, Value.int _ _]) _ _ _); k_dflt (refine' take_con _ _ _ _ _ _ _ _ _ _ ?kszq ?knzq ?kazq ?kbzq ?kczq ?ktzq ?kpzq _ _ _ _ _ _ _ _ _ _ _ _ _ _ _ _ _ ?k1zq ?k2zq ?k3zq ?k4zq ?k5zq ?kKzq ?kdzq ?kuzq ?_; (case k1zq => k_asm); (case k2zq => k_asm); (case k3zq => k_asm); (case k4zq => k_asm); (case k5zq => k_asm); (case kszq => first | exact SplitL.here | exact SplitL.there .here | exact SplitL.there (.there .here) | exact SplitL.there (.there (.there .here)) | exact SplitL.there (.there (.there (.there .here))) | exact SplitL.there (.there (.there (.there (.there .here)))) | exact SplitL.there (.there (.there (.there (.there (.there .here))))) | exact SplitL.there (.there (.there (.there (.there (.there (.there .here))))))); (case knzq => k_all); (case kazq => assumption); (case kbzq => assumption); (case kczq => assumption); (case ktzq => first | decide | assumption | omega); (case kpzq => first | decide | assumption | omega); (case kKzq => first | exact rfl | assumption); (case kdzq => ktr_room); (case kuzq => ktr_units)); (intro r9zq news9zq h9zq tk9zq F9zq N9zq hOzq; obtain ⟨d9zq, td9zq, a9zq, b9zq, t9zq, u9zq, n9zq, e2zq, d0zq, d1zq, a90zq, b90zq, b91zq, e1zq⟩ := hOzq; rw [e1zq] at N9zq; clear e1zq; subst e2zq; (try dsimp only); (try k_fold))))) | (have tokzq : PassTok := PassTok.mk; walk1 <;> (try clear tokzq))) | (k_unfold; (try dsimp only)) | (k_end; wrow_close) | walk1 | (dsimp only; walk1) | (leave1; walk_say "STEP leave1"; try dsimp only) | fail "no step")); (all_goals (try (with_reducible refine Halt.mk ?_))))
                  rename News _ _ _ _ => lN'
                  rename (@LT.lt Nat _ _ _ ∧ _) => lo8
                  refine led_head lN' fun D7 e7 => ?_
                  subst e7
                  have q1 := allLt_ne lo8.2.2.2
                  refine cend_new (by assumption) lN' (Nat.ne_of_gt lo8.1) (Nat.ne_of_gt lo8.2.1) (Nat.ne_of_gt lo8.2.2.1) off8 (Or.inr ⟨_, List.mem_cons_of_mem _ (List.mem_append.mpr (.inr (hsub _ hm))), rfl, _, rfl⟩) ⟨(D7, _) :: tl, rfl, ?_, ?_⟩
                  · intro p hp q hq e
                    rcases List.mem_cons.mp hp with rfl | hp
                    · exact q1 q (List.mem_append.mpr (.inr hq)) e.symm
                    · exact htl p hp q hq e
                  rw [List.take_add_one, List.getElem?_eq_getElem hi]
                  refine RowVals.snoc (hR.mono fun q hq => List.mem_cons_of_mem _ hq) ⟨_, _, _, rfl, List.mem_cons_self, ?_⟩
                  have e : rows.getD i [] = rows[i] := by rw [List.getD_eq_getElem?_getD, List.getElem?_eq_getElem hi]; rfl
                  exact e ▸ hii
                · rintro g8 ys nx ⟨tl, rfl, htl, hR⟩
                  unfold LCg.FinE
                  intro D8 h8 tk8 F8 N8 off8
                  clear lF' lN'
                  rw [hvl, List.take_length] at hR
                  have hDn := off1_ne off8
                  have hG2 := hGx.trans (Grows.cons ⟨tl, rfl, htl⟩ hDn : Grows _ ((D8, LCg.lst ys) :: (tl ++ _)))
                  obtain ⟨tl2, g1, g2, g3⟩ := grows_law hG2
                  have N9 := sub_news N8 g1
                  have gP := plane_rest (hPx.mono (n2 := _) fun q hq => g2 q (List.mem_cons_of_mem _ (List.mem_append.mpr (.inr hq)))) c1 c2 c3 c4
                  have hPl := (⟨gP, hr.mono fun q hq => List.mem_append.mpr (.inr hq), hl, h0, w0, wl, h4, w4, hc⟩ : Pl wQ.params _ _ W H R rows)
                  have hbx := fun q (hq : q ∈ [(S, src a1 b1 t1 u1 n1), (sQ.heap.objs.size + 1 + 1 + 1 + 1, o4), (sQ.heap.objs.size + 1 + 1 + 1, o3), (sQ.heap.objs.size + 1 + 1, o2), (sQ.heap.objs.size + 1, o1)]) => hGx.sub q (List.mem_append.mpr (.inl hq) : q ∈ _ ++ rest)
                  have hB := ((hR.mono (n2 := tl2 ++ rest) fun q hq => rest_addr (g2 q (List.mem_cons_of_mem _ (List.mem_append.mpr (.inl hq)))) (htl q hq _ (hbx _ (.head _))) (htl q hq _ (hbx _ (.tail _ (.head _)))) (htl q hq _ (hbx _ (.tail _ (.tail _ (.head _))))) (htl q hq _ (hbx _ (.tail _ (.tail _ (.tail _ (.head _)))))) (htl q hq _ (hbx _ (.tail _ (.tail _ (.tail _ (.tail _ (.head _)))))))).rows (n := ys.length) (b := D8) (rest_addr (g2 _ List.mem_cons_self) (Ne.symm (hDn _ (List.mem_append.mpr (.inr (hbx _ (.head _)))))) (Ne.symm (hDn _ (List.mem_append.mpr (.inr (hbx _ (.tail _ (.head _))))))) (Ne.symm (hDn _ (List.mem_append.mpr (.inr (hbx _ (.tail _ (.tail _ (.head _)))))))) (Ne.symm (hDn _ (List.mem_append.mpr (.inr (hbx _ (.tail _ (.tail _ (.tail _ (.head _))))))))) (Ne.symm (hDn _ (List.mem_append.mpr (.inr (hbx _ (.tail _ (.tail _ (.tail _ (.tail _ (.head _))))))))))))
                  clear N8
                  (try k_fold)
                  ((repeat' (first | ((with_reducible refine Halt.mk ?_); first | (safely (with_reducible (k_here; (with_reducible show wpAny _ _ (call (Value.ref 105) [Value.ref _, Value.int _ _]) _ _ _); (rename Pl _ _ _ _ _ _ (turned _ _ _) => hT9zq); k_dflt (refine' smoothed_con _ _ _ _ _ _ _ _ hT9zq ?kazq ?kbzq _ _ _ _ _ _ _ _ _ _ _ _ _ _ _ _ _ ?k1zq ?k2zq ?k3zq ?k4zq ?k5zq ?kKzq ?kdzq ?kuzq ?_; (case k1zq => k_asm); (case k2zq => k_asm); (case k3zq => k_asm); (case k4zq => k_asm); (case k5zq => k_asm); (case kazq => assumption); (case kbzq => assumption); (case kKzq => first | exact rfl | assumption); (case kdzq => ktr_room); (case kuzq => ktr_units)); (intro r9zq news9zq h9zq tk9zq F9zq N9zq hOzq; obtain ⟨q9zq, c9zq, tl9zq, e2zq, -, hG9zq, hP9zq, -⟩ := hOzq; subst e2zq); (with_unfolding_all (have hS9zq := hP9zq.rs; have hA9zq := hP9zq.pl; obtain ⟨dx9zq, w1zq, w2zq, w3zq, w4zq, w5zq, n9zq, hp1zq, hp2zq⟩ := hA9zq)); ((try dsimp only); (try k_fold))))) | (safely (with_reducible (k_here; (with_reducible show wpAny _ _ (call (Value.ref 100) [Value.ref _, Value.str _ _]) _ _ _); k_dflt (refine' turned_con _ _ _ _ _ _ _ _ ?khzq ?kwzq _ _ _ _ _ _ _ _ _ _ _ _ _ _ _ _ _ ?k1zq ?k2zq ?k3zq ?k4zq ?k5zq ?kKzq ?kdzq ?kuzq ?_; (case k1zq => k_asm); (case k2zq => k_asm); (case k3zq => k_asm); (case k4zq => k_asm); (case k5zq => k_asm); (case khzq => refine Pl.mono (by assumption) ?_; intro q9zq hq9zq; (repeat (first | exact hq9zq | refine List.mem_cons_of_mem _ ?_ | refine Grows.sub (by assumption) _ ?_))); (case kwzq => assumption); (case kKzq => first | exact rfl | assumption); (case kdzq => ktr_room); (case kuzq => ktr_units)); (intro r9zq news9zq h9zq tk9zq F9zq N9zq hOzq; obtain ⟨q9zq, c9zq, e2zq, hG9zq, hP9zq⟩ := hOzq; subst e2zq); (with_unfolding_all (have hS9zq := hP9zq.rs; have hA9zq := hP9zq.pl; obtain ⟨dx9zq, w1zq, w2zq, w3zq, w4zq, w5zq, n9zq, hp1zq, hp2zq⟩ := hA9zq)); ((try dsimp only); (try k_fold))))) | (safely (with_reducible (k_here; (with_reducible show wpAny _ _ (compareOp CmpOp.Eq (Value.ref _) (Value.ref _)) _ _ _); k_dflt (refine' rows_eq ?Nzq ?azq ?bzq ?czq ?dzq ?uzq ?_; (case Nzq => k_asm); (case azq => assumption); (case czq => assumption); (case bzq => intro q9zq hq9zq; (repeat (first | exact hq9zq | refine List.mem_cons_of_mem _ ?_ | refine List.mem_append.mpr (.inr ?_) | refine Grows.sub (by assumption) _ ?_))); (case dzq => first | exact fun q9zq hq9zq => hq9zq | (intro q9zq hq9zq; (repeat (first | exact hq9zq | refine List.mem_cons_of_mem _ ?_ | refine List.mem_append.mpr (.inr ?_) | refine Grows.sub (by assumption) _ ?_))) | assumption); (case uzq => ktr_units))))) | (safely (with_reducible (k_here; (with_reducible show wpAny _ _ (call (Value.ref 154) [Value.ref _, Value.ref _, Value.int _ _]) _ _ _); k_dflt (refine' right_con' _ _ _ _ _ _ _ _ _ _ _ ?h1zq ?h2zq ?hszq ?htzq ?h3zq ?h4zq ?h5zq ?h6zq ?h7zq ?h8zq ?h9zq ?hazq ?hbzq ?hczq ?hezq _ _ _ _ _ _ _ _ _ _ _ _ _ _ _ _ _ ?k1zq ?k2zq ?k3zq ?k4zq ?k5zq ?kKzq ?kdzq ?kuzq ?_; (case k1zq => k_asm); (case k2zq => k_asm); (case k3zq => k_asm); (case k4zq => k_asm); (case k5zq => k_asm); (case h1zq => assumption); (case h2zq => assumption); (case hszq => intro q9zq hq9zq; (repeat (first | exact hq9zq | refine List.mem_cons_of_mem _ ?_))); (case htzq => intro q9zq hq9zq; (repeat (first | exact hq9zq | refine List.mem_cons_of_mem _ ?_))); (case h4zq => assumption); (case hbzq => assumption); (case h5zq => assumption); (case h6zq => assumption); (case h3zq => exact rfl); (case h7zq => assumption); (case h8zq => assumption); (case h9zq => assumption); (case hazq => assumption); (case hczq => assumption); (case hezq => assumption); (case kKzq => first | exact rfl | assumption); (case kdzq => ktr_room); (case kuzq => ktr_units)); (intro r9zq news9zq h9zq tk9zq F9zq N9zq hOzq; obtain ⟨e2zq, hG9zq⟩ := hOzq; subst e2zq; (try dsimp only); (try k_fold))))) | (safely (with_reducible (k_here; (with_reducible show wpAny _ _ (compareOp CmpOp.NotEq (Value.ref _) (Value.ref _)) _ _ _); k_dflt (first | (refine' ne_three ?Nzq ?azq ?bzq ?czq ?dzq ?ezq ?fzq ?uzq ?_; (case Nzq => k_asm); (case azq => k_mem); (case bzq => k_mem); (case czq => rfl); (case dzq => rfl); (case ezq => rfl); (case fzq => rfl); (case uzq => ktr_units)) | (refine' rows_ne ?Nzq ?azq ?bzq ?czq ?dzq ?uzq ?_; (case Nzq => k_asm); (case azq => assumption); (case czq => assumption); (case bzq => intro q9zq hq9zq; k_mem); (case dzq => intro q9zq hq9zq; k_mem); (case uzq => ktr_units))); (try simp only [eq_self, decide_true, Bool.not_true])))) | (safely (with_reducible (k_here; (with_reducible show wpAny _ _ (call (Value.ref 105) [Value.ref _, Value.int _ _]) _ _ _); k_dflt (refine' smoothed_con _ _ _ _ _ _ _ _ ?khzq ?kazq ?kbzq _ _ _ _ _ _ _ _ _ _ _ _ _ _ _ _ _ ?k1zq ?k2zq ?k3zq ?k4zq ?k5zq ?kKzq ?kdzq ?kuzq ?_; (case k1zq => k_asm); (case k2zq => k_asm); (case k3zq => k_asm); (case k4zq => k_asm); (case k5zq => k_asm); (case khzq => refine Pl.mono (by assumption) ?_; intro q9zq hq9zq; (repeat (first | assumption | refine List.mem_cons_of_mem _ ?_ | refine Grows.sub (by assumption) _ ?_))); (case kazq => assumption); (case kbzq => assumption); (case kKzq => first | exact rfl | assumption); (case kdzq => ktr_room); (case kuzq => ktr_units)); (intro r9zq news9zq h9zq tk9zq F9zq N9zq hOzq; obtain ⟨q9zq, c9zq, tl9zq, e2zq, etl9zq, hG9zq, hP9zq, hR9zq⟩ := hOzq; subst e2zq; (try dsimp only); (try k_fold))))) | (safely (with_reducible (k_here; (with_reducible show wpAny _ _ (call (Value.ref 161) [Value.ref _, Value.int _ _]) _ _ _); k_dflt (refine' refused_con _ _ _ _ ?khzq _ _ _ _ _ _ _ _ _ _ _ _ _ _ _ ?k1zq ?k2zq ?k3zq ?k4zq ?k5zq ?kKzq ?kdzq ?kuzq ?_; (case k1zq => k_asm); (case k2zq => k_asm); (case k3zq => k_asm); (case k4zq => k_asm); (case k5zq => k_asm); (case khzq => first | exact .inl (by omega) | exact .inr (by omega)); (case kKzq => first | exact rfl | assumption); (case kdzq => ktr_room); (case kuzq => ktr_units)); (intro r9zq news9zq h9zq tk9zq F9zq N9zq hOzq; obtain ⟨e2zq, e1zq⟩ := hOzq; rw [e1zq] at N9zq; clear e1zq; subst e2zq; (try dsimp only); (try k_fold))))) | (safely (with_reducible (k_here; (with_reducible show wpAny _ _ (call (Value.ref 84) [Value.int _ _, Value.int _ _, Value.ref _]) _ _ _); k_dflt (refine' plane_con _ _ _ _ _ _ _ _ _ _ _ _ _ _ _ _ _ _ _ _ _ _ _ ?k1zq ?k2zq ?k3zq ?k4zq ?k5zq ?kKzq ?kdzq ?kuzq ?_; (case k1zq => k_asm); (case k2zq => k_asm); (case k3zq => k_asm); (case k4zq => k_asm); (case k5zq => k_asm); (case kKzq => first | exact rfl | assumption); (case kdzq => ktr_room); (case kuzq => ktr_units)); (intro r9zq news9zq h9zq tk9zq F9zq N9zq hOzq; obtain ⟨q9zq, e2zq, hG9zq, hP9zq⟩ := hOzq; subst e2zq; (try dsimp only); (try k_fold))))) | (safely (with_reducible (k_here; (with_reducible show wpAny _ _ (call (Value.builtin "len") [Value.ref _]) _ _ _); k_dflt (refine' len_led ?Nzq ?mzq ?ezq ?azq ?bzq ?_; (case Nzq => k_asm); (case mzq => k_mem); (case ezq => assumption); (case azq => assumption); (case bzq => assumption))))) | (safely (with_reducible (k_here; (with_reducible show wpAny _ _ (subscriptTail (PySem.Expr.Subscript _ _ _) (PySem.Expr.Constant _ _ _) (Value.ref _) (Value.int _ _)) _ _ _); (with_unfolding_all refine' int_itemB ?Nzq ?mzq ?izq ?dzq ?ezq ?azq ?bzq ?czq ?_ ?szq; (case izq => with_reducible assumption); (case Nzq => with_reducible assumption); (case mzq => (repeat (first | with_reducible assumption | refine List.mem_cons_of_mem _ ?_ | refine List.mem_append.mpr (.inr ?_)))); (case dzq => with_reducible assumption); (case ezq => with_reducible assumption); (case azq => omega); (case bzq => omega); (case czq => omega); (case szq => with_unfolding_all rfl)); k_whole; intro t9zq a9zq ea9zq la9zq lb9zq))) | (safely (with_reducible (k_here; (with_reducible show wpAny _ _ (subscriptTail (PySem.Expr.Name _ _) (PySem.Expr.Constant _ _ _) (Value.ref _) (Value.int _ _)) _ _ _); (with_unfolding_all refine' row_itemB ?Nzq ?mzq ?zzq ?dzq ?ezq ?azq ?bzq ?czq ?_ ?szq; (case Nzq => with_reducible assumption); (case mzq => with_reducible assumption); (case dzq => with_reducible assumption); (case ezq => with_reducible assumption); (case zzq => intro q9zq hq9zq; (repeat (first | exact hq9zq | refine List.mem_cons_of_mem _ ?_ | refine List.mem_append.mpr (.inr ?_)))); (case azq => omega); (case bzq => omega); (case czq => omega); (case szq => with_unfolding_all rfl)); k_whole; intro c9zq us9zq n9zq hm9zq hi9zq hu9zq hl9zq hc9zq))) | (safely (with_reducible (k_here; (with_reducible show wpAny _ _ (call (Value.ref 133) [Value.ref _, Value.ref _]) _ _ _); k_dflt (refine' one_con _ _ _ _ _ _ _ _ _ _ _ ?kszq ?knzq ?klzq ?kvzq ?kwzq ?kazq ?kbzq ?kczq _ _ _ _ _ _ _ _ _ _ _ _ _ _ _ _ _ ?k1zq ?k2zq ?k3zq ?k4zq ?k5zq ?kKzq ?kdzq ?kuzq ?_; (case k1zq => k_asm); (case k2zq => k_asm); (case k3zq => k_asm); (case k4zq => k_asm); (case k5zq => k_asm); (case kszq => first | exact SplitL.here | exact SplitL.there .here | exact SplitL.there (.there .here) | exact SplitL.there (.there (.there .here)) | exact SplitL.there (.there (.there (.there .here))) | exact SplitL.there (.there (.there (.there (.there .here)))) | exact SplitL.there (.there (.there (.there (.there (.there .here))))) | exact SplitL.there (.there (.there (.there (.there (.there (.there .here))))))); (case knzq => k_all); (case klzq => k_mem); (case kvzq => exact Nat.zero_lt_succ _); (case kwzq => exact Nat.le_of_ble_eq_true rfl); (case kazq => assumption); (case kbzq => assumption); (case kczq => assumption); (case kKzq => first | exact rfl | assumption); (case kdzq => ktr_room); (case kuzq => ktr_units)); (intro r9zq news9zq h9zq tk9zq F9zq N9zq hOzq; obtain ⟨i9zq, a9zq, b9zq, t9zq, u9zq, n9zq, e2zq, a90zq, b90zq, b91zq, e1zq⟩ := hOzq; rw [e1zq] at N9zq; clear e1zq; (first | (have hp9zq := pick4 e2zq) | (have hp9zq := pick7 e2zq) | (have hp9zq := pickS e2zq)); obtain ⟨x9zq, tx9zq, ex9zq, hx9zq⟩ := hp9zq; clear e2zq; subst ex9zq; (try dsimp only); (try k_fold))))) | (safely (with_reducible (k_here; (with_reducible show wpAny _ _ (call (Value.ref 126) [Value.ref _, Value.int _ _]) _ _ _); k_dflt (refine' take_con _ _ _ _ _ _ _ _ _ _ ?kszq ?knzq ?kazq ?kbzq ?kczq ?ktzq ?kpzq _ _ _ _ _ _ _ _ _ _ _ _ _ _ _ _ _ ?k1zq ?k2zq ?k3zq ?k4zq ?k5zq ?kKzq ?kdzq ?kuzq ?_; (case k1zq => k_asm); (case k2zq => k_asm); (case k3zq => k_asm); (case k4zq => k_asm); (case k5zq => k_asm); (case kszq => first | exact SplitL.here | exact SplitL.there .here | exact SplitL.there (.there .here) | exact SplitL.there (.there (.there .here)) | exact SplitL.there (.there (.there (.there .here))) | exact SplitL.there (.there (.there (.there (.there .here)))) | exact SplitL.there (.there (.there (.there (.there (.there .here))))) | exact SplitL.there (.there (.there (.there (.there (.there (.there .here))))))); (case knzq => k_all); (case kazq => assumption); (case kbzq => assumption); (case kczq => assumption); (case ktzq => first | decide | assumption | omega); (case kpzq => first | decide | assumption | omega); (case kKzq => first | exact rfl | assumption); (case kdzq => ktr_room); (case kuzq => ktr_units)); (intro r9zq news9zq h9zq tk9zq F9zq N9zq hOzq; obtain ⟨d9zq, td9zq, a9zq, b9zq, t9zq, u9zq, n9zq, e2zq, d0zq, d1zq, a90zq, b90zq, b91zq, e1zq⟩ := hOzq; rw [e1zq] at N9zq; clear e1zq; subst e2zq; (try dsimp only); (try k_fold))))) | (have tokzq : PassTok := PassTok.mk; walk1 <;> (try clear tokzq))) | (k_unfold; (try dsimp only)) | (k_end; wrow_close) | walk1 | (dsimp only; walk1) | (leave1; walk_say "STEP leave1"; try dsimp only) | fail "no step")); (all_goals (try (with_reducible refine Halt.mk ?_))))
                  all_goals (try exact trivial)
                  rename Fr _ _ _ _ => lF'
                  rename News _ _ _ _ => lN'
                  refine LSx_mk (S := S) (rest := tl2 ++ rest) lF' (News.tail lN') c1 c2 c3 c4 a0 b0 b1' s1' s2' s3' s4' ?_ ?_ ?_ ?_ ?_ (PlaneP_mk (W := W) (H := H) (R := R) (rows := rows) (sh := sh) (B := D8) rfl rfl (by with_unfolding_all rfl) sh0 sh1 (by with_unfolding_all rfl) (by with_unfolding_all rfl) (by with_unfolding_all rfl) hPl hB)
                  · exact fun q hq => (List.mem_append.mp hq).elim (fun hq => (g3 q hq).1) (rS q)
                  · exact fun q hq => (List.mem_append.mp hq).elim (fun hq => (g3 q hq).2.2.2.2) (r1 q)
                  · exact fun q hq => (List.mem_append.mp hq).elim (fun hq => (g3 q hq).2.2.2.1) (r2 q)
                  · exact fun q hq => (List.mem_append.mp hq).elim (fun hq => (g3 q hq).2.2.1) (r3 q)
                  · exact fun q hq => (List.mem_append.mp hq).elim (fun hq => (g3 q hq).2.1) (r4 q)
              · clear F5' N5 c1 c2 c3 c4 a0 b0 b1' s1' s2' s3' s4' rS r1 r2 r3 r4 ecw ecr ehigh w0 w4 h0 h4 hr hl wl hc eshare sh0 sh1
                rintro m6 h6 tk6 S cw cm cr a1 b1 t1 u1 n1 o1 o2 o3 o4 rest F6 N6 c1 c2 c3 c4 a0 b0 b1' s1' s2' s3' s4' rS r1 r2 r3 r4 hp9
                refine PlaneP_elim hp9 ?_
                clear hp9
                rintro W H R rows tW tH sh tS P B ecw ecr ehigh sh0 sh1 eshare eplane ebefore hPl hB
                rw [ecw] at c2
                rw [ecr] at c4
                have F6' := fr_pin (fr_pin (fr_pin (fr_pin F6 ehigh) (n := Str.ofString "share") (by with_unfolding_all exact eshare)) (n := Str.ofString "plane") (by with_unfolding_all exact eplane)) (n := Str.ofString "before") (by with_unfolding_all exact ebefore)
                clear F6
                dsimp only
                refine wpAny_execs_cons ?_
                refine cut_law F6' (PlaneP wQ) ?_ ?_
                · --S7
                  ((repeat' (first | ((with_reducible refine Halt.mk ?_); first | (safely (with_reducible (k_here; (with_reducible show wpAny _ _ (call (Value.ref 105) [Value.ref _, Value.int _ _]) _ _ _); (rename Pl _ _ _ _ _ _ (turned _ _ _) => hT9zq); k_dflt (refine' smoothed_con _ _ _ _ _ _ _ _ hT9zq ?kazq ?kbzq _ _ _ _ _ _ _ _ _ _ _ _ _ _ _ _ _ ?k1zq ?k2zq ?k3zq ?k4zq ?k5zq ?kKzq ?kdzq ?kuzq ?_; (case k1zq => k_asm); (case k2zq => k_asm); (case k3zq => k_asm); (case k4zq => k_asm); (case k5zq => k_asm); (case kazq => assumption); (case kbzq => assumption); (case kKzq => first | exact rfl | assumption); (case kdzq => ktr_room); (case kuzq => ktr_units)); (intro r9zq news9zq h9zq tk9zq F9zq N9zq hOzq; obtain ⟨q9zq, c9zq, tl9zq, e2zq, -, hG9zq, hP9zq, -⟩ := hOzq; subst e2zq); (with_unfolding_all (have hS9zq := hP9zq.rs; have hA9zq := hP9zq.pl; obtain ⟨dx9zq, w1zq, w2zq, w3zq, w4zq, w5zq, n9zq, hp1zq, hp2zq⟩ := hA9zq)); ((try dsimp only); (try k_fold))))) | (safely (with_reducible (k_here; (with_reducible show wpAny _ _ (call (Value.ref 100) [Value.ref _, Value.str _ _]) _ _ _); k_dflt (refine' turned_con _ _ _ _ _ _ _ _ ?khzq ?kwzq _ _ _ _ _ _ _ _ _ _ _ _ _ _ _ _ _ ?k1zq ?k2zq ?k3zq ?k4zq ?k5zq ?kKzq ?kdzq ?kuzq ?_; (case k1zq => k_asm); (case k2zq => k_asm); (case k3zq => k_asm); (case k4zq => k_asm); (case k5zq => k_asm); (case khzq => refine Pl.mono (by assumption) ?_; intro q9zq hq9zq; (repeat (first | exact hq9zq | refine List.mem_cons_of_mem _ ?_ | refine Grows.sub (by assumption) _ ?_))); (case kwzq => assumption); (case kKzq => first | exact rfl | assumption); (case kdzq => ktr_room); (case kuzq => ktr_units)); (intro r9zq news9zq h9zq tk9zq F9zq N9zq hOzq; obtain ⟨q9zq, c9zq, e2zq, hG9zq, hP9zq⟩ := hOzq; subst e2zq); (with_unfolding_all (have hS9zq := hP9zq.rs; have hA9zq := hP9zq.pl; obtain ⟨dx9zq, w1zq, w2zq, w3zq, w4zq, w5zq, n9zq, hp1zq, hp2zq⟩ := hA9zq)); ((try dsimp only); (try k_fold))))) | (safely (with_reducible (k_here; (with_reducible show wpAny _ _ (compareOp CmpOp.Eq (Value.ref _) (Value.ref _)) _ _ _); k_dflt (refine' rows_eq ?Nzq ?azq ?bzq ?czq ?dzq ?uzq ?_; (case Nzq => k_asm); (case azq => assumption); (case czq => assumption); (case bzq => intro q9zq hq9zq; (repeat (first | exact hq9zq | refine List.mem_cons_of_mem _ ?_ | refine List.mem_append.mpr (.inr ?_) | refine Grows.sub (by assumption) _ ?_))); (case dzq => first | exact fun q9zq hq9zq => hq9zq | (intro q9zq hq9zq; (repeat (first | exact hq9zq | refine List.mem_cons_of_mem _ ?_ | refine List.mem_append.mpr (.inr ?_) | refine Grows.sub (by assumption) _ ?_))) | assumption); (case uzq => ktr_units))))) | (safely (with_reducible (k_here; (with_reducible show wpAny _ _ (call (Value.ref 154) [Value.ref _, Value.ref _, Value.int _ _]) _ _ _); k_dflt (refine' right_con' _ _ _ _ _ _ _ _ _ _ _ ?h1zq ?h2zq ?hszq ?htzq ?h3zq ?h4zq ?h5zq ?h6zq ?h7zq ?h8zq ?h9zq ?hazq ?hbzq ?hczq ?hezq _ _ _ _ _ _ _ _ _ _ _ _ _ _ _ _ _ ?k1zq ?k2zq ?k3zq ?k4zq ?k5zq ?kKzq ?kdzq ?kuzq ?_; (case k1zq => k_asm); (case k2zq => k_asm); (case k3zq => k_asm); (case k4zq => k_asm); (case k5zq => k_asm); (case h1zq => assumption); (case h2zq => assumption); (case hszq => intro q9zq hq9zq; (repeat (first | exact hq9zq | refine List.mem_cons_of_mem _ ?_))); (case htzq => intro q9zq hq9zq; (repeat (first | exact hq9zq | refine List.mem_cons_of_mem _ ?_))); (case h4zq => assumption); (case hbzq => assumption); (case h5zq => assumption); (case h6zq => assumption); (case h3zq => exact rfl); (case h7zq => assumption); (case h8zq => assumption); (case h9zq => assumption); (case hazq => assumption); (case hczq => assumption); (case hezq => assumption); (case kKzq => first | exact rfl | assumption); (case kdzq => ktr_room); (case kuzq => ktr_units)); (intro r9zq news9zq h9zq tk9zq F9zq N9zq hOzq; obtain ⟨e2zq, hG9zq⟩ := hOzq; subst e2zq; (try dsimp only); (try k_fold))))) | (safely (with_reducible (k_here; (with_reducible show wpAny _ _ (compareOp CmpOp.NotEq (Value.ref _) (Value.ref _)) _ _ _); k_dflt (first | (refine' ne_three ?Nzq ?azq ?bzq ?czq ?dzq ?ezq ?fzq ?uzq ?_; (case Nzq => k_asm); (case azq => k_mem); (case bzq => k_mem); (case czq => rfl); (case dzq => rfl); (case ezq => rfl); (case fzq => rfl); (case uzq => ktr_units)) | (refine' rows_ne ?Nzq ?azq ?bzq ?czq ?dzq ?uzq ?_; (case Nzq => k_asm); (case azq => assumption); (case czq => assumption); (case bzq => intro q9zq hq9zq; k_mem); (case dzq => intro q9zq hq9zq; k_mem); (case uzq => ktr_units))); (try simp only [eq_self, decide_true, Bool.not_true])))) | (safely (with_reducible (k_here; (with_reducible show wpAny _ _ (call (Value.ref 105) [Value.ref _, Value.int _ _]) _ _ _); k_dflt (refine' smoothed_con _ _ _ _ _ _ _ _ ?khzq ?kazq ?kbzq _ _ _ _ _ _ _ _ _ _ _ _ _ _ _ _ _ ?k1zq ?k2zq ?k3zq ?k4zq ?k5zq ?kKzq ?kdzq ?kuzq ?_; (case k1zq => k_asm); (case k2zq => k_asm); (case k3zq => k_asm); (case k4zq => k_asm); (case k5zq => k_asm); (case khzq => refine Pl.mono (by assumption) ?_; intro q9zq hq9zq; (repeat (first | assumption | refine List.mem_cons_of_mem _ ?_ | refine Grows.sub (by assumption) _ ?_))); (case kazq => assumption); (case kbzq => assumption); (case kKzq => first | exact rfl | assumption); (case kdzq => ktr_room); (case kuzq => ktr_units)); (intro r9zq news9zq h9zq tk9zq F9zq N9zq hOzq; obtain ⟨q9zq, c9zq, tl9zq, e2zq, etl9zq, hG9zq, hP9zq, hR9zq⟩ := hOzq; subst e2zq; (try dsimp only); (try k_fold))))) | (safely (with_reducible (k_here; (with_reducible show wpAny _ _ (call (Value.ref 161) [Value.ref _, Value.int _ _]) _ _ _); k_dflt (refine' refused_con _ _ _ _ ?khzq _ _ _ _ _ _ _ _ _ _ _ _ _ _ _ ?k1zq ?k2zq ?k3zq ?k4zq ?k5zq ?kKzq ?kdzq ?kuzq ?_; (case k1zq => k_asm); (case k2zq => k_asm); (case k3zq => k_asm); (case k4zq => k_asm); (case k5zq => k_asm); (case khzq => first | exact .inl (by omega) | exact .inr (by omega)); (case kKzq => first | exact rfl | assumption); (case kdzq => ktr_room); (case kuzq => ktr_units)); (intro r9zq news9zq h9zq tk9zq F9zq N9zq hOzq; obtain ⟨e2zq, e1zq⟩ := hOzq; rw [e1zq] at N9zq; clear e1zq; subst e2zq; (try dsimp only); (try k_fold))))) | (safely (with_reducible (k_here; (with_reducible show wpAny _ _ (call (Value.ref 84) [Value.int _ _, Value.int _ _, Value.ref _]) _ _ _); k_dflt (refine' plane_con _ _ _ _ _ _ _ _ _ _ _ _ _ _ _ _ _ _ _ _ _ _ _ ?k1zq ?k2zq ?k3zq ?k4zq ?k5zq ?kKzq ?kdzq ?kuzq ?_; (case k1zq => k_asm); (case k2zq => k_asm); (case k3zq => k_asm); (case k4zq => k_asm); (case k5zq => k_asm); (case kKzq => first | exact rfl | assumption); (case kdzq => ktr_room); (case kuzq => ktr_units)); (intro r9zq news9zq h9zq tk9zq F9zq N9zq hOzq; obtain ⟨q9zq, e2zq, hG9zq, hP9zq⟩ := hOzq; subst e2zq; (try dsimp only); (try k_fold))))) | (safely (with_reducible (k_here; (with_reducible show wpAny _ _ (call (Value.builtin "len") [Value.ref _]) _ _ _); k_dflt (refine' len_led ?Nzq ?mzq ?ezq ?azq ?bzq ?_; (case Nzq => k_asm); (case mzq => k_mem); (case ezq => assumption); (case azq => assumption); (case bzq => assumption))))) | (safely (with_reducible (k_here; (with_reducible show wpAny _ _ (subscriptTail (PySem.Expr.Subscript _ _ _) (PySem.Expr.Constant _ _ _) (Value.ref _) (Value.int _ _)) _ _ _); (with_unfolding_all refine' int_itemB ?Nzq ?mzq ?izq ?dzq ?ezq ?azq ?bzq ?czq ?_ ?szq; (case izq => with_reducible assumption); (case Nzq => with_reducible assumption); (case mzq => (repeat (first | with_reducible assumption | refine List.mem_cons_of_mem _ ?_ | refine List.mem_append.mpr (.inr ?_)))); (case dzq => with_reducible assumption); (case ezq => with_reducible assumption); (case azq => omega); (case bzq => omega); (case czq => omega); (case szq => with_unfolding_all rfl)); k_whole; intro t9zq a9zq ea9zq la9zq lb9zq))) | (safely (with_reducible (k_here; (with_reducible show wpAny _ _ (subscriptTail (PySem.Expr.Name _ _) (PySem.Expr.Constant _ _ _) (Value.ref _) (Value.int _ _)) _ _ _); (with_unfolding_all refine' row_itemB ?Nzq ?mzq ?zzq ?dzq ?ezq ?azq ?bzq ?czq ?_ ?szq; (case Nzq => with_reducible assumption); (case mzq => with_reducible assumption); (case dzq => with_reducible assumption); (case ezq => with_reducible assumption); (case zzq => intro q9zq hq9zq; (repeat (first | exact hq9zq | refine List.mem_cons_of_mem _ ?_ | refine List.mem_append.mpr (.inr ?_)))); (case azq => omega); (case bzq => omega); (case czq => omega); (case szq => with_unfolding_all rfl)); k_whole; intro c9zq us9zq n9zq hm9zq hi9zq hu9zq hl9zq hc9zq))) | (safely (with_reducible (k_here; (with_reducible show wpAny _ _ (call (Value.ref 133) [Value.ref _, Value.ref _]) _ _ _); k_dflt (refine' one_con _ _ _ _ _ _ _ _ _ _ _ ?kszq ?knzq ?klzq ?kvzq ?kwzq ?kazq ?kbzq ?kczq _ _ _ _ _ _ _ _ _ _ _ _ _ _ _ _ _ ?k1zq ?k2zq ?k3zq ?k4zq ?k5zq ?kKzq ?kdzq ?kuzq ?_; (case k1zq => k_asm); (case k2zq => k_asm); (case k3zq => k_asm); (case k4zq => k_asm); (case k5zq => k_asm); (case kszq => first | exact SplitL.here | exact SplitL.there .here | exact SplitL.there (.there .here) | exact SplitL.there (.there (.there .here)) | exact SplitL.there (.there (.there (.there .here))) | exact SplitL.there (.there (.there (.there (.there .here)))) | exact SplitL.there (.there (.there (.there (.there (.there .here))))) | exact SplitL.there (.there (.there (.there (.there (.there (.there .here))))))); (case knzq => k_all); (case klzq => k_mem); (case kvzq => exact Nat.zero_lt_succ _); (case kwzq => exact Nat.le_of_ble_eq_true rfl); (case kazq => assumption); (case kbzq => assumption); (case kczq => assumption); (case kKzq => first | exact rfl | assumption); (case kdzq => ktr_room); (case kuzq => ktr_units)); (intro r9zq news9zq h9zq tk9zq F9zq N9zq hOzq; obtain ⟨i9zq, a9zq, b9zq, t9zq, u9zq, n9zq, e2zq, a90zq, b90zq, b91zq, e1zq⟩ := hOzq; rw [e1zq] at N9zq; clear e1zq; (first | (have hp9zq := pick4 e2zq) | (have hp9zq := pick7 e2zq) | (have hp9zq := pickS e2zq)); obtain ⟨x9zq, tx9zq, ex9zq, hx9zq⟩ := hp9zq; clear e2zq; subst ex9zq; (try dsimp only); (try k_fold))))) | (safely (with_reducible (k_here; (with_reducible show wpAny _ _ (call (Value.ref 126) [Value.ref _, Value.int _ _]) _ _ _); k_dflt (refine' take_con _ _ _ _ _ _ _ _ _ _ ?kszq ?knzq ?kazq ?kbzq ?kczq ?ktzq ?kpzq _ _ _ _ _ _ _ _ _ _ _ _ _ _ _ _ _ ?k1zq ?k2zq ?k3zq ?k4zq ?k5zq ?kKzq ?kdzq ?kuzq ?_; (case k1zq => k_asm); (case k2zq => k_asm); (case k3zq => k_asm); (case k4zq => k_asm); (case k5zq => k_asm); (case kszq => first | exact SplitL.here | exact SplitL.there .here | exact SplitL.there (.there .here) | exact SplitL.there (.there (.there .here)) | exact SplitL.there (.there (.there (.there .here))) | exact SplitL.there (.there (.there (.there (.there .here)))) | exact SplitL.there (.there (.there (.there (.there (.there .here))))) | exact SplitL.there (.there (.there (.there (.there (.there (.there .here))))))); (case knzq => k_all); (case kazq => assumption); (case kbzq => assumption); (case kczq => assumption); (case ktzq => first | decide | assumption | omega); (case kpzq => first | decide | assumption | omega); (case kKzq => first | exact rfl | assumption); (case kdzq => ktr_room); (case kuzq => ktr_units)); (intro r9zq news9zq h9zq tk9zq F9zq N9zq hOzq; obtain ⟨d9zq, td9zq, a9zq, b9zq, t9zq, u9zq, n9zq, e2zq, d0zq, d1zq, a90zq, b90zq, b91zq, e1zq⟩ := hOzq; rw [e1zq] at N9zq; clear e1zq; subst e2zq; (try dsimp only); (try k_fold))))) | (have tokzq : PassTok := PassTok.mk; walk1 <;> (try clear tokzq))) | (k_unfold; (try dsimp only)) | (k_end; wrow_close) | walk1 | (dsimp only; walk1) | (leave1; walk_say "STEP leave1"; try dsimp only) | fail "no step")); (all_goals (try (with_reducible refine Halt.mk ?_))))
                  all_goals (try exact trivial)
                  rename Fr _ _ _ _ => lF'
                  rename News _ _ _ _ => lN'
                  exact LSx_mk (S := S) (rest := rest) lF' lN' c1 c2 c3 c4 (by assumption) (by assumption) (by assumption) s1' s2' s3' s4' rS r1 r2 r3 r4 (PlaneP_mk (W := W) (H := H) (R := R) (rows := rows) (sh := sh) (P := P) (B := B) rfl rfl (by with_unfolding_all rfl) sh0 sh1 (by with_unfolding_all rfl) (by with_unfolding_all rfl) (by with_unfolding_all rfl) hPl hB)
                · clear F6' N6 c1 c2 c3 c4 a0 b0 b1' s1' s2' s3' s4' rS r1 r2 r3 r4 ecw ecr ehigh sh0 sh1 eshare eplane ebefore hPl hB
                  rintro m7 h7 tk7 S cw cm cr a1 b1 t1 u1 n1 o1 o2 o3 o4 rest F7 N7 c1 c2 c3 c4 a0 b0 b1' s1' s2' s3' s4' rS r1 r2 r3 r4 hp9
                  refine PlaneP_elim hp9 ?_
                  clear hp9
                  rintro W H R rows tW tH sh tS P B ecw ecr ehigh sh0 sh1 eshare eplane ebefore hPl hB
                  rw [ecw] at c2
                  rw [ecr] at c4
                  have F7' := fr_pin (fr_pin (fr_pin (fr_pin F7 ehigh) (n := Str.ofString "share") (by with_unfolding_all exact eshare)) (n := Str.ofString "plane") (by with_unfolding_all exact eplane)) (n := Str.ofString "before") (by with_unfolding_all exact ebefore)
                  clear F7
                  dsimp only
                  refine wpAny_execs_cons ?_
                  refine cut_law F7' (FoundP wQ) ?_ ?_
                  · --S8
                    ((repeat' (first | ((with_reducible refine Halt.mk ?_); first | (safely (with_reducible (k_here; (with_reducible show wpAny _ _ (call (Value.ref 105) [Value.ref _, Value.int _ _]) _ _ _); (rename Pl _ _ _ _ _ _ (turned _ _ _) => hT9zq); k_dflt (refine' smoothed_con _ _ _ _ _ _ _ _ hT9zq ?kazq ?kbzq _ _ _ _ _ _ _ _ _ _ _ _ _ _ _ _ _ ?k1zq ?k2zq ?k3zq ?k4zq ?k5zq ?kKzq ?kdzq ?kuzq ?_; (case k1zq => k_asm); (case k2zq => k_asm); (case k3zq => k_asm); (case k4zq => k_asm); (case k5zq => k_asm); (case kazq => assumption); (case kbzq => assumption); (case kKzq => first | exact rfl | assumption); (case kdzq => ktr_room); (case kuzq => ktr_units)); (intro r9zq news9zq h9zq tk9zq F9zq N9zq hOzq; obtain ⟨q9zq, c9zq, tl9zq, e2zq, -, hG9zq, hP9zq, -⟩ := hOzq; subst e2zq); (with_unfolding_all (have hS9zq := hP9zq.rs; have hA9zq := hP9zq.pl; obtain ⟨dx9zq, w1zq, w2zq, w3zq, w4zq, w5zq, n9zq, hp1zq, hp2zq⟩ := hA9zq)); ((try dsimp only); (try k_fold))))) | (safely (with_reducible (k_here; (with_reducible show wpAny _ _ (call (Value.ref 100) [Value.ref _, Value.str _ _]) _ _ _); k_dflt (refine' turned_con _ _ _ _ _ _ _ _ ?khzq ?kwzq _ _ _ _ _ _ _ _ _ _ _ _ _ _ _ _ _ ?k1zq ?k2zq ?k3zq ?k4zq ?k5zq ?kKzq ?kdzq ?kuzq ?_; (case k1zq => k_asm); (case k2zq => k_asm); (case k3zq => k_asm); (case k4zq => k_asm); (case k5zq => k_asm); (case khzq => refine Pl.mono (by assumption) ?_; intro q9zq hq9zq; (repeat (first | exact hq9zq | refine List.mem_cons_of_mem _ ?_ | refine Grows.sub (by assumption) _ ?_))); (case kwzq => assumption); (case kKzq => first | exact rfl | assumption); (case kdzq => ktr_room); (case kuzq => ktr_units)); (intro r9zq news9zq h9zq tk9zq F9zq N9zq hOzq; obtain ⟨q9zq, c9zq, e2zq, hG9zq, hP9zq⟩ := hOzq; subst e2zq); (with_unfolding_all (have hS9zq := hP9zq.rs; have hA9zq := hP9zq.pl; obtain ⟨dx9zq, w1zq, w2zq, w3zq, w4zq, w5zq, n9zq, hp1zq, hp2zq⟩ := hA9zq)); ((try dsimp only); (try k_fold))))) | (safely (with_reducible (k_here; (with_reducible show wpAny _ _ (compareOp CmpOp.Eq (Value.ref _) (Value.ref _)) _ _ _); k_dflt (refine' rows_eq ?Nzq ?azq ?bzq ?czq ?dzq ?uzq ?_; (case Nzq => k_asm); (case azq => assumption); (case czq => assumption); (case bzq => intro q9zq hq9zq; (repeat (first | exact hq9zq | refine List.mem_cons_of_mem _ ?_ | refine List.mem_append.mpr (.inr ?_) | refine Grows.sub (by assumption) _ ?_))); (case dzq => first | exact fun q9zq hq9zq => hq9zq | (intro q9zq hq9zq; (repeat (first | exact hq9zq | refine List.mem_cons_of_mem _ ?_ | refine List.mem_append.mpr (.inr ?_) | refine Grows.sub (by assumption) _ ?_))) | assumption); (case uzq => ktr_units))))) | (safely (with_reducible (k_here; (with_reducible show wpAny _ _ (call (Value.ref 154) [Value.ref _, Value.ref _, Value.int _ _]) _ _ _); k_dflt (refine' right_con' _ _ _ _ _ _ _ _ _ _ _ ?h1zq ?h2zq ?hszq ?htzq ?h3zq ?h4zq ?h5zq ?h6zq ?h7zq ?h8zq ?h9zq ?hazq ?hbzq ?hczq ?hezq _ _ _ _ _ _ _ _ _ _ _ _ _ _ _ _ _ ?k1zq ?k2zq ?k3zq ?k4zq ?k5zq ?kKzq ?kdzq ?kuzq ?_; (case k1zq => k_asm); (case k2zq => k_asm); (case k3zq => k_asm); (case k4zq => k_asm); (case k5zq => k_asm); (case h1zq => assumption); (case h2zq => assumption); (case hszq => intro q9zq hq9zq; (repeat (first | exact hq9zq | refine List.mem_cons_of_mem _ ?_))); (case htzq => intro q9zq hq9zq; (repeat (first | exact hq9zq | refine List.mem_cons_of_mem _ ?_))); (case h4zq => assumption); (case hbzq => assumption); (case h5zq => assumption); (case h6zq => assumption); (case h3zq => exact rfl); (case h7zq => assumption); (case h8zq => assumption); (case h9zq => assumption); (case hazq => assumption); (case hczq => assumption); (case hezq => assumption); (case kKzq => first | exact rfl | assumption); (case kdzq => ktr_room); (case kuzq => ktr_units)); (intro r9zq news9zq h9zq tk9zq F9zq N9zq hOzq; obtain ⟨e2zq, hG9zq⟩ := hOzq; subst e2zq; (try dsimp only); (try k_fold))))) | (safely (with_reducible (k_here; (with_reducible show wpAny _ _ (compareOp CmpOp.NotEq (Value.ref _) (Value.ref _)) _ _ _); k_dflt (first | (refine' ne_three ?Nzq ?azq ?bzq ?czq ?dzq ?ezq ?fzq ?uzq ?_; (case Nzq => k_asm); (case azq => k_mem); (case bzq => k_mem); (case czq => rfl); (case dzq => rfl); (case ezq => rfl); (case fzq => rfl); (case uzq => ktr_units)) | (refine' rows_ne ?Nzq ?azq ?bzq ?czq ?dzq ?uzq ?_; (case Nzq => k_asm); (case azq => assumption); (case czq => assumption); (case bzq => intro q9zq hq9zq; k_mem); (case dzq => intro q9zq hq9zq; k_mem); (case uzq => ktr_units))); (try simp only [eq_self, decide_true, Bool.not_true])))) | (safely (with_reducible (k_here; (with_reducible show wpAny _ _ (call (Value.ref 105) [Value.ref _, Value.int _ _]) _ _ _); k_dflt (refine' smoothed_con _ _ _ _ _ _ _ _ ?khzq ?kazq ?kbzq _ _ _ _ _ _ _ _ _ _ _ _ _ _ _ _ _ ?k1zq ?k2zq ?k3zq ?k4zq ?k5zq ?kKzq ?kdzq ?kuzq ?_; (case k1zq => k_asm); (case k2zq => k_asm); (case k3zq => k_asm); (case k4zq => k_asm); (case k5zq => k_asm); (case khzq => refine Pl.mono (by assumption) ?_; intro q9zq hq9zq; (repeat (first | assumption | refine List.mem_cons_of_mem _ ?_ | refine Grows.sub (by assumption) _ ?_))); (case kazq => assumption); (case kbzq => assumption); (case kKzq => first | exact rfl | assumption); (case kdzq => ktr_room); (case kuzq => ktr_units)); (intro r9zq news9zq h9zq tk9zq F9zq N9zq hOzq; obtain ⟨q9zq, c9zq, tl9zq, e2zq, etl9zq, hG9zq, hP9zq, hR9zq⟩ := hOzq; subst e2zq; (try dsimp only); (try k_fold))))) | (safely (with_reducible (k_here; (with_reducible show wpAny _ _ (call (Value.ref 161) [Value.ref _, Value.int _ _]) _ _ _); k_dflt (refine' refused_con _ _ _ _ ?khzq _ _ _ _ _ _ _ _ _ _ _ _ _ _ _ ?k1zq ?k2zq ?k3zq ?k4zq ?k5zq ?kKzq ?kdzq ?kuzq ?_; (case k1zq => k_asm); (case k2zq => k_asm); (case k3zq => k_asm); (case k4zq => k_asm); (case k5zq => k_asm); (case khzq => first | exact .inl (by omega) | exact .inr (by omega)); (case kKzq => first | exact rfl | assumption); (case kdzq => ktr_room); (case kuzq => ktr_units)); (intro r9zq news9zq h9zq tk9zq F9zq N9zq hOzq; obtain ⟨e2zq, e1zq⟩ := hOzq; rw [e1zq] at N9zq; clear e1zq; subst e2zq; (try dsimp only); (try k_fold))))) | (safely (with_reducible (k_here; (with_reducible show wpAny _ _ (call (Value.ref 84) [Value.int _ _, Value.int _ _, Value.ref _]) _ _ _); k_dflt (refine' plane_con _ _ _ _ _ _ _ _ _ _ _ _ _ _ _ _ _ _ _ _ _ _ _ ?k1zq ?k2zq ?k3zq ?k4zq ?k5zq ?kKzq ?kdzq ?kuzq ?_; (case k1zq => k_asm); (case k2zq => k_asm); (case k3zq => k_asm); (case k4zq => k_asm); (case k5zq => k_asm); (case kKzq => first | exact rfl | assumption); (case kdzq => ktr_room); (case kuzq => ktr_units)); (intro r9zq news9zq h9zq tk9zq F9zq N9zq hOzq; obtain ⟨q9zq, e2zq, hG9zq, hP9zq⟩ := hOzq; subst e2zq; (try dsimp only); (try k_fold))))) | (safely (with_reducible (k_here; (with_reducible show wpAny _ _ (call (Value.builtin "len") [Value.ref _]) _ _ _); k_dflt (refine' len_led ?Nzq ?mzq ?ezq ?azq ?bzq ?_; (case Nzq => k_asm); (case mzq => k_mem); (case ezq => assumption); (case azq => assumption); (case bzq => assumption))))) | (safely (with_reducible (k_here; (with_reducible show wpAny _ _ (subscriptTail (PySem.Expr.Subscript _ _ _) (PySem.Expr.Constant _ _ _) (Value.ref _) (Value.int _ _)) _ _ _); (with_unfolding_all refine' int_itemB ?Nzq ?mzq ?izq ?dzq ?ezq ?azq ?bzq ?czq ?_ ?szq; (case izq => with_reducible assumption); (case Nzq => with_reducible assumption); (case mzq => (repeat (first | with_reducible assumption | refine List.mem_cons_of_mem _ ?_ | refine List.mem_append.mpr (.inr ?_)))); (case dzq => with_reducible assumption); (case ezq => with_reducible assumption); (case azq => omega); (case bzq => omega); (case czq => omega); (case szq => with_unfolding_all rfl)); k_whole; intro t9zq a9zq ea9zq la9zq lb9zq))) | (safely (with_reducible (k_here; (with_reducible show wpAny _ _ (subscriptTail (PySem.Expr.Name _ _) (PySem.Expr.Constant _ _ _) (Value.ref _) (Value.int _ _)) _ _ _); (with_unfolding_all refine' row_itemB ?Nzq ?mzq ?zzq ?dzq ?ezq ?azq ?bzq ?czq ?_ ?szq; (case Nzq => with_reducible assumption); (case mzq => with_reducible assumption); (case dzq => with_reducible assumption); (case ezq => with_reducible assumption); (case zzq => intro q9zq hq9zq; (repeat (first | exact hq9zq | refine List.mem_cons_of_mem _ ?_ | refine List.mem_append.mpr (.inr ?_)))); (case azq => omega); (case bzq => omega); (case czq => omega); (case szq => with_unfolding_all rfl)); k_whole; intro c9zq us9zq n9zq hm9zq hi9zq hu9zq hl9zq hc9zq))) | (safely (with_reducible (k_here; (with_reducible show wpAny _ _ (call (Value.ref 133) [Value.ref _, Value.ref _]) _ _ _); k_dflt (refine' one_con _ _ _ _ _ _ _ _ _ _ _ ?kszq ?knzq ?klzq ?kvzq ?kwzq ?kazq ?kbzq ?kczq _ _ _ _ _ _ _ _ _ _ _ _ _ _ _ _ _ ?k1zq ?k2zq ?k3zq ?k4zq ?k5zq ?kKzq ?kdzq ?kuzq ?_; (case k1zq => k_asm); (case k2zq => k_asm); (case k3zq => k_asm); (case k4zq => k_asm); (case k5zq => k_asm); (case kszq => first | exact SplitL.here | exact SplitL.there .here | exact SplitL.there (.there .here) | exact SplitL.there (.there (.there .here)) | exact SplitL.there (.there (.there (.there .here))) | exact SplitL.there (.there (.there (.there (.there .here)))) | exact SplitL.there (.there (.there (.there (.there (.there .here))))) | exact SplitL.there (.there (.there (.there (.there (.there (.there .here))))))); (case knzq => k_all); (case klzq => k_mem); (case kvzq => exact Nat.zero_lt_succ _); (case kwzq => exact Nat.le_of_ble_eq_true rfl); (case kazq => assumption); (case kbzq => assumption); (case kczq => assumption); (case kKzq => first | exact rfl | assumption); (case kdzq => ktr_room); (case kuzq => ktr_units)); (intro r9zq news9zq h9zq tk9zq F9zq N9zq hOzq; obtain ⟨i9zq, a9zq, b9zq, t9zq, u9zq, n9zq, e2zq, a90zq, b90zq, b91zq, e1zq⟩ := hOzq; rw [e1zq] at N9zq; clear e1zq; (first | (have hp9zq := pick4 e2zq) | (have hp9zq := pick7 e2zq) | (have hp9zq := pickS e2zq)); obtain ⟨x9zq, tx9zq, ex9zq, hx9zq⟩ := hp9zq; clear e2zq; subst ex9zq; (try dsimp only); (try k_fold))))) | (safely (with_reducible (k_here; (with_reducible show wpAny _ _ (call (Value.ref 126) [Value.ref _, Value.int _ _]) _ _ _); k_dflt (refine' take_con _ _ _ _ _ _ _ _ _ _ ?kszq ?knzq ?kazq ?kbzq ?kczq ?ktzq ?kpzq _ _ _ _ _ _ _ _ _ _ _ _ _ _ _ _ _ ?k1zq ?k2zq ?k3zq ?k4zq ?k5zq ?kKzq ?kdzq ?kuzq ?_; (case k1zq => k_asm); (case k2zq => k_asm); (case k3zq => k_asm); (case k4zq => k_asm); (case k5zq => k_asm); (case kszq => first | exact SplitL.here | exact SplitL.there .here | exact SplitL.there (.there .here) | exact SplitL.there (.there (.there .here)) | exact SplitL.there (.there (.there (.there .here))) | exact SplitL.there (.there (.there (.there (.there .here)))) | exact SplitL.there (.there (.there (.there (.there (.there .here))))) | exact SplitL.there (.there (.there (.there (.there (.there (.there .here))))))); (case knzq => k_all); (case kazq => assumption); (case kbzq => assumption); (case kczq => assumption); (case ktzq => first | decide | assumption | omega); (case kpzq => first | decide | assumption | omega); (case kKzq => first | exact rfl | assumption); (case kdzq => ktr_room); (case kuzq => ktr_units)); (intro r9zq news9zq h9zq tk9zq F9zq N9zq hOzq; obtain ⟨d9zq, td9zq, a9zq, b9zq, t9zq, u9zq, n9zq, e2zq, d0zq, d1zq, a90zq, b90zq, b91zq, e1zq⟩ := hOzq; rw [e1zq] at N9zq; clear e1zq; subst e2zq; (try dsimp only); (try k_fold))))) | (have tokzq : PassTok := PassTok.mk; walk1 <;> (try clear tokzq))) | (k_unfold; (try dsimp only)) | (k_end; wrow_close) | walk1 | (dsimp only; walk1) | (leave1; walk_say "STEP leave1"; try dsimp only) | fail "no step")); (all_goals (try (with_reducible refine Halt.mk ?_))))
                    all_goals (try exact trivial)
                    rename Fr _ _ _ _ => lF'
                    rename News _ _ _ _ => lN'
                    rename Grows _ _ => hGx
                    rename RowsAt _ _ (smoothRows _ _ _ _) => hRx
                    rename Pl _ _ _ _ _ _ (smoothRows _ _ _ _) => hFx
                    rename (_ = _ ++ _) => etl
                    have hap := tail_apart hGx etl
                    rw [etl] at lN'
                    have gP := plane_rest ((etl ▸ hFx.pl).mono permT') c1 c2 c3 c4
                    have hF := (⟨gP, hRx.mono fun q hq => List.mem_append.mpr (.inl hq), hFx.hl, hFx.h0, hFx.w0, hFx.wl, hFx.h4, hFx.w4, hFx.cells⟩ : Pl wQ.params (_ ++ rest) _ W H _ _)
                    refine LSx_mk (S := S) (rest := _ ++ rest) lF' (sub_news lN' permT) c1 c2 c3 c4 a0 b0 b1' s1' s2' s3' s4' ?_ ?_ ?_ ?_ ?_ (FoundP_mk (W := W) (H := H) (R := R) (rows := rows) (sh := sh) (P := P) (B := B) rfl rfl (by with_unfolding_all rfl) sh0 sh1 (by with_unfolding_all rfl) (by with_unfolding_all rfl) (by with_unfolding_all rfl) (by with_unfolding_all rfl) (hPl.mono fun q hq => List.mem_append.mpr (.inr hq)) (hB.mono fun q hq => List.mem_append.mpr (.inr hq)) hF)
                    · exact fun q hq => (List.mem_append.mp hq).elim (fun hq => hap q hq _ (.head _)) (rS q)
                    · exact fun q hq => (List.mem_append.mp hq).elim (fun hq => hap q hq _ (.tail _ (.tail _ (.tail _ (.tail _ (.head _)))))) (r1 q)
                    · exact fun q hq => (List.mem_append.mp hq).elim (fun hq => hap q hq _ (.tail _ (.tail _ (.tail _ (.head _))))) (r2 q)
                    · exact fun q hq => (List.mem_append.mp hq).elim (fun hq => hap q hq _ (.tail _ (.tail _ (.head _)))) (r3 q)
                    · exact fun q hq => (List.mem_append.mp hq).elim (fun hq => hap q hq _ (.tail _ (.head _))) (r4 q)
                  · clear F7' N7 c1 c2 c3 c4 a0 b0 b1' s1' s2' s3' s4' rS r1 r2 r3 r4 ecw ecr ehigh sh0 sh1 eshare eplane ebefore hPl hB
                    rintro m8 h8 tk8 S cw cm cr a1 b1 t1 u1 n1 o1 o2 o3 o4 rest F8 N8 c1 c2 c3 c4 a0 b0 b1' s1' s2' s3' s4' rS r1 r2 r3 r4 hp9
                    refine FoundP_elim hp9 ?_
                    clear hp9
                    rintro W H R rows tW tH sh tS P B F C ecw ecr ehigh sh0 sh1 eshare eplane ebefore efound hPl hB hF
                    rw [ecw] at c2
                    rw [ecr] at c4
                    have F8' := fr_pin (fr_pin (fr_pin (fr_pin (fr_pin F8 ehigh) (n := Str.ofString "share") (by with_unfolding_all exact eshare)) (n := Str.ofString "plane") (by with_unfolding_all exact eplane)) (n := Str.ofString "before") (by with_unfolding_all exact ebefore)) (n := Str.ofString "found") (by with_unfolding_all exact efound)
                    clear F8
                    dsimp only
                    refine wpAny_execs_cons ?_
                    refine cut_law F8' (FoundP wQ) ?_ ?_
                    · --S9
                      have hR := hPl.rs
                      have hC := hF.rs
                      obtain ⟨⟨dx, p1, p2, p3, p4, p5, pn, hp1, hp2⟩, -, -, -, -, -, -, -, -⟩ := id hPl
                      obtain ⟨⟨dy, q1, q2, q3, q4, q5, qn, hq1, hq2⟩, ⟨vs, nv, hm, hvl, -⟩, -, -, -, -, -, -, -⟩ := id hF
                      have hvl' : vs.length = H.toNat := hvl.trans hF.hl
                      have h0 := hPl.h0
                      have h4 := hPl.h4
                      ((repeat' (first | ((with_reducible refine Halt.mk ?_); first | (safely (with_reducible (k_here; (with_reducible show wpAny _ _ (call (Value.ref 105) [Value.ref _, Value.int _ _]) _ _ _); (rename Pl _ _ _ _ _ _ (turned _ _ _) => hT9zq); k_dflt (refine' smoothed_con _ _ _ _ _ _ _ _ hT9zq ?kazq ?kbzq _ _ _ _ _ _ _ _ _ _ _ _ _ _ _ _ _ ?k1zq ?k2zq ?k3zq ?k4zq ?k5zq ?kKzq ?kdzq ?kuzq ?_; (case k1zq => k_asm); (case k2zq => k_asm); (case k3zq => k_asm); (case k4zq => k_asm); (case k5zq => k_asm); (case kazq => assumption); (case kbzq => assumption); (case kKzq => first | exact rfl | assumption); (case kdzq => ktr_room); (case kuzq => ktr_units)); (intro r9zq news9zq h9zq tk9zq F9zq N9zq hOzq; obtain ⟨q9zq, c9zq, tl9zq, e2zq, -, hG9zq, hP9zq, -⟩ := hOzq; subst e2zq); (with_unfolding_all (have hS9zq := hP9zq.rs; have hA9zq := hP9zq.pl; obtain ⟨dx9zq, w1zq, w2zq, w3zq, w4zq, w5zq, n9zq, hp1zq, hp2zq⟩ := hA9zq)); ((try dsimp only); (try k_fold))))) | (safely (with_reducible (k_here; (with_reducible show wpAny _ _ (call (Value.ref 100) [Value.ref _, Value.str _ _]) _ _ _); k_dflt (refine' turned_con _ _ _ _ _ _ _ _ ?khzq ?kwzq _ _ _ _ _ _ _ _ _ _ _ _ _ _ _ _ _ ?k1zq ?k2zq ?k3zq ?k4zq ?k5zq ?kKzq ?kdzq ?kuzq ?_; (case k1zq => k_asm); (case k2zq => k_asm); (case k3zq => k_asm); (case k4zq => k_asm); (case k5zq => k_asm); (case khzq => refine Pl.mono (by assumption) ?_; intro q9zq hq9zq; (repeat (first | exact hq9zq | refine List.mem_cons_of_mem _ ?_ | refine Grows.sub (by assumption) _ ?_))); (case kwzq => assumption); (case kKzq => first | exact rfl | assumption); (case kdzq => ktr_room); (case kuzq => ktr_units)); (intro r9zq news9zq h9zq tk9zq F9zq N9zq hOzq; obtain ⟨q9zq, c9zq, e2zq, hG9zq, hP9zq⟩ := hOzq; subst e2zq); (with_unfolding_all (have hS9zq := hP9zq.rs; have hA9zq := hP9zq.pl; obtain ⟨dx9zq, w1zq, w2zq, w3zq, w4zq, w5zq, n9zq, hp1zq, hp2zq⟩ := hA9zq)); ((try dsimp only); (try k_fold))))) | (safely (with_reducible (k_here; (with_reducible show wpAny _ _ (compareOp CmpOp.Eq (Value.ref _) (Value.ref _)) _ _ _); k_dflt (refine' rows_eq ?Nzq ?azq ?bzq ?czq ?dzq ?uzq ?_; (case Nzq => k_asm); (case azq => assumption); (case czq => assumption); (case bzq => intro q9zq hq9zq; (repeat (first | exact hq9zq | refine List.mem_cons_of_mem _ ?_ | refine List.mem_append.mpr (.inr ?_) | refine Grows.sub (by assumption) _ ?_))); (case dzq => first | exact fun q9zq hq9zq => hq9zq | (intro q9zq hq9zq; (repeat (first | exact hq9zq | refine List.mem_cons_of_mem _ ?_ | refine List.mem_append.mpr (.inr ?_) | refine Grows.sub (by assumption) _ ?_))) | assumption); (case uzq => ktr_units))))) | (safely (with_reducible (k_here; (with_reducible show wpAny _ _ (call (Value.ref 154) [Value.ref _, Value.ref _, Value.int _ _]) _ _ _); k_dflt (refine' right_con' _ _ _ _ _ _ _ _ _ _ _ ?h1zq ?h2zq ?hszq ?htzq ?h3zq ?h4zq ?h5zq ?h6zq ?h7zq ?h8zq ?h9zq ?hazq ?hbzq ?hczq ?hezq _ _ _ _ _ _ _ _ _ _ _ _ _ _ _ _ _ ?k1zq ?k2zq ?k3zq ?k4zq ?k5zq ?kKzq ?kdzq ?kuzq ?_; (case k1zq => k_asm); (case k2zq => k_asm); (case k3zq => k_asm); (case k4zq => k_asm); (case k5zq => k_asm); (case h1zq => assumption); (case h2zq => assumption); (case hszq => intro q9zq hq9zq; (repeat (first | exact hq9zq | refine List.mem_cons_of_mem _ ?_))); (case htzq => intro q9zq hq9zq; (repeat (first | exact hq9zq | refine List.mem_cons_of_mem _ ?_))); (case h4zq => assumption); (case hbzq => assumption); (case h5zq => assumption); (case h6zq => assumption); (case h3zq => exact rfl); (case h7zq => assumption); (case h8zq => assumption); (case h9zq => assumption); (case hazq => assumption); (case hczq => assumption); (case hezq => assumption); (case kKzq => first | exact rfl | assumption); (case kdzq => ktr_room); (case kuzq => ktr_units)); (intro r9zq news9zq h9zq tk9zq F9zq N9zq hOzq; obtain ⟨e2zq, hG9zq⟩ := hOzq; subst e2zq; (try dsimp only); (try k_fold))))) | (safely (with_reducible (k_here; (with_reducible show wpAny _ _ (compareOp CmpOp.NotEq (Value.ref _) (Value.ref _)) _ _ _); k_dflt (first | (refine' ne_three ?Nzq ?azq ?bzq ?czq ?dzq ?ezq ?fzq ?uzq ?_; (case Nzq => k_asm); (case azq => k_mem); (case bzq => k_mem); (case czq => rfl); (case dzq => rfl); (case ezq => rfl); (case fzq => rfl); (case uzq => ktr_units)) | (refine' rows_ne ?Nzq ?azq ?bzq ?czq ?dzq ?uzq ?_; (case Nzq => k_asm); (case azq => assumption); (case czq => assumption); (case bzq => intro q9zq hq9zq; k_mem); (case dzq => intro q9zq hq9zq; k_mem); (case uzq => ktr_units))); (try simp only [eq_self, decide_true, Bool.not_true])))) | (safely (with_reducible (k_here; (with_reducible show wpAny _ _ (call (Value.ref 105) [Value.ref _, Value.int _ _]) _ _ _); k_dflt (refine' smoothed_con _ _ _ _ _ _ _ _ ?khzq ?kazq ?kbzq _ _ _ _ _ _ _ _ _ _ _ _ _ _ _ _ _ ?k1zq ?k2zq ?k3zq ?k4zq ?k5zq ?kKzq ?kdzq ?kuzq ?_; (case k1zq => k_asm); (case k2zq => k_asm); (case k3zq => k_asm); (case k4zq => k_asm); (case k5zq => k_asm); (case khzq => refine Pl.mono (by assumption) ?_; intro q9zq hq9zq; (repeat (first | assumption | refine List.mem_cons_of_mem _ ?_ | refine Grows.sub (by assumption) _ ?_))); (case kazq => assumption); (case kbzq => assumption); (case kKzq => first | exact rfl | assumption); (case kdzq => ktr_room); (case kuzq => ktr_units)); (intro r9zq news9zq h9zq tk9zq F9zq N9zq hOzq; obtain ⟨q9zq, c9zq, tl9zq, e2zq, etl9zq, hG9zq, hP9zq, hR9zq⟩ := hOzq; subst e2zq; (try dsimp only); (try k_fold))))) | (safely (with_reducible (k_here; (with_reducible show wpAny _ _ (call (Value.ref 161) [Value.ref _, Value.int _ _]) _ _ _); k_dflt (refine' refused_con _ _ _ _ ?khzq _ _ _ _ _ _ _ _ _ _ _ _ _ _ _ ?k1zq ?k2zq ?k3zq ?k4zq ?k5zq ?kKzq ?kdzq ?kuzq ?_; (case k1zq => k_asm); (case k2zq => k_asm); (case k3zq => k_asm); (case k4zq => k_asm); (case k5zq => k_asm); (case khzq => first | exact .inl (by omega) | exact .inr (by omega)); (case kKzq => first | exact rfl | assumption); (case kdzq => ktr_room); (case kuzq => ktr_units)); (intro r9zq news9zq h9zq tk9zq F9zq N9zq hOzq; obtain ⟨e2zq, e1zq⟩ := hOzq; rw [e1zq] at N9zq; clear e1zq; subst e2zq; (try dsimp only); (try k_fold))))) | (safely (with_reducible (k_here; (with_reducible show wpAny _ _ (call (Value.ref 84) [Value.int _ _, Value.int _ _, Value.ref _]) _ _ _); k_dflt (refine' plane_con _ _ _ _ _ _ _ _ _ _ _ _ _ _ _ _ _ _ _ _ _ _ _ ?k1zq ?k2zq ?k3zq ?k4zq ?k5zq ?kKzq ?kdzq ?kuzq ?_; (case k1zq => k_asm); (case k2zq => k_asm); (case k3zq => k_asm); (case k4zq => k_asm); (case k5zq => k_asm); (case kKzq => first | exact rfl | assumption); (case kdzq => ktr_room); (case kuzq => ktr_units)); (intro r9zq news9zq h9zq tk9zq F9zq N9zq hOzq; obtain ⟨q9zq, e2zq, hG9zq, hP9zq⟩ := hOzq; subst e2zq; (try dsimp only); (try k_fold))))) | (safely (with_reducible (k_here; (with_reducible show wpAny _ _ (call (Value.builtin "len") [Value.ref _]) _ _ _); k_dflt (refine' len_led ?Nzq ?mzq ?ezq ?azq ?bzq ?_; (case Nzq => k_asm); (case mzq => k_mem); (case ezq => assumption); (case azq => assumption); (case bzq => assumption))))) | (safely (with_reducible (k_here; (with_reducible show wpAny _ _ (subscriptTail (PySem.Expr.Subscript _ _ _) (PySem.Expr.Constant _ _ _) (Value.ref _) (Value.int _ _)) _ _ _); (with_unfolding_all refine' int_itemB ?Nzq ?mzq ?izq ?dzq ?ezq ?azq ?bzq ?czq ?_ ?szq; (case izq => with_reducible assumption); (case Nzq => with_reducible assumption); (case mzq => (repeat (first | with_reducible assumption | refine List.mem_cons_of_mem _ ?_ | refine List.mem_append.mpr (.inr ?_)))); (case dzq => with_reducible assumption); (case ezq => with_reducible assumption); (case azq => omega); (case bzq => omega); (case czq => omega); (case szq => with_unfolding_all rfl)); k_whole; intro t9zq a9zq ea9zq la9zq lb9zq))) | (safely (with_reducible (k_here; (with_reducible show wpAny _ _ (subscriptTail (PySem.Expr.Name _ _) (PySem.Expr.Constant _ _ _) (Value.ref _) (Value.int _ _)) _ _ _); (with_unfolding_all refine' row_itemB ?Nzq ?mzq ?zzq ?dzq ?ezq ?azq ?bzq ?czq ?_ ?szq; (case Nzq => with_reducible assumption); (case mzq => with_reducible assumption); (case dzq => with_reducible assumption); (case ezq => with_reducible assumption); (case zzq => intro q9zq hq9zq; (repeat (first | exact hq9zq | refine List.mem_cons_of_mem _ ?_ | refine List.mem_append.mpr (.inr ?_)))); (case azq => omega); (case bzq => omega); (case czq => omega); (case szq => with_unfolding_all rfl)); k_whole; intro c9zq us9zq n9zq hm9zq hi9zq hu9zq hl9zq hc9zq))) | (safely (with_reducible (k_here; (with_reducible show wpAny _ _ (call (Value.ref 133) [Value.ref _, Value.ref _]) _ _ _); k_dflt (refine' one_con _ _ _ _ _ _ _ _ _ _ _ ?kszq ?knzq ?klzq ?kvzq ?kwzq ?kazq ?kbzq ?kczq _ _ _ _ _ _ _ _ _ _ _ _ _ _ _ _ _ ?k1zq ?k2zq ?k3zq ?k4zq ?k5zq ?kKzq ?kdzq ?kuzq ?_; (case k1zq => k_asm); (case k2zq => k_asm); (case k3zq => k_asm); (case k4zq => k_asm); (case k5zq => k_asm); (case kszq => first | exact SplitL.here | exact SplitL.there .here | exact SplitL.there (.there .here) | exact SplitL.there (.there (.there .here)) | exact SplitL.there (.there (.there (.there .here))) | exact SplitL.there (.there (.there (.there (.there .here)))) | exact SplitL.there (.there (.there (.there (.there (.there .here))))) | exact SplitL.there (.there (.there (.there (.there (.there (.there .here))))))); (case knzq => k_all); (case klzq => k_mem); (case kvzq => exact Nat.zero_lt_succ _); (case kwzq => exact Nat.le_of_ble_eq_true rfl); (case kazq => assumption); (case kbzq => assumption); (case kczq => assumption); (case kKzq => first | exact rfl | assumption); (case kdzq => ktr_room); (case kuzq => ktr_units)); (intro r9zq news9zq h9zq tk9zq F9zq N9zq hOzq; obtain ⟨i9zq, a9zq, b9zq, t9zq, u9zq, n9zq, e2zq, a90zq, b90zq, b91zq, e1zq⟩ := hOzq; rw [e1zq] at N9zq; clear e1zq; (first | (have hp9zq := pick4 e2zq) | (have hp9zq := pick7 e2zq) | (have hp9zq := pickS e2zq)); obtain ⟨x9zq, tx9zq, ex9zq, hx9zq⟩ := hp9zq; clear e2zq; subst ex9zq; (try dsimp only); (try k_fold))))) | (safely (with_reducible (k_here; (with_reducible show wpAny _ _ (call (Value.ref 126) [Value.ref _, Value.int _ _]) _ _ _); k_dflt (refine' take_con _ _ _ _ _ _ _ _ _ _ ?kszq ?knzq ?kazq ?kbzq ?kczq ?ktzq ?kpzq _ _ _ _ _ _ _ _ _ _ _ _ _ _ _ _ _ ?k1zq ?k2zq ?k3zq ?k4zq ?k5zq ?kKzq ?kdzq ?kuzq ?_; (case k1zq => k_asm); (case k2zq => k_asm); (case k3zq => k_asm); (case k4zq => k_asm); (case k5zq => k_asm); (case kszq => first | exact SplitL.here | exact SplitL.there .here | exact SplitL.there (.there .here) | exact SplitL.there (.there (.there .here)) | exact SplitL.there (.there (.there (.there .here))) | exact SplitL.there (.there (.there (.there (.there .here)))) | exact SplitL.there (.there (.there (.there (.there (.there .here))))) | exact SplitL.there (.there (.there (.there (.there (.there (.there .here))))))); (case knzq => k_all); (case kazq => assumption); (case kbzq => assumption); (case kczq => assumption); (case ktzq => first | decide | assumption | omega); (case kpzq => first | decide | assumption | omega); (case kKzq => first | exact rfl | assumption); (case kdzq => ktr_room); (case kuzq => ktr_units)); (intro r9zq news9zq h9zq tk9zq F9zq N9zq hOzq; obtain ⟨d9zq, td9zq, a9zq, b9zq, t9zq, u9zq, n9zq, e2zq, d0zq, d1zq, a90zq, b90zq, b91zq, e1zq⟩ := hOzq; rw [e1zq] at N9zq; clear e1zq; subst e2zq; (try dsimp only); (try k_fold))))) | (have tokzq : PassTok := PassTok.mk; walk1 <;> (try clear tokzq))) | (k_unfold; (try dsimp only)) | (k_end; wrow_close) | walk1 | (dsimp only; walk1) | (leave1; walk_say "STEP leave1"; try dsimp only) | fail "no step")); (all_goals (try (with_reducible refine Halt.mk ?_))))
                      all_goals (try exact trivial)
                      rename Fr _ _ _ _ => lF'
                      rename News _ _ _ _ => lN'
                      exact LSx_mk (S := S) (rest := rest) lF' (News.tail (News.tail lN')) c1 c2 c3 c4 a0 b0 b1' s1' s2' s3' s4' rS r1 r2 r3 r4 (FoundP_mk (W := W) (H := H) (R := R) (rows := rows) (sh := sh) (P := P) (B := B) (F := F) (C := C) rfl rfl (by with_unfolding_all rfl) sh0 sh1 (by with_unfolding_all rfl) (by with_unfolding_all rfl) (by with_unfolding_all rfl) (by with_unfolding_all rfl) hPl hB hF)
                    · clear F8' N8 c1 c2 c3 c4 a0 b0 b1' s1' s2' s3' s4' rS r1 r2 r3 r4 ecw ecr ehigh sh0 sh1 eshare eplane ebefore efound hPl hB hF
                      rintro m9 h9 tk9 S cw cm cr a1 b1 t1 u1 n1 o1 o2 o3 o4 rest F9 N9 c1 c2 c3 c4 a0 b0 b1' s1' s2' s3' s4' rS r1 r2 r3 r4 hp9
                      refine FoundP_elim hp9 ?_
                      clear hp9
                      rintro W H R rows tW tH sh tS P B F C ecw ecr ehigh sh0 sh1 eshare eplane ebefore efound hPl hB hF
                      rw [ecw] at c2
                      rw [ecr] at c4
                      have F9' := fr_pin (fr_pin (fr_pin (fr_pin (fr_pin F9 ehigh) (n := Str.ofString "share") (by with_unfolding_all exact eshare)) (n := Str.ofString "plane") (by with_unfolding_all exact eplane)) (n := Str.ofString "before") (by with_unfolding_all exact ebefore)) (n := Str.ofString "found") (by with_unfolding_all exact efound)
                      clear F9
                      dsimp only
                      refine wpAny_execs_cons ?_
                      refine cut_law F9' (FoundP wQ) ?_ ?_
                      · --SA
                        obtain ⟨-, hR, hl, h0, w0, wl, h4, w4, hc⟩ := id hPl
                        have hC := hF.rs
                        have hf := at2_range hPl
                        obtain ⟨⟨dy, q1, q2, q3, q4, q5, qn, hq1, hq2⟩, -, -, -, -, -, -, -, -⟩ := id hF
                        have hz := fun e : sh = 0 => smoothRows_zero hl wl e
                        ((repeat' (first | ((with_reducible refine Halt.mk ?_); first | (safely (with_reducible (k_here; (with_reducible show wpAny _ _ (call (Value.ref 105) [Value.ref _, Value.int _ _]) _ _ _); (rename Pl _ _ _ _ _ _ (turned _ _ _) => hT9zq); k_dflt (refine' smoothed_con _ _ _ _ _ _ _ _ hT9zq ?kazq ?kbzq _ _ _ _ _ _ _ _ _ _ _ _ _ _ _ _ _ ?k1zq ?k2zq ?k3zq ?k4zq ?k5zq ?kKzq ?kdzq ?kuzq ?_; (case k1zq => k_asm); (case k2zq => k_asm); (case k3zq => k_asm); (case k4zq => k_asm); (case k5zq => k_asm); (case kazq => assumption); (case kbzq => assumption); (case kKzq => first | exact rfl | assumption); (case kdzq => ktr_room); (case kuzq => ktr_units)); (intro r9zq news9zq h9zq tk9zq F9zq N9zq hOzq; obtain ⟨q9zq, c9zq, tl9zq, e2zq, -, hG9zq, hP9zq, -⟩ := hOzq; subst e2zq); (with_unfolding_all (have hS9zq := hP9zq.rs; have hA9zq := hP9zq.pl; obtain ⟨dx9zq, w1zq, w2zq, w3zq, w4zq, w5zq, n9zq, hp1zq, hp2zq⟩ := hA9zq)); ((try dsimp only); (try k_fold))))) | (safely (with_reducible (k_here; (with_reducible show wpAny _ _ (call (Value.ref 100) [Value.ref _, Value.str _ _]) _ _ _); k_dflt (refine' turned_con _ _ _ _ _ _ _ _ ?khzq ?kwzq _ _ _ _ _ _ _ _ _ _ _ _ _ _ _ _ _ ?k1zq ?k2zq ?k3zq ?k4zq ?k5zq ?kKzq ?kdzq ?kuzq ?_; (case k1zq => k_asm); (case k2zq => k_asm); (case k3zq => k_asm); (case k4zq => k_asm); (case k5zq => k_asm); (case khzq => refine Pl.mono (by assumption) ?_; intro q9zq hq9zq; (repeat (first | exact hq9zq | refine List.mem_cons_of_mem _ ?_ | refine Grows.sub (by assumption) _ ?_))); (case kwzq => assumption); (case kKzq => first | exact rfl | assumption); (case kdzq => ktr_room); (case kuzq => ktr_units)); (intro r9zq news9zq h9zq tk9zq F9zq N9zq hOzq; obtain ⟨q9zq, c9zq, e2zq, hG9zq, hP9zq⟩ := hOzq; subst e2zq); (with_unfolding_all (have hS9zq := hP9zq.rs; have hA9zq := hP9zq.pl; obtain ⟨dx9zq, w1zq, w2zq, w3zq, w4zq, w5zq, n9zq, hp1zq, hp2zq⟩ := hA9zq)); ((try dsimp only); (try k_fold))))) | (safely (with_reducible (k_here; (with_reducible show wpAny _ _ (compareOp CmpOp.Eq (Value.ref _) (Value.ref _)) _ _ _); k_dflt (refine' rows_eq ?Nzq ?azq ?bzq ?czq ?dzq ?uzq ?_; (case Nzq => k_asm); (case azq => assumption); (case czq => assumption); (case bzq => intro q9zq hq9zq; (repeat (first | exact hq9zq | refine List.mem_cons_of_mem _ ?_ | refine List.mem_append.mpr (.inr ?_) | refine Grows.sub (by assumption) _ ?_))); (case dzq => first | exact fun q9zq hq9zq => hq9zq | (intro q9zq hq9zq; (repeat (first | exact hq9zq | refine List.mem_cons_of_mem _ ?_ | refine List.mem_append.mpr (.inr ?_) | refine Grows.sub (by assumption) _ ?_))) | assumption); (case uzq => ktr_units))))) | (safely (with_reducible (k_here; (with_reducible show wpAny _ _ (call (Value.ref 154) [Value.ref _, Value.ref _, Value.int _ _]) _ _ _); k_dflt (refine' right_con' _ _ _ _ _ _ _ _ _ _ _ ?h1zq ?h2zq ?hszq ?htzq ?h3zq ?h4zq ?h5zq ?h6zq ?h7zq ?h8zq ?h9zq ?hazq ?hbzq ?hczq ?hezq _ _ _ _ _ _ _ _ _ _ _ _ _ _ _ _ _ ?k1zq ?k2zq ?k3zq ?k4zq ?k5zq ?kKzq ?kdzq ?kuzq ?_; (case k1zq => k_asm); (case k2zq => k_asm); (case k3zq => k_asm); (case k4zq => k_asm); (case k5zq => k_asm); (case h1zq => assumption); (case h2zq => assumption); (case hszq => intro q9zq hq9zq; (repeat (first | exact hq9zq | refine List.mem_cons_of_mem _ ?_))); (case htzq => intro q9zq hq9zq; (repeat (first | exact hq9zq | refine List.mem_cons_of_mem _ ?_))); (case h4zq => assumption); (case hbzq => assumption); (case h5zq => assumption); (case h6zq => assumption); (case h3zq => exact rfl); (case h7zq => assumption); (case h8zq => assumption); (case h9zq => assumption); (case hazq => assumption); (case hczq => assumption); (case hezq => assumption); (case kKzq => first | exact rfl | assumption); (case kdzq => ktr_room); (case kuzq => ktr_units)); (intro r9zq news9zq h9zq tk9zq F9zq N9zq hOzq; obtain ⟨e2zq, hG9zq⟩ := hOzq; subst e2zq; (try dsimp only); (try k_fold))))) | (safely (with_reducible (k_here; (with_reducible show wpAny _ _ (compareOp CmpOp.NotEq (Value.ref _) (Value.ref _)) _ _ _); k_dflt (first | (refine' ne_three ?Nzq ?azq ?bzq ?czq ?dzq ?ezq ?fzq ?uzq ?_; (case Nzq => k_asm); (case azq => k_mem); (case bzq => k_mem); (case czq => rfl); (case dzq => rfl); (case ezq => rfl); (case fzq => rfl); (case uzq => ktr_units)) | (refine' rows_ne ?Nzq ?azq ?bzq ?czq ?dzq ?uzq ?_; (case Nzq => k_asm); (case azq => assumption); (case czq => assumption); (case bzq => intro q9zq hq9zq; k_mem); (case dzq => intro q9zq hq9zq; k_mem); (case uzq => ktr_units))); (try simp only [eq_self, decide_true, Bool.not_true])))) | (safely (with_reducible (k_here; (with_reducible show wpAny _ _ (call (Value.ref 105) [Value.ref _, Value.int _ _]) _ _ _); k_dflt (refine' smoothed_con _ _ _ _ _ _ _ _ ?khzq ?kazq ?kbzq _ _ _ _ _ _ _ _ _ _ _ _ _ _ _ _ _ ?k1zq ?k2zq ?k3zq ?k4zq ?k5zq ?kKzq ?kdzq ?kuzq ?_; (case k1zq => k_asm); (case k2zq => k_asm); (case k3zq => k_asm); (case k4zq => k_asm); (case k5zq => k_asm); (case khzq => refine Pl.mono (by assumption) ?_; intro q9zq hq9zq; (repeat (first | assumption | refine List.mem_cons_of_mem _ ?_ | refine Grows.sub (by assumption) _ ?_))); (case kazq => assumption); (case kbzq => assumption); (case kKzq => first | exact rfl | assumption); (case kdzq => ktr_room); (case kuzq => ktr_units)); (intro r9zq news9zq h9zq tk9zq F9zq N9zq hOzq; obtain ⟨q9zq, c9zq, tl9zq, e2zq, etl9zq, hG9zq, hP9zq, hR9zq⟩ := hOzq; subst e2zq; (try dsimp only); (try k_fold))))) | (safely (with_reducible (k_here; (with_reducible show wpAny _ _ (call (Value.ref 161) [Value.ref _, Value.int _ _]) _ _ _); k_dflt (refine' refused_con _ _ _ _ ?khzq _ _ _ _ _ _ _ _ _ _ _ _ _ _ _ ?k1zq ?k2zq ?k3zq ?k4zq ?k5zq ?kKzq ?kdzq ?kuzq ?_; (case k1zq => k_asm); (case k2zq => k_asm); (case k3zq => k_asm); (case k4zq => k_asm); (case k5zq => k_asm); (case khzq => first | exact .inl (by omega) | exact .inr (by omega)); (case kKzq => first | exact rfl | assumption); (case kdzq => ktr_room); (case kuzq => ktr_units)); (intro r9zq news9zq h9zq tk9zq F9zq N9zq hOzq; obtain ⟨e2zq, e1zq⟩ := hOzq; rw [e1zq] at N9zq; clear e1zq; subst e2zq; (try dsimp only); (try k_fold))))) | (safely (with_reducible (k_here; (with_reducible show wpAny _ _ (call (Value.ref 84) [Value.int _ _, Value.int _ _, Value.ref _]) _ _ _); k_dflt (refine' plane_con _ _ _ _ _ _ _ _ _ _ _ _ _ _ _ _ _ _ _ _ _ _ _ ?k1zq ?k2zq ?k3zq ?k4zq ?k5zq ?kKzq ?kdzq ?kuzq ?_; (case k1zq => k_asm); (case k2zq => k_asm); (case k3zq => k_asm); (case k4zq => k_asm); (case k5zq => k_asm); (case kKzq => first | exact rfl | assumption); (case kdzq => ktr_room); (case kuzq => ktr_units)); (intro r9zq news9zq h9zq tk9zq F9zq N9zq hOzq; obtain ⟨q9zq, e2zq, hG9zq, hP9zq⟩ := hOzq; subst e2zq; (try dsimp only); (try k_fold))))) | (safely (with_reducible (k_here; (with_reducible show wpAny _ _ (call (Value.builtin "len") [Value.ref _]) _ _ _); k_dflt (refine' len_led ?Nzq ?mzq ?ezq ?azq ?bzq ?_; (case Nzq => k_asm); (case mzq => k_mem); (case ezq => assumption); (case azq => assumption); (case bzq => assumption))))) | (safely (with_reducible (k_here; (with_reducible show wpAny _ _ (subscriptTail (PySem.Expr.Subscript _ _ _) (PySem.Expr.Constant _ _ _) (Value.ref _) (Value.int _ _)) _ _ _); (with_unfolding_all refine' int_itemB ?Nzq ?mzq ?izq ?dzq ?ezq ?azq ?bzq ?czq ?_ ?szq; (case izq => with_reducible assumption); (case Nzq => with_reducible assumption); (case mzq => (repeat (first | with_reducible assumption | refine List.mem_cons_of_mem _ ?_ | refine List.mem_append.mpr (.inr ?_)))); (case dzq => with_reducible assumption); (case ezq => with_reducible assumption); (case azq => omega); (case bzq => omega); (case czq => omega); (case szq => with_unfolding_all rfl)); k_whole; intro t9zq a9zq ea9zq la9zq lb9zq))) | (safely (with_reducible (k_here; (with_reducible show wpAny _ _ (subscriptTail (PySem.Expr.Name _ _) (PySem.Expr.Constant _ _ _) (Value.ref _) (Value.int _ _)) _ _ _); (with_unfolding_all refine' row_itemB ?Nzq ?mzq ?zzq ?dzq ?ezq ?azq ?bzq ?czq ?_ ?szq; (case Nzq => with_reducible assumption); (case mzq => with_reducible assumption); (case dzq => with_reducible assumption); (case ezq => with_reducible assumption); (case zzq => intro q9zq hq9zq; (repeat (first | exact hq9zq | refine List.mem_cons_of_mem _ ?_ | refine List.mem_append.mpr (.inr ?_)))); (case azq => omega); (case bzq => omega); (case czq => omega); (case szq => with_unfolding_all rfl)); k_whole; intro c9zq us9zq n9zq hm9zq hi9zq hu9zq hl9zq hc9zq))) | (safely (with_reducible (k_here; (with_reducible show wpAny _ _ (call (Value.ref 133) [Value.ref _, Value.ref _]) _ _ _); k_dflt (refine' one_con _ _ _ _ _ _ _ _ _ _ _ ?kszq ?knzq ?klzq ?kvzq ?kwzq ?kazq ?kbzq ?kczq _ _ _ _ _ _ _ _ _ _ _ _ _ _ _ _ _ ?k1zq ?k2zq ?k3zq ?k4zq ?k5zq ?kKzq ?kdzq ?kuzq ?_; (case k1zq => k_asm); (case k2zq => k_asm); (case k3zq => k_asm); (case k4zq => k_asm); (case k5zq => k_asm); (case kszq => first | exact SplitL.here | exact SplitL.there .here | exact SplitL.there (.there .here) | exact SplitL.there (.there (.there .here)) | exact SplitL.there (.there (.there (.there .here))) | exact SplitL.there (.there (.there (.there (.there .here)))) | exact SplitL.there (.there (.there (.there (.there (.there .here))))) | exact SplitL.there (.there (.there (.there (.there (.there (.there .here))))))); (case knzq => k_all); (case klzq => k_mem); (case kvzq => exact Nat.zero_lt_succ _); (case kwzq => exact Nat.le_of_ble_eq_true rfl); (case kazq => assumption); (case kbzq => assumption); (case kczq => assumption); (case kKzq => first | exact rfl | assumption); (case kdzq => ktr_room); (case kuzq => ktr_units)); (intro r9zq news9zq h9zq tk9zq F9zq N9zq hOzq; obtain ⟨i9zq, a9zq, b9zq, t9zq, u9zq, n9zq, e2zq, a90zq, b90zq, b91zq, e1zq⟩ := hOzq; rw [e1zq] at N9zq; clear e1zq; (first | (have hp9zq := pick4 e2zq) | (have hp9zq := pick7 e2zq) | (have hp9zq := pickS e2zq)); obtain ⟨x9zq, tx9zq, ex9zq, hx9zq⟩ := hp9zq; clear e2zq; subst ex9zq; (try dsimp only); (try k_fold))))) | (safely (with_reducible (k_here; (with_reducible show wpAny _ _ (call (Value.ref 126) [Value.ref _, Value.int _ _]) _ _ _); k_dflt (refine' take_con _ _ _ _ _ _ _ _ _ _ ?kszq ?knzq ?kazq ?kbzq ?kczq ?ktzq ?kpzq _ _ _ _ _ _ _ _ _ _ _ _ _ _ _ _ _ ?k1zq ?k2zq ?k3zq ?k4zq ?k5zq ?kKzq ?kdzq ?kuzq ?_; (case k1zq => k_asm); (case k2zq => k_asm); (case k3zq => k_asm); (case k4zq => k_asm); (case k5zq => k_asm); (case kszq => first | exact SplitL.here | exact SplitL.there .here | exact SplitL.there (.there .here) | exact SplitL.there (.there (.there .here)) | exact SplitL.there (.there (.there (.there .here))) | exact SplitL.there (.there (.there (.there (.there .here)))) | exact SplitL.there (.there (.there (.there (.there (.there .here))))) | exact SplitL.there (.there (.there (.there (.there (.there (.there .here))))))); (case knzq => k_all); (case kazq => assumption); (case kbzq => assumption); (case kczq => assumption); (case ktzq => first | decide | assumption | omega); (case kpzq => first | decide | assumption | omega); (case kKzq => first | exact rfl | assumption); (case kdzq => ktr_room); (case kuzq => ktr_units)); (intro r9zq news9zq h9zq tk9zq F9zq N9zq hOzq; obtain ⟨d9zq, td9zq, a9zq, b9zq, t9zq, u9zq, n9zq, e2zq, d0zq, d1zq, a90zq, b90zq, b91zq, e1zq⟩ := hOzq; rw [e1zq] at N9zq; clear e1zq; subst e2zq; (try dsimp only); (try k_fold))))) | (have tokzq : PassTok := PassTok.mk; walk1 <;> (try clear tokzq))) | (k_unfold; (try dsimp only)) | (k_end; wrow_close) | walk1 | (dsimp only; walk1) | (leave1; walk_say "STEP leave1"; try dsimp only) | fail "no step")); (all_goals (try (with_reducible refine Halt.mk ?_))))
                        all_goals (try exact trivial)
                        all_goals first
                          | (exfalso; rename (sh = 0) => e0; have e1 := hz e0; (rename ((!decide _) = true) => e2); rw [e1] at e2; simp at e2; done)
                          | (exfalso; rename (sh = 0) => e0; have e1 := hz e0; (rename (decide _ = false) => e2); rw [e1] at e2; simp at e2; done)
                          | (exfalso; rename (sh = 0) => e0; have e1 := hz e0; contradiction)
                          | (rename Fr _ _ _ _ => lF'
                             rename News _ _ _ _ => lN'
                             rename Grows _ _ => hGx
                             exact LSx_mk (S := S) (rest := rest) lF' (sub_news lN' hGx.sub) c1 c2 c3 c4 a0 b0 b1' s1' s2' s3' s4' rS r1 r2 r3 r4 (FoundP_mk (W := W) (H := H) (R := R) (rows := rows) (sh := sh) (P := P) (B := B) (F := F) (C := C) rfl rfl (by with_unfolding_all rfl) sh0 sh1 (by with_unfolding_all rfl) (by with_unfolding_all rfl) (by with_unfolding_all rfl) (by with_unfolding_all rfl) hPl hB hF))
                      · clear F9' N9 c1 c2 c3 c4 a0 b0 b1' s1' s2' s3' s4' rS r1 r2 r3 r4 ecw ecr ehigh sh0 sh1 eshare eplane ebefore efound hPl hB hF
                        rintro mA hA tkA S cw cm cr a1 b1 t1 u1 n1 o1 o2 o3 o4 rest FA NA c1 c2 c3 c4 a0 b0 b1' s1' s2' s3' s4' rS r1 r2 r3 r4 hp9
                        refine FoundP_elim hp9 ?_
                        clear hp9
                        rintro W H R rows tW tH sh tS P B F C ecw ecr ehigh sh0 sh1 eshare eplane ebefore efound hPl hB hF
                        rw [ecw] at c2
                        rw [ecr] at c4
                        have FA' := fr_pin (fr_pin (fr_pin (fr_pin (fr_pin FA ehigh) (n := Str.ofString "share") (by with_unfolding_all exact eshare)) (n := Str.ofString "plane") (by with_unfolding_all exact eplane)) (n := Str.ofString "before") (by with_unfolding_all exact ebefore)) (n := Str.ofString "found") (by with_unfolding_all exact efound)
                        clear FA
                        dsimp only
                        refine wpAny_execs_cons ?_
                        refine cut_law FA' (FoundP wQ) ?_ ?_
                        · --SB
                          obtain ⟨-, hr, hl, h0, w0, wl, h4, w4, hc⟩ := id hPl
                          have hC := hF.rs
                          have hHn : H = ((H.toNat : Nat) : Int) := by omega
                          have hWn : W = ((W.toNat : Nat) : Int) := by omega
                          obtain ⟨⟨dy, q1, q2, q3, q4, q5, qn, hq1, hq2⟩, -, -, -, -, -, -, -, -⟩ := id hF
                          have hz := fun e => smoothRows_const (v := (rows.getD 0 []).getD 0 0) (s := sh) hl wl h0 w0 sh0 sh1 e
                          ((repeat' (first | ((with_reducible refine Halt.mk ?_); first | (safely (with_reducible (k_here; (with_reducible show wpAny _ _ (call (Value.ref 105) [Value.ref _, Value.int _ _]) _ _ _); (rename Pl _ _ _ _ _ _ (turned _ _ _) => hT9zq); k_dflt (refine' smoothed_con _ _ _ _ _ _ _ _ hT9zq ?kazq ?kbzq _ _ _ _ _ _ _ _ _ _ _ _ _ _ _ _ _ ?k1zq ?k2zq ?k3zq ?k4zq ?k5zq ?kKzq ?kdzq ?kuzq ?_; (case k1zq => k_asm); (case k2zq => k_asm); (case k3zq => k_asm); (case k4zq => k_asm); (case k5zq => k_asm); (case kazq => assumption); (case kbzq => assumption); (case kKzq => first | exact rfl | assumption); (case kdzq => ktr_room); (case kuzq => ktr_units)); (intro r9zq news9zq h9zq tk9zq F9zq N9zq hOzq; obtain ⟨q9zq, c9zq, tl9zq, e2zq, -, hG9zq, hP9zq, -⟩ := hOzq; subst e2zq); (with_unfolding_all (have hS9zq := hP9zq.rs; have hA9zq := hP9zq.pl; obtain ⟨dx9zq, w1zq, w2zq, w3zq, w4zq, w5zq, n9zq, hp1zq, hp2zq⟩ := hA9zq)); ((try dsimp only); (try k_fold))))) | (safely (with_reducible (k_here; (with_reducible show wpAny _ _ (call (Value.ref 100) [Value.ref _, Value.str _ _]) _ _ _); k_dflt (refine' turned_con _ _ _ _ _ _ _ _ ?khzq ?kwzq _ _ _ _ _ _ _ _ _ _ _ _ _ _ _ _ _ ?k1zq ?k2zq ?k3zq ?k4zq ?k5zq ?kKzq ?kdzq ?kuzq ?_; (case k1zq => k_asm); (case k2zq => k_asm); (case k3zq => k_asm); (case k4zq => k_asm); (case k5zq => k_asm); (case khzq => refine Pl.mono (by assumption) ?_; intro q9zq hq9zq; (repeat (first | exact hq9zq | refine List.mem_cons_of_mem _ ?_ | refine Grows.sub (by assumption) _ ?_))); (case kwzq => assumption); (case kKzq => first | exact rfl | assumption); (case kdzq => ktr_room); (case kuzq => ktr_units)); (intro r9zq news9zq h9zq tk9zq F9zq N9zq hOzq; obtain ⟨q9zq, c9zq, e2zq, hG9zq, hP9zq⟩ := hOzq; subst e2zq); (with_unfolding_all (have hS9zq := hP9zq.rs; have hA9zq := hP9zq.pl; obtain ⟨dx9zq, w1zq, w2zq, w3zq, w4zq, w5zq, n9zq, hp1zq, hp2zq⟩ := hA9zq)); ((try dsimp only); (try k_fold))))) | (safely (with_reducible (k_here; (with_reducible show wpAny _ _ (compareOp CmpOp.Eq (Value.ref _) (Value.ref _)) _ _ _); k_dflt (refine' rows_eq ?Nzq ?azq ?bzq ?czq ?dzq ?uzq ?_; (case Nzq => k_asm); (case azq => assumption); (case czq => assumption); (case bzq => intro q9zq hq9zq; (repeat (first | exact hq9zq | refine List.mem_cons_of_mem _ ?_ | refine List.mem_append.mpr (.inr ?_) | refine Grows.sub (by assumption) _ ?_))); (case dzq => first | exact fun q9zq hq9zq => hq9zq | (intro q9zq hq9zq; (repeat (first | exact hq9zq | refine List.mem_cons_of_mem _ ?_ | refine List.mem_append.mpr (.inr ?_) | refine Grows.sub (by assumption) _ ?_))) | assumption); (case uzq => ktr_units))))) | (safely (with_reducible (k_here; (with_reducible show wpAny _ _ (call (Value.ref 154) [Value.ref _, Value.ref _, Value.int _ _]) _ _ _); k_dflt (refine' right_con' _ _ _ _ _ _ _ _ _ _ _ ?h1zq ?h2zq ?hszq ?htzq ?h3zq ?h4zq ?h5zq ?h6zq ?h7zq ?h8zq ?h9zq ?hazq ?hbzq ?hczq ?hezq _ _ _ _ _ _ _ _ _ _ _ _ _ _ _ _ _ ?k1zq ?k2zq ?k3zq ?k4zq ?k5zq ?kKzq ?kdzq ?kuzq ?_; (case k1zq => k_asm); (case k2zq => k_asm); (case k3zq => k_asm); (case k4zq => k_asm); (case k5zq => k_asm); (case h1zq => assumption); (case h2zq => assumption); (case hszq => intro q9zq hq9zq; (repeat (first | exact hq9zq | refine List.mem_cons_of_mem _ ?_))); (case htzq => intro q9zq hq9zq; (repeat (first | exact hq9zq | refine List.mem_cons_of_mem _ ?_))); (case h4zq => assumption); (case hbzq => assumption); (case h5zq => assumption); (case h6zq => assumption); (case h3zq => exact rfl); (case h7zq => assumption); (case h8zq => assumption); (case h9zq => assumption); (case hazq => assumption); (case hczq => assumption); (case hezq => assumption); (case kKzq => first | exact rfl | assumption); (case kdzq => ktr_room); (case kuzq => ktr_units)); (intro r9zq news9zq h9zq tk9zq F9zq N9zq hOzq; obtain ⟨e2zq, hG9zq⟩ := hOzq; subst e2zq; (try dsimp only); (try k_fold))))) | (safely (with_reducible (k_here; (with_reducible show wpAny _ _ (compareOp CmpOp.NotEq (Value.ref _) (Value.ref _)) _ _ _); k_dflt (first | (refine' ne_three ?Nzq ?azq ?bzq ?czq ?dzq ?ezq ?fzq ?uzq ?_; (case Nzq => k_asm); (case azq => k_mem); (case bzq => k_mem); (case czq => rfl); (case dzq => rfl); (case ezq => rfl); (case fzq => rfl); (case uzq => ktr_units)) | (refine' rows_ne ?Nzq ?azq ?bzq ?czq ?dzq ?uzq ?_; (case Nzq => k_asm); (case azq => assumption); (case czq => assumption); (case bzq => intro q9zq hq9zq; k_mem); (case dzq => intro q9zq hq9zq; k_mem); (case uzq => ktr_units))); (try simp only [eq_self, decide_true, Bool.not_true])))) | (safely (with_reducible (k_here; (with_reducible show wpAny _ _ (call (Value.ref 105) [Value.ref _, Value.int _ _]) _ _ _); k_dflt (refine' smoothed_con _ _ _ _ _ _ _ _ ?khzq ?kazq ?kbzq _ _ _ _ _ _ _ _ _ _ _ _ _ _ _ _ _ ?k1zq ?k2zq ?k3zq ?k4zq ?k5zq ?kKzq ?kdzq ?kuzq ?_; (case k1zq => k_asm); (case k2zq => k_asm); (case k3zq => k_asm); (case k4zq => k_asm); (case k5zq => k_asm); (case khzq => refine Pl.mono (by assumption) ?_; intro q9zq hq9zq; (repeat (first | assumption | refine List.mem_cons_of_mem _ ?_ | refine Grows.sub (by assumption) _ ?_))); (case kazq => assumption); (case kbzq => assumption); (case kKzq => first | exact rfl | assumption); (case kdzq => ktr_room); (case kuzq => ktr_units)); (intro r9zq news9zq h9zq tk9zq F9zq N9zq hOzq; obtain ⟨q9zq, c9zq, tl9zq, e2zq, etl9zq, hG9zq, hP9zq, hR9zq⟩ := hOzq; subst e2zq; (try dsimp only); (try k_fold))))) | (safely (with_reducible (k_here; (with_reducible show wpAny _ _ (call (Value.ref 161) [Value.ref _, Value.int _ _]) _ _ _); k_dflt (refine' refused_con _ _ _ _ ?khzq _ _ _ _ _ _ _ _ _ _ _ _ _ _ _ ?k1zq ?k2zq ?k3zq ?k4zq ?k5zq ?kKzq ?kdzq ?kuzq ?_; (case k1zq => k_asm); (case k2zq => k_asm); (case k3zq => k_asm); (case k4zq => k_asm); (case k5zq => k_asm); (case khzq => first | exact .inl (by omega) | exact .inr (by omega)); (case kKzq => first | exact rfl | assumption); (case kdzq => ktr_room); (case kuzq => ktr_units)); (intro r9zq news9zq h9zq tk9zq F9zq N9zq hOzq; obtain ⟨e2zq, e1zq⟩ := hOzq; rw [e1zq] at N9zq; clear e1zq; subst e2zq; (try dsimp only); (try k_fold))))) | (safely (with_reducible (k_here; (with_reducible show wpAny _ _ (call (Value.ref 84) [Value.int _ _, Value.int _ _, Value.ref _]) _ _ _); k_dflt (refine' plane_con _ _ _ _ _ _ _ _ _ _ _ _ _ _ _ _ _ _ _ _ _ _ _ ?k1zq ?k2zq ?k3zq ?k4zq ?k5zq ?kKzq ?kdzq ?kuzq ?_; (case k1zq => k_asm); (case k2zq => k_asm); (case k3zq => k_asm); (case k4zq => k_asm); (case k5zq => k_asm); (case kKzq => first | exact rfl | assumption); (case kdzq => ktr_room); (case kuzq => ktr_units)); (intro r9zq news9zq h9zq tk9zq F9zq N9zq hOzq; obtain ⟨q9zq, e2zq, hG9zq, hP9zq⟩ := hOzq; subst e2zq; (try dsimp only); (try k_fold))))) | (safely (with_reducible (k_here; (with_reducible show wpAny _ _ (call (Value.builtin "len") [Value.ref _]) _ _ _); k_dflt (refine' len_led ?Nzq ?mzq ?ezq ?azq ?bzq ?_; (case Nzq => k_asm); (case mzq => k_mem); (case ezq => assumption); (case azq => assumption); (case bzq => assumption))))) | (safely (with_reducible (k_here; (with_reducible show wpAny _ _ (subscriptTail (PySem.Expr.Subscript _ _ _) (PySem.Expr.Constant _ _ _) (Value.ref _) (Value.int _ _)) _ _ _); (with_unfolding_all refine' int_itemB ?Nzq ?mzq ?izq ?dzq ?ezq ?azq ?bzq ?czq ?_ ?szq; (case izq => with_reducible assumption); (case Nzq => with_reducible assumption); (case mzq => (repeat (first | with_reducible assumption | refine List.mem_cons_of_mem _ ?_ | refine List.mem_append.mpr (.inr ?_)))); (case dzq => with_reducible assumption); (case ezq => with_reducible assumption); (case azq => omega); (case bzq => omega); (case czq => omega); (case szq => with_unfolding_all rfl)); k_whole; intro t9zq a9zq ea9zq la9zq lb9zq))) | (safely (with_reducible (k_here; (with_reducible show wpAny _ _ (subscriptTail (PySem.Expr.Name _ _) (PySem.Expr.Constant _ _ _) (Value.ref _) (Value.int _ _)) _ _ _); (with_unfolding_all refine' row_itemB ?Nzq ?mzq ?zzq ?dzq ?ezq ?azq ?bzq ?czq ?_ ?szq; (case Nzq => with_reducible assumption); (case mzq => with_reducible assumption); (case dzq => with_reducible assumption); (case ezq => with_reducible assumption); (case zzq => intro q9zq hq9zq; (repeat (first | exact hq9zq | refine List.mem_cons_of_mem _ ?_ | refine List.mem_append.mpr (.inr ?_)))); (case azq => omega); (case bzq => omega); (case czq => omega); (case szq => with_unfolding_all rfl)); k_whole; intro c9zq us9zq n9zq hm9zq hi9zq hu9zq hl9zq hc9zq))) | (safely (with_reducible (k_here; (with_reducible show wpAny _ _ (call (Value.ref 133) [Value.ref _, Value.ref _]) _ _ _); k_dflt (refine' one_con _ _ _ _ _ _ _ _ _ _ _ ?kszq ?knzq ?klzq ?kvzq ?kwzq ?kazq ?kbzq ?kczq _ _ _ _ _ _ _ _ _ _ _ _ _ _ _ _ _ ?k1zq ?k2zq ?k3zq ?k4zq ?k5zq ?kKzq ?kdzq ?kuzq ?_; (case k1zq => k_asm); (case k2zq => k_asm); (case k3zq => k_asm); (case k4zq => k_asm); (case k5zq => k_asm); (case kszq => first | exact SplitL.here | exact SplitL.there .here | exact SplitL.there (.there .here) | exact SplitL.there (.there (.there .here)) | exact SplitL.there (.there (.there (.there .here))) | exact SplitL.there (.there (.there (.there (.there .here)))) | exact SplitL.there (.there (.there (.there (.there (.there .here))))) | exact SplitL.there (.there (.there (.there (.there (.there (.there .here))))))); (case knzq => k_all); (case klzq => k_mem); (case kvzq => exact Nat.zero_lt_succ _); (case kwzq => exact Nat.le_of_ble_eq_true rfl); (case kazq => assumption); (case kbzq => assumption); (case kczq => assumption); (case kKzq => first | exact rfl | assumption); (case kdzq => ktr_room); (case kuzq => ktr_units)); (intro r9zq news9zq h9zq tk9zq F9zq N9zq hOzq; obtain ⟨i9zq, a9zq, b9zq, t9zq, u9zq, n9zq, e2zq, a90zq, b90zq, b91zq, e1zq⟩ := hOzq; rw [e1zq] at N9zq; clear e1zq; (first | (have hp9zq := pick4 e2zq) | (have hp9zq := pick7 e2zq) | (have hp9zq := pickS e2zq)); obtain ⟨x9zq, tx9zq, ex9zq, hx9zq⟩ := hp9zq; clear e2zq; subst ex9zq; (try dsimp only); (try k_fold))))) | (safely (with_reducible (k_here; (with_reducible show wpAny _ _ (call (Value.ref 126) [Value.ref _, Value.int _ _]) _ _ _); k_dflt (refine' take_con _ _ _ _ _ _ _ _ _ _ ?kszq ?knzq ?kazq ?kbzq ?kczq ?ktzq ?kpzq _ _ _ _ _ _ _ _ _ _ _ _ _ _ _ _ _ ?k1zq ?k2zq ?k3zq ?k4zq ?k5zq ?kKzq ?kdzq ?kuzq ?_; (case k1zq => k_asm); (case k2zq => k_asm); (case k3zq => k_asm); (case k4zq => k_asm); (case k5zq => k_asm); (case kszq => first | exact SplitL.here | exact SplitL.there .here | exact SplitL.there (.there .here) | exact SplitL.there (.there (.there .here)) | exact SplitL.there (.there (.there (.there .here))) | exact SplitL.there (.there (.there (.there (.there .here)))) | exact SplitL.there (.there (.there (.there (.there (.there .here))))) | exact SplitL.there (.there (.there (.there (.there (.there (.there .here))))))); (case knzq => k_all); (case kazq => assumption); (case kbzq => assumption); (case kczq => assumption); (case ktzq => first | decide | assumption | omega); (case kpzq => first | decide | assumption | omega); (case kKzq => first | exact rfl | assumption); (case kdzq => ktr_room); (case kuzq => ktr_units)); (intro r9zq news9zq h9zq tk9zq F9zq N9zq hOzq; obtain ⟨d9zq, td9zq, a9zq, b9zq, t9zq, u9zq, n9zq, e2zq, d0zq, d1zq, a90zq, b90zq, b91zq, e1zq⟩ := hOzq; rw [e1zq] at N9zq; clear e1zq; subst e2zq; (try dsimp only); (try k_fold))))) | (have tokzq : PassTok := PassTok.mk; walk1 <;> (try clear tokzq))) | (k_unfold; (try dsimp only)) | (k_end; wrow_close) | walk1 | (dsimp only; walk1) | (leave1; walk_say "STEP leave1"; try dsimp only) | fail "no step")); (all_goals (try (with_reducible refine Halt.mk ?_))))
                          (try dsimp only)
                          rename Fr _ _ _ _ => lF'
                          rename News _ _ _ _ => lN'
                          rename IsRange _ _ _ _ _ _ _ _ => rgX
                          dsimp only at rgX
                          refine led_obj lN' fun oS eS => ?_
                          rw [← eS] at lN'
                          with_unfolding_all refine crange_J (JC _ S oS o1 o2 o3 o4 rest W ((rows.getD 0 []).getD 0 0)) rfl lF' lN' rgX hHn (by simp only [sizeLine]; omega) ⟨[], rfl, (fun _ h => nomatch h), RowVals.nil _⟩ ?_ ?_
                          · rintro i ys nx t9 I oI C oC D m9 h9 tk9 E9 hi ⟨tl, rfl, htl, hR⟩ hC hx F9 N9 off ne
                            clear lF' lN' rgX eS hC hF hPl hB hz hq1 hq2
                            (try k_fold)
                            ((repeat' (first | ((with_reducible refine Halt.mk ?_); first | (safely (with_reducible (k_here; (with_reducible show wpAny _ _ (call (Value.ref 105) [Value.ref _, Value.int _ _]) _ _ _); (rename Pl _ _ _ _ _ _ (turned _ _ _) => hT9zq); k_dflt (refine' smoothed_con _ _ _ _ _ _ _ _ hT9zq ?kazq ?kbzq _ _ _ _ _ _ _ _ _ _ _ _ _ _ _ _ _ ?k1zq ?k2zq ?k3zq ?k4zq ?k5zq ?kKzq ?kdzq ?kuzq ?_; (case k1zq => k_asm); (case k2zq => k_asm); (case k3zq => k_asm); (case k4zq => k_asm); (case k5zq => k_asm); (case kazq => assumption); (case kbzq => assumption); (case kKzq => first | exact rfl | assumption); (case kdzq => ktr_room); (case kuzq => ktr_units)); (intro r9zq news9zq h9zq tk9zq F9zq N9zq hOzq; obtain ⟨q9zq, c9zq, tl9zq, e2zq, -, hG9zq, hP9zq, -⟩ := hOzq; subst e2zq); (with_unfolding_all (have hS9zq := hP9zq.rs; have hA9zq := hP9zq.pl; obtain ⟨dx9zq, w1zq, w2zq, w3zq, w4zq, w5zq, n9zq, hp1zq, hp2zq⟩ := hA9zq)); ((try dsimp only); (try k_fold))))) | (safely (with_reducible (k_here; (with_reducible show wpAny _ _ (call (Value.ref 100) [Value.ref _, Value.str _ _]) _ _ _); k_dflt (refine' turned_con _ _ _ _ _ _ _ _ ?khzq ?kwzq _ _ _ _ _ _ _ _ _ _ _ _ _ _ _ _ _ ?k1zq ?k2zq ?k3zq ?k4zq ?k5zq ?kKzq ?kdzq ?kuzq ?_; (case k1zq => k_asm); (case k2zq => k_asm); (case k3zq => k_asm); (case k4zq => k_asm); (case k5zq => k_asm); (case khzq => refine Pl.mono (by assumption) ?_; intro q9zq hq9zq; (repeat (first | exact hq9zq | refine List.mem_cons_of_mem _ ?_ | refine Grows.sub (by assumption) _ ?_))); (case kwzq => assumption); (case kKzq => first | exact rfl | assumption); (case kdzq => ktr_room); (case kuzq => ktr_units)); (intro r9zq news9zq h9zq tk9zq F9zq N9zq hOzq; obtain ⟨q9zq, c9zq, e2zq, hG9zq, hP9zq⟩ := hOzq; subst e2zq); (with_unfolding_all (have hS9zq := hP9zq.rs; have hA9zq := hP9zq.pl; obtain ⟨dx9zq, w1zq, w2zq, w3zq, w4zq, w5zq, n9zq, hp1zq, hp2zq⟩ := hA9zq)); ((try dsimp only); (try k_fold))))) | (safely (with_reducible (k_here; (with_reducible show wpAny _ _ (compareOp CmpOp.Eq (Value.ref _) (Value.ref _)) _ _ _); k_dflt (refine' rows_eq ?Nzq ?azq ?bzq ?czq ?dzq ?uzq ?_; (case Nzq => k_asm); (case azq => assumption); (case czq => assumption); (case bzq => intro q9zq hq9zq; (repeat (first | exact hq9zq | refine List.mem_cons_of_mem _ ?_ | refine List.mem_append.mpr (.inr ?_) | refine Grows.sub (by assumption) _ ?_))); (case dzq => first | exact fun q9zq hq9zq => hq9zq | (intro q9zq hq9zq; (repeat (first | exact hq9zq | refine List.mem_cons_of_mem _ ?_ | refine List.mem_append.mpr (.inr ?_) | refine Grows.sub (by assumption) _ ?_))) | assumption); (case uzq => ktr_units))))) | (safely (with_reducible (k_here; (with_reducible show wpAny _ _ (call (Value.ref 154) [Value.ref _, Value.ref _, Value.int _ _]) _ _ _); k_dflt (refine' right_con' _ _ _ _ _ _ _ _ _ _ _ ?h1zq ?h2zq ?hszq ?htzq ?h3zq ?h4zq ?h5zq ?h6zq ?h7zq ?h8zq ?h9zq ?hazq ?hbzq ?hczq ?hezq _ _ _ _ _ _ _ _ _ _ _ _ _ _ _ _ _ ?k1zq ?k2zq ?k3zq ?k4zq ?k5zq ?kKzq ?kdzq ?kuzq ?_; (case k1zq => k_asm); (case k2zq => k_asm); (case k3zq => k_asm); (case k4zq => k_asm); (case k5zq => k_asm); (case h1zq => assumption); (case h2zq => assumption); (case hszq => intro q9zq hq9zq; (repeat (first | exact hq9zq | refine List.mem_cons_of_mem _ ?_))); (case htzq => intro q9zq hq9zq; (repeat (first | exact hq9zq | refine List.mem_cons_of_mem _ ?_))); (case h4zq => assumption); (case hbzq => assumption); (case h5zq => assumption); (case h6zq => assumption); (case h3zq => exact rfl); (case h7zq => assumption); (case h8zq => assumption); (case h9zq => assumption); (case hazq => assumption); (case hczq => assumption); (case hezq => assumption); (case kKzq => first | exact rfl | assumption); (case kdzq => ktr_room); (case kuzq => ktr_units)); (intro r9zq news9zq h9zq tk9zq F9zq N9zq hOzq; obtain ⟨e2zq, hG9zq⟩ := hOzq; subst e2zq; (try dsimp only); (try k_fold))))) | (safely (with_reducible (k_here; (with_reducible show wpAny _ _ (compareOp CmpOp.NotEq (Value.ref _) (Value.ref _)) _ _ _); k_dflt (first | (refine' ne_three ?Nzq ?azq ?bzq ?czq ?dzq ?ezq ?fzq ?uzq ?_; (case Nzq => k_asm); (case azq => k_mem); (case bzq => k_mem); (case czq => rfl); (case dzq => rfl); (case ezq => rfl); (case fzq => rfl); (case uzq => ktr_units)) | (refine' rows_ne ?Nzq ?azq ?bzq ?czq ?dzq ?uzq ?_; (case Nzq => k_asm); (case azq => assumption); (case czq => assumption); (case bzq => intro q9zq hq9zq; k_mem); (case dzq => intro q9zq hq9zq; k_mem); (case uzq => ktr_units))); (try simp only [eq_self, decide_true, Bool.not_true])))) | (safely (with_reducible (k_here; (with_reducible show wpAny _ _ (call (Value.ref 105) [Value.ref _, Value.int _ _]) _ _ _); k_dflt (refine' smoothed_con _ _ _ _ _ _ _ _ ?khzq ?kazq ?kbzq _ _ _ _ _ _ _ _ _ _ _ _ _ _ _ _ _ ?k1zq ?k2zq ?k3zq ?k4zq ?k5zq ?kKzq ?kdzq ?kuzq ?_; (case k1zq => k_asm); (case k2zq => k_asm); (case k3zq => k_asm); (case k4zq => k_asm); (case k5zq => k_asm); (case khzq => refine Pl.mono (by assumption) ?_; intro q9zq hq9zq; (repeat (first | assumption | refine List.mem_cons_of_mem _ ?_ | refine Grows.sub (by assumption) _ ?_))); (case kazq => assumption); (case kbzq => assumption); (case kKzq => first | exact rfl | assumption); (case kdzq => ktr_room); (case kuzq => ktr_units)); (intro r9zq news9zq h9zq tk9zq F9zq N9zq hOzq; obtain ⟨q9zq, c9zq, tl9zq, e2zq, etl9zq, hG9zq, hP9zq, hR9zq⟩ := hOzq; subst e2zq; (try dsimp only); (try k_fold))))) | (safely (with_reducible (k_here; (with_reducible show wpAny _ _ (call (Value.ref 161) [Value.ref _, Value.int _ _]) _ _ _); k_dflt (refine' refused_con _ _ _ _ ?khzq _ _ _ _ _ _ _ _ _ _ _ _ _ _ _ ?k1zq ?k2zq ?k3zq ?k4zq ?k5zq ?kKzq ?kdzq ?kuzq ?_; (case k1zq => k_asm); (case k2zq => k_asm); (case k3zq => k_asm); (case k4zq => k_asm); (case k5zq => k_asm); (case khzq => first | exact .inl (by omega) | exact .inr (by omega)); (case kKzq => first | exact rfl | assumption); (case kdzq => ktr_room); (case kuzq => ktr_units)); (intro r9zq news9zq h9zq tk9zq F9zq N9zq hOzq; obtain ⟨e2zq, e1zq⟩ := hOzq; rw [e1zq] at N9zq; clear e1zq; subst e2zq; (try dsimp only); (try k_fold))))) | (safely (with_reducible (k_here; (with_reducible show wpAny _ _ (call (Value.ref 84) [Value.int _ _, Value.int _ _, Value.ref _]) _ _ _); k_dflt (refine' plane_con _ _ _ _ _ _ _ _ _ _ _ _ _ _ _ _ _ _ _ _ _ _ _ ?k1zq ?k2zq ?k3zq ?k4zq ?k5zq ?kKzq ?kdzq ?kuzq ?_; (case k1zq => k_asm); (case k2zq => k_asm); (case k3zq => k_asm); (case k4zq => k_asm); (case k5zq => k_asm); (case kKzq => first | exact rfl | assumption); (case kdzq => ktr_room); (case kuzq => ktr_units)); (intro r9zq news9zq h9zq tk9zq F9zq N9zq hOzq; obtain ⟨q9zq, e2zq, hG9zq, hP9zq⟩ := hOzq; subst e2zq; (try dsimp only); (try k_fold))))) | (safely (with_reducible (k_here; (with_reducible show wpAny _ _ (call (Value.builtin "len") [Value.ref _]) _ _ _); k_dflt (refine' len_led ?Nzq ?mzq ?ezq ?azq ?bzq ?_; (case Nzq => k_asm); (case mzq => k_mem); (case ezq => assumption); (case azq => assumption); (case bzq => assumption))))) | (safely (with_reducible (k_here; (with_reducible show wpAny _ _ (subscriptTail (PySem.Expr.Subscript _ _ _) (PySem.Expr.Constant _ _ _) (Value.ref _) (Value.int _ _)) _ _ _); (with_unfolding_all refine' int_itemB ?Nzq ?mzq ?izq ?dzq ?ezq ?azq ?bzq ?czq ?_ ?szq; (case izq => with_reducible assumption); (case Nzq => with_reducible assumption); (case mzq => (repeat (first | with_reducible assumption | refine List.mem_cons_of_mem _ ?_ | refine List.mem_append.mpr (.inr ?_)))); (case dzq => with_reducible assumption); (case ezq => with_reducible assumption); (case azq => omega); (case bzq => omega); (case czq => omega); (case szq => with_unfolding_all rfl)); k_whole; intro t9zq a9zq ea9zq la9zq lb9zq))) | (safely (with_reducible (k_here; (with_reducible show wpAny _ _ (subscriptTail (PySem.Expr.Name _ _) (PySem.Expr.Constant _ _ _) (Value.ref _) (Value.int _ _)) _ _ _); (with_unfolding_all refine' row_itemB ?Nzq ?mzq ?zzq ?dzq ?ezq ?azq ?bzq ?czq ?_ ?szq; (case Nzq => with_reducible assumption); (case mzq => with_reducible assumption); (case dzq => with_reducible assumption); (case ezq => with_reducible assumption); (case zzq => intro q9zq hq9zq; (repeat (first | exact hq9zq | refine List.mem_cons_of_mem _ ?_ | refine List.mem_append.mpr (.inr ?_)))); (case azq => omega); (case bzq => omega); (case czq => omega); (case szq => with_unfolding_all rfl)); k_whole; intro c9zq us9zq n9zq hm9zq hi9zq hu9zq hl9zq hc9zq))) | (safely (with_reducible (k_here; (with_reducible show wpAny _ _ (call (Value.ref 133) [Value.ref _, Value.ref _]) _ _ _); k_dflt (refine' one_con _ _ _ _ _ _ _ _ _ _ _ ?kszq ?knzq ?klzq ?kvzq ?kwzq ?kazq ?kbzq ?kczq _ _ _ _ _ _ _ _ _ _ _ _ _ _ _ _ _ ?k1zq ?k2zq ?k3zq ?k4zq ?k5zq ?kKzq ?kdzq ?kuzq ?_; (case k1zq => k_asm); (case k2zq => k_asm); (case k3zq => k_asm); (case k4zq => k_asm); (case k5zq => k_asm); (case kszq => first | exact SplitL.here | exact SplitL.there .here | exact SplitL.there (.there .here) | exact SplitL.there (.there (.there .here)) | exact SplitL.there (.there (.there (.there .here))) | exact SplitL.there (.there (.there (.there (.there .here)))) | exact SplitL.there (.there (.there (.there (.there (.there .here))))) | exact SplitL.there (.there (.there (.there (.there (.there (.there .here))))))); (case knzq => k_all); (case klzq => k_mem); (case kvzq => exact Nat.zero_lt_succ _); (case kwzq => exact Nat.le_of_ble_eq_true rfl); (case kazq => assumption); (case kbzq => assumption); (case kczq => assumption); (case kKzq => first | exact rfl | assumption); (case kdzq => ktr_room); (case kuzq => ktr_units)); (intro r9zq news9zq h9zq tk9zq F9zq N9zq hOzq; obtain ⟨i9zq, a9zq, b9zq, t9zq, u9zq, n9zq, e2zq, a90zq, b90zq, b91zq, e1zq⟩ := hOzq; rw [e1zq] at N9zq; clear e1zq; (first | (have hp9zq := pick4 e2zq) | (have hp9zq := pick7 e2zq) | (have hp9zq := pickS e2zq)); obtain ⟨x9zq, tx9zq, ex9zq, hx9zq⟩ := hp9zq; clear e2zq; subst ex9zq; (try dsimp only); (try k_fold))))) | (safely (with_reducible (k_here; (with_reducible show wpAny _ _ (call (Value.ref 126) [Value.ref _, Value.int _ _]) _ _ _); k_dflt (refine' take_con _ _ _ _ _ _ _ _ _ _ ?kszq ?knzq ?kazq ?kbzq ?kczq ?ktzq ?kpzq _ _ _ _ _ _ _ _ _ _ _ _ _ _ _ _ _ ?k1zq ?k2zq ?k3zq ?k4zq ?k5zq ?kKzq ?kdzq ?kuzq ?_; (case k1zq => k_asm); (case k2zq => k_asm); (case k3zq => k_asm); (case k4zq => k_asm); (case k5zq => k_asm); (case kszq => first | exact SplitL.here | exact SplitL.there .here | exact SplitL.there (.there .here) | exact SplitL.there (.there (.there .here)) | exact SplitL.there (.there (.there (.there .here))) | exact SplitL.there (.there (.there (.there (.there .here)))) | exact SplitL.there (.there (.there (.there (.there (.there .here))))) | exact SplitL.there (.there (.there (.there (.there (.there (.there .here))))))); (case knzq => k_all); (case kazq => assumption); (case kbzq => assumption); (case kczq => assumption); (case ktzq => first | decide | assumption | omega); (case kpzq => first | decide | assumption | omega); (case kKzq => first | exact rfl | assumption); (case kdzq => ktr_room); (case kuzq => ktr_units)); (intro r9zq news9zq h9zq tk9zq F9zq N9zq hOzq; obtain ⟨d9zq, td9zq, a9zq, b9zq, t9zq, u9zq, n9zq, e2zq, d0zq, d1zq, a90zq, b90zq, b91zq, e1zq⟩ := hOzq; rw [e1zq] at N9zq; clear e1zq; subst e2zq; (try dsimp only); (try k_fold))))) | (have tokzq : PassTok := PassTok.mk; walk1 <;> (try clear tokzq))) | (k_unfold; (try dsimp only)) | (k_end; wrow_close) | walk1 | (dsimp only; walk1) | (leave1; walk_say "STEP leave1"; try dsimp only) | fail "no step")); (all_goals (try (with_reducible refine Halt.mk ?_))))
                            rename News _ _ _ _ => lN'
                            rename (_ ∧ _ ∧ _ ∧ _ ∧ _ ∧ _ ∧ _ ∧ _ ∧ _ ∧ AllLt _ _) => lo
                            rename (_ = (rows.getD _ []).getD _ 0) => ea
                            rw [ea] at lN'
                            refine LCg.CompEnd.intro (by assumption) lN' ((S, oS) :: (sQ.heap.objs.size + 1 + 1 + 1 + 1, o4) :: (sQ.heap.objs.size + 1 + 1 + 1, o3) :: (sQ.heap.objs.size + 1 + 1, o2) :: (sQ.heap.objs.size + 1, o1) :: ((_ :: tl) ++ rest)) perm10 ⟨off.1, off.2.1, off.2.2.1, off.2.2.2.1, off.2.2.2.2.1, ⟨Nat.ne_of_gt lo.2.1, Nat.ne_of_gt lo.2.2.1, Nat.ne_of_gt lo.2.2.2.1⟩, off.2.2.2.2.2⟩ trivial ⟨_ :: tl, rfl, List.forall_mem_cons.mpr ⟨⟨Nat.ne_of_gt lo.2.2.2.2.1, Nat.ne_of_gt lo.2.2.2.2.2.1, Nat.ne_of_gt lo.2.2.2.2.2.2.1, Nat.ne_of_gt lo.2.2.2.2.2.2.2.1, Nat.ne_of_gt lo.2.2.2.2.2.2.2.2.1⟩, htl⟩, ?_⟩
                            rw [List.replicate_succ']
                            exact RowVals.snoc (hR.mono fun q hq => List.mem_cons_of_mem _ hq) ⟨_, _, _, rfl, List.mem_cons_self, ints_rep _ _ _⟩
                          · rintro g9 ys nx ⟨tl, rfl, htl, hR⟩
                            unfold LCg.FinE
                            intro D2 h8 tk8 F8 N8 off8
                            clear lF' lN' rgX
                            have hDn := off1_ne off8
                            have d1 : @Ne Nat D2 (sQ.heap.objs.size + 1) := Ne.symm (hDn (sQ.heap.objs.size + 1, o1) (.tail _ (.tail _ (.tail _ (.tail _ (.head _))))))
                            have d2 : @Ne Nat D2 (sQ.heap.objs.size + 1 + 1) := Ne.symm (hDn (sQ.heap.objs.size + 1 + 1, o2) (.tail _ (.tail _ (.tail _ (.head _)))))
                            have d3 : @Ne Nat D2 (sQ.heap.objs.size + 1 + 1 + 1) := Ne.symm (hDn (sQ.heap.objs.size + 1 + 1 + 1, o3) (.tail _ (.tail _ (.head _))))
                            have d4 : @Ne Nat D2 (sQ.heap.objs.size + 1 + 1 + 1 + 1) := Ne.symm (hDn (sQ.heap.objs.size + 1 + 1 + 1 + 1, o4) (.tail _ (.head _)))
                            have d5 : @Ne Nat D2 S := Ne.symm (hDn (S, _) (.head _))
                            have d6 : ∀ q ∈ tl ++ rest, q.1 ≠ D2 := fun q hq => hDn q (.tail _ (.tail _ (.tail _ (.tail _ (.tail _ hq)))))
                            have r4' : ∀ q ∈ tl ++ rest, q.1 ≠ sQ.heap.objs.size + 1 + 1 + 1 + 1 := fun q hq => (List.mem_append.mp hq).elim (fun hq => (htl q hq).2.1) (r4 q)
                            have r3' : ∀ q ∈ tl ++ rest, q.1 ≠ sQ.heap.objs.size + 1 + 1 + 1 := fun q hq => (List.mem_append.mp hq).elim (fun hq => (htl q hq).2.2.1) (r3 q)
                            have r2' : ∀ q ∈ tl ++ rest, q.1 ≠ sQ.heap.objs.size + 1 + 1 := fun q hq => (List.mem_append.mp hq).elim (fun hq => (htl q hq).2.2.2.1) (r2 q)
                            have r1' : ∀ q ∈ tl ++ rest, q.1 ≠ sQ.heap.objs.size + 1 := fun q hq => (List.mem_append.mp hq).elim (fun hq => (htl q hq).2.2.2.2) (r1 q)
                            have rS' : ∀ q ∈ tl ++ rest, q.1 ≠ S := fun q hq => (List.mem_append.mp hq).elim (fun hq => (htl q hq).1) (rS q)
                            have hD : RowsAt ((D2, LCg.lst ys) :: (S, oS) :: (sQ.heap.objs.size + 1 + 1 + 1 + 1, o4) :: (sQ.heap.objs.size + 1 + 1 + 1, o3) :: (sQ.heap.objs.size + 1 + 1, o2) :: (sQ.heap.objs.size + 1, o1) :: (tl ++ rest)) D2 _ := (hR.mono fun q hq => .tail _ (.tail _ (.tail _ (.tail _ (.tail _ (.tail _ (List.mem_append.mpr (.inl hq)))))))).rows (n := ys.length) (b := D2) (.head _)
                            (try k_fold)
                            ((repeat' (first | ((with_reducible refine Halt.mk ?_); first | (safely (with_reducible (k_here; (with_reducible show wpAny _ _ (call (Value.ref 105) [Value.ref _, Value.int _ _]) _ _ _); (rename Pl _ _ _ _ _ _ (turned _ _ _) => hT9zq); k_dflt (refine' smoothed_con _ _ _ _ _ _ _ _ hT9zq ?kazq ?kbzq _ _ _ _ _ _ _ _ _ _ _ _ _ _ _ _ _ ?k1zq ?k2zq ?k3zq ?k4zq ?k5zq ?kKzq ?kdzq ?kuzq ?_; (case k1zq => k_asm); (case k2zq => k_asm); (case k3zq => k_asm); (case k4zq => k_asm); (case k5zq => k_asm); (case kazq => assumption); (case kbzq => assumption); (case kKzq => first | exact rfl | assumption); (case kdzq => ktr_room); (case kuzq => ktr_units)); (intro r9zq news9zq h9zq tk9zq F9zq N9zq hOzq; obtain ⟨q9zq, c9zq, tl9zq, e2zq, -, hG9zq, hP9zq, -⟩ := hOzq; subst e2zq); (with_unfolding_all (have hS9zq := hP9zq.rs; have hA9zq := hP9zq.pl; obtain ⟨dx9zq, w1zq, w2zq, w3zq, w4zq, w5zq, n9zq, hp1zq, hp2zq⟩ := hA9zq)); ((try dsimp only); (try k_fold))))) | (safely (with_reducible (k_here; (with_reducible show wpAny _ _ (call (Value.ref 100) [Value.ref _, Value.str _ _]) _ _ _); k_dflt (refine' turned_con _ _ _ _ _ _ _ _ ?khzq ?kwzq _ _ _ _ _ _ _ _ _ _ _ _ _ _ _ _ _ ?k1zq ?k2zq ?k3zq ?k4zq ?k5zq ?kKzq ?kdzq ?kuzq ?_; (case k1zq => k_asm); (case k2zq => k_asm); (case k3zq => k_asm); (case k4zq => k_asm); (case k5zq => k_asm); (case khzq => refine Pl.mono (by assumption) ?_; intro q9zq hq9zq; (repeat (first | exact hq9zq | refine List.mem_cons_of_mem _ ?_ | refine Grows.sub (by assumption) _ ?_))); (case kwzq => assumption); (case kKzq => first | exact rfl | assumption); (case kdzq => ktr_room); (case kuzq => ktr_units)); (intro r9zq news9zq h9zq tk9zq F9zq N9zq hOzq; obtain ⟨q9zq, c9zq, e2zq, hG9zq, hP9zq⟩ := hOzq; subst e2zq); (with_unfolding_all (have hS9zq := hP9zq.rs; have hA9zq := hP9zq.pl; obtain ⟨dx9zq, w1zq, w2zq, w3zq, w4zq, w5zq, n9zq, hp1zq, hp2zq⟩ := hA9zq)); ((try dsimp only); (try k_fold))))) | (safely (with_reducible (k_here; (with_reducible show wpAny _ _ (compareOp CmpOp.Eq (Value.ref _) (Value.ref _)) _ _ _); k_dflt (refine' rows_eq ?Nzq ?azq ?bzq ?czq ?dzq ?uzq ?_; (case Nzq => k_asm); (case azq => assumption); (case czq => assumption); (case bzq => intro q9zq hq9zq; (repeat (first | exact hq9zq | refine List.mem_cons_of_mem _ ?_ | refine List.mem_append.mpr (.inr ?_) | refine Grows.sub (by assumption) _ ?_))); (case dzq => first | exact fun q9zq hq9zq => hq9zq | (intro q9zq hq9zq; (repeat (first | exact hq9zq | refine List.mem_cons_of_mem _ ?_ | refine List.mem_append.mpr (.inr ?_) | refine Grows.sub (by assumption) _ ?_))) | assumption); (case uzq => ktr_units))))) | (safely (with_reducible (k_here; (with_reducible show wpAny _ _ (call (Value.ref 154) [Value.ref _, Value.ref _, Value.int _ _]) _ _ _); k_dflt (refine' right_con' _ _ _ _ _ _ _ _ _ _ _ ?h1zq ?h2zq ?hszq ?htzq ?h3zq ?h4zq ?h5zq ?h6zq ?h7zq ?h8zq ?h9zq ?hazq ?hbzq ?hczq ?hezq _ _ _ _ _ _ _ _ _ _ _ _ _ _ _ _ _ ?k1zq ?k2zq ?k3zq ?k4zq ?k5zq ?kKzq ?kdzq ?kuzq ?_; (case k1zq => k_asm); (case k2zq => k_asm); (case k3zq => k_asm); (case k4zq => k_asm); (case k5zq => k_asm); (case h1zq => assumption); (case h2zq => assumption); (case hszq => intro q9zq hq9zq; (repeat (first | exact hq9zq | refine List.mem_cons_of_mem _ ?_))); (case htzq => intro q9zq hq9zq; (repeat (first | exact hq9zq | refine List.mem_cons_of_mem _ ?_))); (case h4zq => assumption); (case hbzq => assumption); (case h5zq => assumption); (case h6zq => assumption); (case h3zq => exact rfl); (case h7zq => assumption); (case h8zq => assumption); (case h9zq => assumption); (case hazq => assumption); (case hczq => assumption); (case hezq => assumption); (case kKzq => first | exact rfl | assumption); (case kdzq => ktr_room); (case kuzq => ktr_units)); (intro r9zq news9zq h9zq tk9zq F9zq N9zq hOzq; obtain ⟨e2zq, hG9zq⟩ := hOzq; subst e2zq; (try dsimp only); (try k_fold))))) | (safely (with_reducible (k_here; (with_reducible show wpAny _ _ (compareOp CmpOp.NotEq (Value.ref _) (Value.ref _)) _ _ _); k_dflt (first | (refine' ne_three ?Nzq ?azq ?bzq ?czq ?dzq ?ezq ?fzq ?uzq ?_; (case Nzq => k_asm); (case azq => k_mem); (case bzq => k_mem); (case czq => rfl); (case dzq => rfl); (case ezq => rfl); (case fzq => rfl); (case uzq => ktr_units)) | (refine' rows_ne ?Nzq ?azq ?bzq ?czq ?dzq ?uzq ?_; (case Nzq => k_asm); (case azq => assumption); (case czq => assumption); (case bzq => intro q9zq hq9zq; k_mem); (case dzq => intro q9zq hq9zq; k_mem); (case uzq => ktr_units))); (try simp only [eq_self, decide_true, Bool.not_true])))) | (safely (with_reducible (k_here; (with_reducible show wpAny _ _ (call (Value.ref 105) [Value.ref _, Value.int _ _]) _ _ _); k_dflt (refine' smoothed_con _ _ _ _ _ _ _ _ ?khzq ?kazq ?kbzq _ _ _ _ _ _ _ _ _ _ _ _ _ _ _ _ _ ?k1zq ?k2zq ?k3zq ?k4zq ?k5zq ?kKzq ?kdzq ?kuzq ?_; (case k1zq => k_asm); (case k2zq => k_asm); (case k3zq => k_asm); (case k4zq => k_asm); (case k5zq => k_asm); (case khzq => refine Pl.mono (by assumption) ?_; intro q9zq hq9zq; (repeat (first | assumption | refine List.mem_cons_of_mem _ ?_ | refine Grows.sub (by assumption) _ ?_))); (case kazq => assumption); (case kbzq => assumption); (case kKzq => first | exact rfl | assumption); (case kdzq => ktr_room); (case kuzq => ktr_units)); (intro r9zq news9zq h9zq tk9zq F9zq N9zq hOzq; obtain ⟨q9zq, c9zq, tl9zq, e2zq, etl9zq, hG9zq, hP9zq, hR9zq⟩ := hOzq; subst e2zq; (try dsimp only); (try k_fold))))) | (safely (with_reducible (k_here; (with_reducible show wpAny _ _ (call (Value.ref 161) [Value.ref _, Value.int _ _]) _ _ _); k_dflt (refine' refused_con _ _ _ _ ?khzq _ _ _ _ _ _ _ _ _ _ _ _ _ _ _ ?k1zq ?k2zq ?k3zq ?k4zq ?k5zq ?kKzq ?kdzq ?kuzq ?_; (case k1zq => k_asm); (case k2zq => k_asm); (case k3zq => k_asm); (case k4zq => k_asm); (case k5zq => k_asm); (case khzq => first | exact .inl (by omega) | exact .inr (by omega)); (case kKzq => first | exact rfl | assumption); (case kdzq => ktr_room); (case kuzq => ktr_units)); (intro r9zq news9zq h9zq tk9zq F9zq N9zq hOzq; obtain ⟨e2zq, e1zq⟩ := hOzq; rw [e1zq] at N9zq; clear e1zq; subst e2zq; (try dsimp only); (try k_fold))))) | (safely (with_reducible (k_here; (with_reducible show wpAny _ _ (call (Value.ref 84) [Value.int _ _, Value.int _ _, Value.ref _]) _ _ _); k_dflt (refine' plane_con _ _ _ _ _ _ _ _ _ _ _ _ _ _ _ _ _ _ _ _ _ _ _ ?k1zq ?k2zq ?k3zq ?k4zq ?k5zq ?kKzq ?kdzq ?kuzq ?_; (case k1zq => k_asm); (case k2zq => k_asm); (case k3zq => k_asm); (case k4zq => k_asm); (case k5zq => k_asm); (case kKzq => first | exact rfl | assumption); (case kdzq => ktr_room); (case kuzq => ktr_units)); (intro r9zq news9zq h9zq tk9zq F9zq N9zq hOzq; obtain ⟨q9zq, e2zq, hG9zq, hP9zq⟩ := hOzq; subst e2zq; (try dsimp only); (try k_fold))))) | (safely (with_reducible (k_here; (with_reducible show wpAny _ _ (call (Value.builtin "len") [Value.ref _]) _ _ _); k_dflt (refine' len_led ?Nzq ?mzq ?ezq ?azq ?bzq ?_; (case Nzq => k_asm); (case mzq => k_mem); (case ezq => assumption); (case azq => assumption); (case bzq => assumption))))) | (safely (with_reducible (k_here; (with_reducible show wpAny _ _ (subscriptTail (PySem.Expr.Subscript _ _ _) (PySem.Expr.Constant _ _ _) (Value.ref _) (Value.int _ _)) _ _ _); (with_unfolding_all refine' int_itemB ?Nzq ?mzq ?izq ?dzq ?ezq ?azq ?bzq ?czq ?_ ?szq; (case izq => with_reducible assumption); (case Nzq => with_reducible assumption); (case mzq => (repeat (first | with_reducible assumption | refine List.mem_cons_of_mem _ ?_ | refine List.mem_append.mpr (.inr ?_)))); (case dzq => with_reducible assumption); (case ezq => with_reducible assumption); (case azq => omega); (case bzq => omega); (case czq => omega); (case szq => with_unfolding_all rfl)); k_whole; intro t9zq a9zq ea9zq la9zq lb9zq))) | (safely (with_reducible (k_here; (with_reducible show wpAny _ _ (subscriptTail (PySem.Expr.Name _ _) (PySem.Expr.Constant _ _ _) (Value.ref _) (Value.int _ _)) _ _ _); (with_unfolding_all refine' row_itemB ?Nzq ?mzq ?zzq ?dzq ?ezq ?azq ?bzq ?czq ?_ ?szq; (case Nzq => with_reducible assumption); (case mzq => with_reducible assumption); (case dzq => with_reducible assumption); (case ezq => with_reducible assumption); (case zzq => intro q9zq hq9zq; (repeat (first | exact hq9zq | refine List.mem_cons_of_mem _ ?_ | refine List.mem_append.mpr (.inr ?_)))); (case azq => omega); (case bzq => omega); (case czq => omega); (case szq => with_unfolding_all rfl)); k_whole; intro c9zq us9zq n9zq hm9zq hi9zq hu9zq hl9zq hc9zq))) | (safely (with_reducible (k_here; (with_reducible show wpAny _ _ (call (Value.ref 133) [Value.ref _, Value.ref _]) _ _ _); k_dflt (refine' one_con _ _ _ _ _ _ _ _ _ _ _ ?kszq ?knzq ?klzq ?kvzq ?kwzq ?kazq ?kbzq ?kczq _ _ _ _ _ _ _ _ _ _ _ _ _ _ _ _ _ ?k1zq ?k2zq ?k3zq ?k4zq ?k5zq ?kKzq ?kdzq ?kuzq ?_; (case k1zq => k_asm); (case k2zq => k_asm); (case k3zq => k_asm); (case k4zq => k_asm); (case k5zq => k_asm); (case kszq => first | exact SplitL.here | exact SplitL.there .here | exact SplitL.there (.there .here) | exact SplitL.there (.there (.there .here)) | exact SplitL.there (.there (.there (.there .here))) | exact SplitL.there (.there (.there (.there (.there .here)))) | exact SplitL.there (.there (.there (.there (.there (.there .here))))) | exact SplitL.there (.there (.there (.there (.there (.there (.there .here))))))); (case knzq => k_all); (case klzq => k_mem); (case kvzq => exact Nat.zero_lt_succ _); (case kwzq => exact Nat.le_of_ble_eq_true rfl); (case kazq => assumption); (case kbzq => assumption); (case kczq => assumption); (case kKzq => first | exact rfl | assumption); (case kdzq => ktr_room); (case kuzq => ktr_units)); (intro r9zq news9zq h9zq tk9zq F9zq N9zq hOzq; obtain ⟨i9zq, a9zq, b9zq, t9zq, u9zq, n9zq, e2zq, a90zq, b90zq, b91zq, e1zq⟩ := hOzq; rw [e1zq] at N9zq; clear e1zq; (first | (have hp9zq := pick4 e2zq) | (have hp9zq := pick7 e2zq) | (have hp9zq := pickS e2zq)); obtain ⟨x9zq, tx9zq, ex9zq, hx9zq⟩ := hp9zq; clear e2zq; subst ex9zq; (try dsimp only); (try k_fold))))) | (safely (with_reducible (k_here; (with_reducible show wpAny _ _ (call (Value.ref 126) [Value.ref _, Value.int _ _]) _ _ _); k_dflt (refine' take_con _ _ _ _ _ _ _ _ _ _ ?kszq ?knzq ?kazq ?kbzq ?kczq ?ktzq ?kpzq _ _ _ _ _ _ _ _ _ _ _ _ _ _ _ _ _ ?k1zq ?k2zq ?k3zq ?k4zq ?k5zq ?kKzq ?kdzq ?kuzq ?_; (case k1zq => k_asm); (case k2zq => k_asm); (case k3zq => k_asm); (case k4zq => k_asm); (case k5zq => k_asm); (case kszq => first | exact SplitL.here | exact SplitL.there .here | exact SplitL.there (.there .here) | exact SplitL.there (.there (.there .here)) | exact SplitL.there (.there (.there (.there .here))) | exact SplitL.there (.there (.there (.there (.there .here)))) | exact SplitL.there (.there (.there (.there (.there (.there .here))))) | exact SplitL.there (.there (.there (.there (.there (.there (.there .here))))))); (case knzq => k_all); (case kazq => assumption); (case kbzq => assumption); (case kczq => assumption); (case ktzq => first | decide | assumption | omega); (case kpzq => first | decide | assumption | omega); (case kKzq => first | exact rfl | assumption); (case kdzq => ktr_room); (case kuzq => ktr_units)); (intro r9zq news9zq h9zq tk9zq F9zq N9zq hOzq; obtain ⟨d9zq, td9zq, a9zq, b9zq, t9zq, u9zq, n9zq, e2zq, d0zq, d1zq, a90zq, b90zq, b91zq, e1zq⟩ := hOzq; rw [e1zq] at N9zq; clear e1zq; subst e2zq; (try dsimp only); (try k_fold))))) | (have tokzq : PassTok := PassTok.mk; walk1 <;> (try clear tokzq))) | (k_unfold; (try dsimp only)) | (k_end; wrow_close) | walk1 | (dsimp only; walk1) | (leave1; walk_say "STEP leave1"; try dsimp only) | fail "no step")); (all_goals (try (with_reducible refine Halt.mk ?_))))
                            all_goals (try exact trivial)
                            all_goals first
                              | exact absurd (hz (by assumption)) (by assumption)
                              | (subst eS
                                 exact LSx_mk (S := S) (rest := rest) F8 (sub_news N8 permD) c1 c2 c3 c4 a0 b0 b1' s1' s2' s3' s4' rS r1 r2 r3 r4 (FoundP_mk (W := W) (H := H) (R := R) (rows := rows) (sh := sh) (P := P) (B := B) (F := F) (C := C) rfl rfl (by with_unfolding_all rfl) sh0 sh1 (by with_unfolding_all rfl) (by with_unfolding_all rfl) (by with_unfolding_all rfl) (by with_unfolding_all rfl) hPl hB hF))
                        · clear FA' NA c1 c2 c3 c4 a0 b0 b1' s1' s2' s3' s4' rS r1 r2 r3 r4 ecw ecr ehigh sh0 sh1 eshare eplane ebefore efound hPl hB hF
                          rintro mB hB' tkB S cw cm cr a1 b1 t1 u1 n1 o1 o2 o3 o4 rest FB NB c1 c2 c3 c4 a0 b0 b1' s1' s2' s3' s4' rS r1 r2 r3 r4 hp9
                          refine FoundP_elim hp9 ?_
                          clear hp9
                          rintro W H R rows tW tH sh tS P B F C ecw ecr ehigh sh0 sh1 eshare eplane ebefore efound hPl hB hF
                          rw [ecw] at c2
                          rw [ecr] at c4
                          have FB' := fr_pin (fr_pin (fr_pin (fr_pin (fr_pin FB ehigh) (n := Str.ofString "share") (by with_unfolding_all exact eshare)) (n := Str.ofString "plane") (by with_unfolding_all exact eplane)) (n := Str.ofString "before") (by with_unfolding_all exact ebefore)) (n := Str.ofString "found") (by with_unfolding_all exact efound)
                          clear FB
                          dsimp only
                          refine wpAny_execs_cons ?_
                          refine cut_law FB' (WordP wQ) ?_ ?_
                          · --SC
                            ((repeat' (first | ((with_reducible refine Halt.mk ?_); first | (safely (with_reducible (k_here; (with_reducible show wpAny _ _ (call (Value.ref 105) [Value.ref _, Value.int _ _]) _ _ _); (rename Pl _ _ _ _ _ _ (turned _ _ _) => hT9zq); k_dflt (refine' smoothed_con _ _ _ _ _ _ _ _ hT9zq ?kazq ?kbzq _ _ _ _ _ _ _ _ _ _ _ _ _ _ _ _ _ ?k1zq ?k2zq ?k3zq ?k4zq ?k5zq ?kKzq ?kdzq ?kuzq ?_; (case k1zq => k_asm); (case k2zq => k_asm); (case k3zq => k_asm); (case k4zq => k_asm); (case k5zq => k_asm); (case kazq => assumption); (case kbzq => assumption); (case kKzq => first | exact rfl | assumption); (case kdzq => ktr_room); (case kuzq => ktr_units)); (intro r9zq news9zq h9zq tk9zq F9zq N9zq hOzq; obtain ⟨q9zq, c9zq, tl9zq, e2zq, -, hG9zq, hP9zq, -⟩ := hOzq; subst e2zq); (with_unfolding_all (have hS9zq := hP9zq.rs; have hA9zq := hP9zq.pl; obtain ⟨dx9zq, w1zq, w2zq, w3zq, w4zq, w5zq, n9zq, hp1zq, hp2zq⟩ := hA9zq)); ((try dsimp only); (try k_fold))))) | (safely (with_reducible (k_here; (with_reducible show wpAny _ _ (call (Value.ref 100) [Value.ref _, Value.str _ _]) _ _ _); k_dflt (refine' turned_con _ _ _ _ _ _ _ _ ?khzq ?kwzq _ _ _ _ _ _ _ _ _ _ _ _ _ _ _ _ _ ?k1zq ?k2zq ?k3zq ?k4zq ?k5zq ?kKzq ?kdzq ?kuzq ?_; (case k1zq => k_asm); (case k2zq => k_asm); (case k3zq => k_asm); (case k4zq => k_asm); (case k5zq => k_asm); (case khzq => refine Pl.mono (by assumption) ?_; intro q9zq hq9zq; (repeat (first | exact hq9zq | refine List.mem_cons_of_mem _ ?_ | refine Grows.sub (by assumption) _ ?_))); (case kwzq => assumption); (case kKzq => first | exact rfl | assumption); (case kdzq => ktr_room); (case kuzq => ktr_units)); (intro r9zq news9zq h9zq tk9zq F9zq N9zq hOzq; obtain ⟨q9zq, c9zq, e2zq, hG9zq, hP9zq⟩ := hOzq; subst e2zq); (with_unfolding_all (have hS9zq := hP9zq.rs; have hA9zq := hP9zq.pl; obtain ⟨dx9zq, w1zq, w2zq, w3zq, w4zq, w5zq, n9zq, hp1zq, hp2zq⟩ := hA9zq)); ((try dsimp only); (try k_fold))))) | (safely (with_reducible (k_here; (with_reducible show wpAny _ _ (compareOp CmpOp.Eq (Value.ref _) (Value.ref _)) _ _ _); k_dflt (refine' rows_eq ?Nzq ?azq ?bzq ?czq ?dzq ?uzq ?_; (case Nzq => k_asm); (case azq => assumption); (case czq => assumption); (case bzq => intro q9zq hq9zq; (repeat (first | exact hq9zq | refine List.mem_cons_of_mem _ ?_ | refine List.mem_append.mpr (.inr ?_) | refine Grows.sub (by assumption) _ ?_))); (case dzq => first | exact fun q9zq hq9zq => hq9zq | (intro q9zq hq9zq; (repeat (first | exact hq9zq | refine List.mem_cons_of_mem _ ?_ | refine List.mem_append.mpr (.inr ?_) | refine Grows.sub (by assumption) _ ?_))) | assumption); (case uzq => ktr_units))))) | (safely (with_reducible (k_here; (with_reducible show wpAny _ _ (call (Value.ref 154) [Value.ref _, Value.ref _, Value.int _ _]) _ _ _); k_dflt (refine' right_con' _ _ _ _ _ _ _ _ _ _ _ ?h1zq ?h2zq ?hszq ?htzq ?h3zq ?h4zq ?h5zq ?h6zq ?h7zq ?h8zq ?h9zq ?hazq ?hbzq ?hczq ?hezq _ _ _ _ _ _ _ _ _ _ _ _ _ _ _ _ _ ?k1zq ?k2zq ?k3zq ?k4zq ?k5zq ?kKzq ?kdzq ?kuzq ?_; (case k1zq => k_asm); (case k2zq => k_asm); (case k3zq => k_asm); (case k4zq => k_asm); (case k5zq => k_asm); (case h1zq => assumption); (case h2zq => assumption); (case hszq => intro q9zq hq9zq; (repeat (first | exact hq9zq | refine List.mem_cons_of_mem _ ?_))); (case htzq => intro q9zq hq9zq; (repeat (first | exact hq9zq | refine List.mem_cons_of_mem _ ?_))); (case h4zq => assumption); (case hbzq => assumption); (case h5zq => assumption); (case h6zq => assumption); (case h3zq => exact rfl); (case h7zq => assumption); (case h8zq => assumption); (case h9zq => assumption); (case hazq => assumption); (case hczq => assumption); (case hezq => assumption); (case kKzq => first | exact rfl | assumption); (case kdzq => ktr_room); (case kuzq => ktr_units)); (intro r9zq news9zq h9zq tk9zq F9zq N9zq hOzq; obtain ⟨e2zq, hG9zq⟩ := hOzq; subst e2zq; (try dsimp only); (try k_fold))))) | (safely (with_reducible (k_here; (with_reducible show wpAny _ _ (compareOp CmpOp.NotEq (Value.ref _) (Value.ref _)) _ _ _); k_dflt (first | (refine' ne_three ?Nzq ?azq ?bzq ?czq ?dzq ?ezq ?fzq ?uzq ?_; (case Nzq => k_asm); (case azq => k_mem); (case bzq => k_mem); (case czq => rfl); (case dzq => rfl); (case ezq => rfl); (case fzq => rfl); (case uzq => ktr_units)) | (refine' rows_ne ?Nzq ?azq ?bzq ?czq ?dzq ?uzq ?_; (case Nzq => k_asm); (case azq => assumption); (case czq => assumption); (case bzq => intro q9zq hq9zq; k_mem); (case dzq => intro q9zq hq9zq; k_mem); (case uzq => ktr_units))); (try simp only [eq_self, decide_true, Bool.not_true])))) | (safely (with_reducible (k_here; (with_reducible show wpAny _ _ (call (Value.ref 105) [Value.ref _, Value.int _ _]) _ _ _); k_dflt (refine' smoothed_con _ _ _ _ _ _ _ _ ?khzq ?kazq ?kbzq _ _ _ _ _ _ _ _ _ _ _ _ _ _ _ _ _ ?k1zq ?k2zq ?k3zq ?k4zq ?k5zq ?kKzq ?kdzq ?kuzq ?_; (case k1zq => k_asm); (case k2zq => k_asm); (case k3zq => k_asm); (case k4zq => k_asm); (case k5zq => k_asm); (case khzq => refine Pl.mono (by assumption) ?_; intro q9zq hq9zq; (repeat (first | assumption | refine List.mem_cons_of_mem _ ?_ | refine Grows.sub (by assumption) _ ?_))); (case kazq => assumption); (case kbzq => assumption); (case kKzq => first | exact rfl | assumption); (case kdzq => ktr_room); (case kuzq => ktr_units)); (intro r9zq news9zq h9zq tk9zq F9zq N9zq hOzq; obtain ⟨q9zq, c9zq, tl9zq, e2zq, etl9zq, hG9zq, hP9zq, hR9zq⟩ := hOzq; subst e2zq; (try dsimp only); (try k_fold))))) | (safely (with_reducible (k_here; (with_reducible show wpAny _ _ (call (Value.ref 161) [Value.ref _, Value.int _ _]) _ _ _); k_dflt (refine' refused_con _ _ _ _ ?khzq _ _ _ _ _ _ _ _ _ _ _ _ _ _ _ ?k1zq ?k2zq ?k3zq ?k4zq ?k5zq ?kKzq ?kdzq ?kuzq ?_; (case k1zq => k_asm); (case k2zq => k_asm); (case k3zq => k_asm); (case k4zq => k_asm); (case k5zq => k_asm); (case khzq => first | exact .inl (by omega) | exact .inr (by omega)); (case kKzq => first | exact rfl | assumption); (case kdzq => ktr_room); (case kuzq => ktr_units)); (intro r9zq news9zq h9zq tk9zq F9zq N9zq hOzq; obtain ⟨e2zq, e1zq⟩ := hOzq; rw [e1zq] at N9zq; clear e1zq; subst e2zq; (try dsimp only); (try k_fold))))) | (safely (with_reducible (k_here; (with_reducible show wpAny _ _ (call (Value.ref 84) [Value.int _ _, Value.int _ _, Value.ref _]) _ _ _); k_dflt (refine' plane_con _ _ _ _ _ _ _ _ _ _ _ _ _ _ _ _ _ _ _ _ _ _ _ ?k1zq ?k2zq ?k3zq ?k4zq ?k5zq ?kKzq ?kdzq ?kuzq ?_; (case k1zq => k_asm); (case k2zq => k_asm); (case k3zq => k_asm); (case k4zq => k_asm); (case k5zq => k_asm); (case kKzq => first | exact rfl | assumption); (case kdzq => ktr_room); (case kuzq => ktr_units)); (intro r9zq news9zq h9zq tk9zq F9zq N9zq hOzq; obtain ⟨q9zq, e2zq, hG9zq, hP9zq⟩ := hOzq; subst e2zq; (try dsimp only); (try k_fold))))) | (safely (with_reducible (k_here; (with_reducible show wpAny _ _ (call (Value.builtin "len") [Value.ref _]) _ _ _); k_dflt (refine' len_led ?Nzq ?mzq ?ezq ?azq ?bzq ?_; (case Nzq => k_asm); (case mzq => k_mem); (case ezq => assumption); (case azq => assumption); (case bzq => assumption))))) | (safely (with_reducible (k_here; (with_reducible show wpAny _ _ (subscriptTail (PySem.Expr.Subscript _ _ _) (PySem.Expr.Constant _ _ _) (Value.ref _) (Value.int _ _)) _ _ _); (with_unfolding_all refine' int_itemB ?Nzq ?mzq ?izq ?dzq ?ezq ?azq ?bzq ?czq ?_ ?szq; (case izq => with_reducible assumption); (case Nzq => with_reducible assumption); (case mzq => (repeat (first | with_reducible assumption | refine List.mem_cons_of_mem _ ?_ | refine List.mem_append.mpr (.inr ?_)))); (case dzq => with_reducible assumption); (case ezq => with_reducible assumption); (case azq => omega); (case bzq => omega); (case czq => omega); (case szq => with_unfolding_all rfl)); k_whole; intro t9zq a9zq ea9zq la9zq lb9zq))) | (safely (with_reducible (k_here; (with_reducible show wpAny _ _ (subscriptTail (PySem.Expr.Name _ _) (PySem.Expr.Constant _ _ _) (Value.ref _) (Value.int _ _)) _ _ _); (with_unfolding_all refine' row_itemB ?Nzq ?mzq ?zzq ?dzq ?ezq ?azq ?bzq ?czq ?_ ?szq; (case Nzq => with_reducible assumption); (case mzq => with_reducible assumption); (case dzq => with_reducible assumption); (case ezq => with_reducible assumption); (case zzq => intro q9zq hq9zq; (repeat (first | exact hq9zq | refine List.mem_cons_of_mem _ ?_ | refine List.mem_append.mpr (.inr ?_)))); (case azq => omega); (case bzq => omega); (case czq => omega); (case szq => with_unfolding_all rfl)); k_whole; intro c9zq us9zq n9zq hm9zq hi9zq hu9zq hl9zq hc9zq))) | (safely (with_reducible (k_here; (with_reducible show wpAny _ _ (call (Value.ref 133) [Value.ref _, Value.ref _]) _ _ _); k_dflt (refine' one_con _ _ _ _ _ _ _ _ _ _ _ ?kszq ?knzq ?klzq ?kvzq ?kwzq ?kazq ?kbzq ?kczq _ _ _ _ _ _ _ _ _ _ _ _ _ _ _ _ _ ?k1zq ?k2zq ?k3zq ?k4zq ?k5zq ?kKzq ?kdzq ?kuzq ?_; (case k1zq => k_asm); (case k2zq => k_asm); (case k3zq => k_asm); (case k4zq => k_asm); (case k5zq => k_asm); (case kszq => first | exact SplitL.here | exact SplitL.there .here | exact SplitL.there (.there .here) | exact SplitL.there (.there (.there .here)) | exact SplitL.there (.there (.there (.there .here))) | exact SplitL.there (.there (.there (.there (.there .here)))) | exact SplitL.there (.there (.there (.there (.there (.there .here))))) | exact SplitL.there (.there (.there (.there (.there (.there (.there .here))))))); (case knzq => k_all); (case klzq => k_mem); (case kvzq => exact Nat.zero_lt_succ _); (case kwzq => exact Nat.le_of_ble_eq_true rfl); (case kazq => assumption); (case kbzq => assumption); (case kczq => assumption); (case kKzq => first | exact rfl | assumption); (case kdzq => ktr_room); (case kuzq => ktr_units)); (intro r9zq news9zq h9zq tk9zq F9zq N9zq hOzq; obtain ⟨i9zq, a9zq, b9zq, t9zq, u9zq, n9zq, e2zq, a90zq, b90zq, b91zq, e1zq⟩ := hOzq; rw [e1zq] at N9zq; clear e1zq; (first | (have hp9zq := pick4 e2zq) | (have hp9zq := pick7 e2zq) | (have hp9zq := pickS e2zq)); obtain ⟨x9zq, tx9zq, ex9zq, hx9zq⟩ := hp9zq; clear e2zq; subst ex9zq; (try dsimp only); (try k_fold))))) | (safely (with_reducible (k_here; (with_reducible show wpAny _ _ (call (Value.ref 126) [Value.ref _, Value.int _ _]) _ _ _); k_dflt (refine' take_con _ _ _ _ _ _ _ _ _ _ ?kszq ?knzq ?kazq ?kbzq ?kczq ?ktzq ?kpzq _ _ _ _ _ _ _ _ _ _ _ _ _ _ _ _ _ ?k1zq ?k2zq ?k3zq ?k4zq ?k5zq ?kKzq ?kdzq ?kuzq ?_; (case k1zq => k_asm); (case k2zq => k_asm); (case k3zq => k_asm); (case k4zq => k_asm); (case k5zq => k_asm); (case kszq => first | exact SplitL.here | exact SplitL.there .here | exact SplitL.there (.there .here) | exact SplitL.there (.there (.there .here)) | exact SplitL.there (.there (.there (.there .here))) | exact SplitL.there (.there (.there (.there (.there .here)))) | exact SplitL.there (.there (.there (.there (.there (.there .here))))) | exact SplitL.there (.there (.there (.there (.there (.there (.there .here))))))); (case knzq => k_all); (case kazq => assumption); (case kbzq => assumption); (case kczq => assumption); (case ktzq => first | decide | assumption | omega); (case kpzq => first | decide | assumption | omega); (case kKzq => first | exact rfl | assumption); (case kdzq => ktr_room); (case kuzq => ktr_units)); (intro r9zq news9zq h9zq tk9zq F9zq N9zq hOzq; obtain ⟨d9zq, td9zq, a9zq, b9zq, t9zq, u9zq, n9zq, e2zq, d0zq, d1zq, a90zq, b90zq, b91zq, e1zq⟩ := hOzq; rw [e1zq] at N9zq; clear e1zq; subst e2zq; (try dsimp only); (try k_fold))))) | (have tokzq : PassTok := PassTok.mk; walk1 <;> (try clear tokzq))) | (k_unfold; (try dsimp only)) | (k_end; wrow_close) | walk1 | (dsimp only; walk1) | (leave1; walk_say "STEP leave1"; try dsimp only) | fail "no step")); (all_goals (try (with_reducible refine Halt.mk ?_))))
                            all_goals (try exact trivial)
                            rename Fr _ _ _ _ => lF'
                            rename News _ _ _ _ => lN'
                            rename (_ ∈ [_, _, _, _, _, _, _]) => hx
                            exact LSx_mk (S := S) (rest := rest) lF' (sub_news lN' (sub7' (e := (S, default)))) c1 c2 c3 c4 (by assumption) (by assumption) (by assumption) s1' s2' s3' s4' rS r1 r2 r3 r4 ⟨(FoundP_mk (W := W) (H := H) (R := R) (rows := rows) (sh := sh) (P := P) (B := B) (F := F) (C := C) rfl rfl (by with_unfolding_all rfl) sh0 sh1 (by with_unfolding_all rfl) (by with_unfolding_all rfl) (by with_unfolding_all rfl) (by with_unfolding_all rfl) hPl hB hF), _, _, by with_unfolding_all exact hx, by with_unfolding_all rfl⟩
                          · clear FB' NB c1 c2 c3 c4 a0 b0 b1' s1' s2' s3' s4' rS r1 r2 r3 r4 ecw ecr ehigh sh0 sh1 eshare eplane ebefore efound hPl hB hF
                            rintro mC hC' tkC S cw cm cr a1 b1 t1 u1 n1 o1 o2 o3 o4 rest FC NC c1 c2 c3 c4 a0 b0 b1' s1' s2' s3' s4' rS r1 r2 r3 r4 ⟨hp9, word, tWd, hword, eword⟩
                            refine FoundP_elim hp9 ?_
                            clear hp9
                            rintro W H R rows tW tH sh tS P B F C ecw ecr ehigh sh0 sh1 eshare eplane ebefore efound hPl hB hF
                            rw [ecw] at c2
                            rw [ecr] at c4
                            have FC' := fr_pin (fr_pin (fr_pin (fr_pin (fr_pin FC ehigh) (n := Str.ofString "share") (by with_unfolding_all exact eshare)) (n := Str.ofString "plane") (by with_unfolding_all exact eplane)) (n := Str.ofString "found") (by with_unfolding_all exact efound)) (n := Str.ofString "word") (by with_unfolding_all exact eword)
                            clear FC
                            dsimp only
                            --SD
                            have hEq := smooth_turned (s := sh) word hPl.hl hPl.wl hPl.h0 hPl.w0
                            ((repeat' (first | ((with_reducible refine Halt.mk ?_); first | (safely (with_reducible (k_here; (with_reducible show wpAny _ _ (call (Value.ref 105) [Value.ref _, Value.int _ _]) _ _ _); (rename Pl _ _ _ _ _ _ (turned _ _ _) => hT9zq); k_dflt (refine' smoothed_con _ _ _ _ _ _ _ _ hT9zq ?kazq ?kbzq _ _ _ _ _ _ _ _ _ _ _ _ _ _ _ _ _ ?k1zq ?k2zq ?k3zq ?k4zq ?k5zq ?kKzq ?kdzq ?kuzq ?_; (case k1zq => k_asm); (case k2zq => k_asm); (case k3zq => k_asm); (case k4zq => k_asm); (case k5zq => k_asm); (case kazq => assumption); (case kbzq => assumption); (case kKzq => first | exact rfl | assumption); (case kdzq => ktr_room); (case kuzq => ktr_units)); (intro r9zq news9zq h9zq tk9zq F9zq N9zq hOzq; obtain ⟨q9zq, c9zq, tl9zq, e2zq, -, hG9zq, hP9zq, -⟩ := hOzq; subst e2zq); (with_unfolding_all (have hS9zq := hP9zq.rs; have hA9zq := hP9zq.pl; obtain ⟨dx9zq, w1zq, w2zq, w3zq, w4zq, w5zq, n9zq, hp1zq, hp2zq⟩ := hA9zq)); ((try dsimp only); (try k_fold))))) | (safely (with_reducible (k_here; (with_reducible show wpAny _ _ (call (Value.ref 100) [Value.ref _, Value.str _ _]) _ _ _); k_dflt (refine' turned_con _ _ _ _ _ _ _ _ ?khzq ?kwzq _ _ _ _ _ _ _ _ _ _ _ _ _ _ _ _ _ ?k1zq ?k2zq ?k3zq ?k4zq ?k5zq ?kKzq ?kdzq ?kuzq ?_; (case k1zq => k_asm); (case k2zq => k_asm); (case k3zq => k_asm); (case k4zq => k_asm); (case k5zq => k_asm); (case khzq => refine Pl.mono (by assumption) ?_; intro q9zq hq9zq; (repeat (first | exact hq9zq | refine List.mem_cons_of_mem _ ?_ | refine Grows.sub (by assumption) _ ?_))); (case kwzq => assumption); (case kKzq => first | exact rfl | assumption); (case kdzq => ktr_room); (case kuzq => ktr_units)); (intro r9zq news9zq h9zq tk9zq F9zq N9zq hOzq; obtain ⟨q9zq, c9zq, e2zq, hG9zq, hP9zq⟩ := hOzq; subst e2zq); (with_unfolding_all (have hS9zq := hP9zq.rs; have hA9zq := hP9zq.pl; obtain ⟨dx9zq, w1zq, w2zq, w3zq, w4zq, w5zq, n9zq, hp1zq, hp2zq⟩ := hA9zq)); ((try dsimp only); (try k_fold))))) | (safely (with_reducible (k_here; (with_reducible show wpAny _ _ (compareOp CmpOp.Eq (Value.ref _) (Value.ref _)) _ _ _); k_dflt (refine' rows_eq ?Nzq ?azq ?bzq ?czq ?dzq ?uzq ?_; (case Nzq => k_asm); (case azq => assumption); (case czq => assumption); (case bzq => intro q9zq hq9zq; (repeat (first | exact hq9zq | refine List.mem_cons_of_mem _ ?_ | refine List.mem_append.mpr (.inr ?_) | refine Grows.sub (by assumption) _ ?_))); (case dzq => first | exact fun q9zq hq9zq => hq9zq | (intro q9zq hq9zq; (repeat (first | exact hq9zq | refine List.mem_cons_of_mem _ ?_ | refine List.mem_append.mpr (.inr ?_) | refine Grows.sub (by assumption) _ ?_))) | assumption); (case uzq => ktr_units))))) | (safely (with_reducible (k_here; (with_reducible show wpAny _ _ (call (Value.ref 154) [Value.ref _, Value.ref _, Value.int _ _]) _ _ _); k_dflt (refine' right_con' _ _ _ _ _ _ _ _ _ _ _ ?h1zq ?h2zq ?hszq ?htzq ?h3zq ?h4zq ?h5zq ?h6zq ?h7zq ?h8zq ?h9zq ?hazq ?hbzq ?hczq ?hezq _ _ _ _ _ _ _ _ _ _ _ _ _ _ _ _ _ ?k1zq ?k2zq ?k3zq ?k4zq ?k5zq ?kKzq ?kdzq ?kuzq ?_; (case k1zq => k_asm); (case k2zq => k_asm); (case k3zq => k_asm); (case k4zq => k_asm); (case k5zq => k_asm); (case h1zq => assumption); (case h2zq => assumption); (case hszq => intro q9zq hq9zq; (repeat (first | exact hq9zq | refine List.mem_cons_of_mem _ ?_))); (case htzq => intro q9zq hq9zq; (repeat (first | exact hq9zq | refine List.mem_cons_of_mem _ ?_))); (case h4zq => assumption); (case hbzq => assumption); (case h5zq => assumption); (case h6zq => assumption); (case h3zq => exact rfl); (case h7zq => assumption); (case h8zq => assumption); (case h9zq => assumption); (case hazq => assumption); (case hczq => assumption); (case hezq => assumption); (case kKzq => first | exact rfl | assumption); (case kdzq => ktr_room); (case kuzq => ktr_units)); (intro r9zq news9zq h9zq tk9zq F9zq N9zq hOzq; obtain ⟨e2zq, hG9zq⟩ := hOzq; subst e2zq; (try dsimp only); (try k_fold))))) | (safely (with_reducible (k_here; (with_reducible show wpAny _ _ (compareOp CmpOp.NotEq (Value.ref _) (Value.ref _)) _ _ _); k_dflt (first | (refine' ne_three ?Nzq ?azq ?bzq ?czq ?dzq ?ezq ?fzq ?uzq ?_; (case Nzq => k_asm); (case azq => k_mem); (case bzq => k_mem); (case czq => rfl); (case dzq => rfl); (case ezq => rfl); (case fzq => rfl); (case uzq => ktr_units)) | (refine' rows_ne ?Nzq ?azq ?bzq ?czq ?dzq ?uzq ?_; (case Nzq => k_asm); (case azq => assumption); (case czq => assumption); (case bzq => intro q9zq hq9zq; k_mem); (case dzq => intro q9zq hq9zq; k_mem); (case uzq => ktr_units))); (try simp only [eq_self, decide_true, Bool.not_true])))) | (safely (with_reducible (k_here; (with_reducible show wpAny _ _ (call (Value.ref 105) [Value.ref _, Value.int _ _]) _ _ _); k_dflt (refine' smoothed_con _ _ _ _ _ _ _ _ ?khzq ?kazq ?kbzq _ _ _ _ _ _ _ _ _ _ _ _ _ _ _ _ _ ?k1zq ?k2zq ?k3zq ?k4zq ?k5zq ?kKzq ?kdzq ?kuzq ?_; (case k1zq => k_asm); (case k2zq => k_asm); (case k3zq => k_asm); (case k4zq => k_asm); (case k5zq => k_asm); (case khzq => refine Pl.mono (by assumption) ?_; intro q9zq hq9zq; (repeat (first | assumption | refine List.mem_cons_of_mem _ ?_ | refine Grows.sub (by assumption) _ ?_))); (case kazq => assumption); (case kbzq => assumption); (case kKzq => first | exact rfl | assumption); (case kdzq => ktr_room); (case kuzq => ktr_units)); (intro r9zq news9zq h9zq tk9zq F9zq N9zq hOzq; obtain ⟨q9zq, c9zq, tl9zq, e2zq, etl9zq, hG9zq, hP9zq, hR9zq⟩ := hOzq; subst e2zq; (try dsimp only); (try k_fold))))) | (safely (with_reducible (k_here; (with_reducible show wpAny _ _ (call (Value.ref 161) [Value.ref _, Value.int _ _]) _ _ _); k_dflt (refine' refused_con _ _ _ _ ?khzq _ _ _ _ _ _ _ _ _ _ _ _ _ _ _ ?k1zq ?k2zq ?k3zq ?k4zq ?k5zq ?kKzq ?kdzq ?kuzq ?_; (case k1zq => k_asm); (case k2zq => k_asm); (case k3zq => k_asm); (case k4zq => k_asm); (case k5zq => k_asm); (case khzq => first | exact .inl (by omega) | exact .inr (by omega)); (case kKzq => first | exact rfl | assumption); (case kdzq => ktr_room); (case kuzq => ktr_units)); (intro r9zq news9zq h9zq tk9zq F9zq N9zq hOzq; obtain ⟨e2zq, e1zq⟩ := hOzq; rw [e1zq] at N9zq; clear e1zq; subst e2zq; (try dsimp only); (try k_fold))))) | (safely (with_reducible (k_here; (with_reducible show wpAny _ _ (call (Value.ref 84) [Value.int _ _, Value.int _ _, Value.ref _]) _ _ _); k_dflt (refine' plane_con _ _ _ _ _ _ _ _ _ _ _ _ _ _ _ _ _ _ _ _ _ _ _ ?k1zq ?k2zq ?k3zq ?k4zq ?k5zq ?kKzq ?kdzq ?kuzq ?_; (case k1zq => k_asm); (case k2zq => k_asm); (case k3zq => k_asm); (case k4zq => k_asm); (case k5zq => k_asm); (case kKzq => first | exact rfl | assumption); (case kdzq => ktr_room); (case kuzq => ktr_units)); (intro r9zq news9zq h9zq tk9zq F9zq N9zq hOzq; obtain ⟨q9zq, e2zq, hG9zq, hP9zq⟩ := hOzq; subst e2zq; (try dsimp only); (try k_fold))))) | (safely (with_reducible (k_here; (with_reducible show wpAny _ _ (call (Value.builtin "len") [Value.ref _]) _ _ _); k_dflt (refine' len_led ?Nzq ?mzq ?ezq ?azq ?bzq ?_; (case Nzq => k_asm); (case mzq => k_mem); (case ezq => assumption); (case azq => assumption); (case bzq => assumption))))) | (safely (with_reducible (k_here; (with_reducible show wpAny _ _ (subscriptTail (PySem.Expr.Subscript _ _ _) (PySem.Expr.Constant _ _ _) (Value.ref _) (Value.int _ _)) _ _ _); (with_unfolding_all refine' int_itemB ?Nzq ?mzq ?izq ?dzq ?ezq ?azq ?bzq ?czq ?_ ?szq; (case izq => with_reducible assumption); (case Nzq => with_reducible assumption); (case mzq => (repeat (first | with_reducible assumption | refine List.mem_cons_of_mem _ ?_ | refine List.mem_append.mpr (.inr ?_)))); (case dzq => with_reducible assumption); (case ezq => with_reducible assumption); (case azq => omega); (case bzq => omega); (case czq => omega); (case szq => with_unfolding_all rfl)); k_whole; intro t9zq a9zq ea9zq la9zq lb9zq))) | (safely (with_reducible (k_here; (with_reducible show wpAny _ _ (subscriptTail (PySem.Expr.Name _ _) (PySem.Expr.Constant _ _ _) (Value.ref _) (Value.int _ _)) _ _ _); (with_unfolding_all refine' row_itemB ?Nzq ?mzq ?zzq ?dzq ?ezq ?azq ?bzq ?czq ?_ ?szq; (case Nzq => with_reducible assumption); (case mzq => with_reducible assumption); (case dzq => with_reducible assumption); (case ezq => with_reducible assumption); (case zzq => intro q9zq hq9zq; (repeat (first | exact hq9zq | refine List.mem_cons_of_mem _ ?_ | refine List.mem_append.mpr (.inr ?_)))); (case azq => omega); (case bzq => omega); (case czq => omega); (case szq => with_unfolding_all rfl)); k_whole; intro c9zq us9zq n9zq hm9zq hi9zq hu9zq hl9zq hc9zq))) | (safely (with_reducible (k_here; (with_reducible show wpAny _ _ (call (Value.ref 133) [Value.ref _, Value.ref _]) _ _ _); k_dflt (refine' one_con _ _ _ _ _ _ _ _ _ _ _ ?kszq ?knzq ?klzq ?kvzq ?kwzq ?kazq ?kbzq ?kczq _ _ _ _ _ _ _ _ _ _ _ _ _ _ _ _ _ ?k1zq ?k2zq ?k3zq ?k4zq ?k5zq ?kKzq ?kdzq ?kuzq ?_; (case k1zq => k_asm); (case k2zq => k_asm); (case k3zq => k_asm); (case k4zq => k_asm); (case k5zq => k_asm); (case kszq => first | exact SplitL.here | exact SplitL.there .here | exact SplitL.there (.there .here) | exact SplitL.there (.there (.there .here)) | exact SplitL.there (.there (.there (.there .here))) | exact SplitL.there (.there (.there (.there (.there .here)))) | exact SplitL.there (.there (.there (.there (.there (.there .here))))) | exact SplitL.there (.there (.there (.there (.there (.there (.there .here))))))); (case knzq => k_all); (case klzq => k_mem); (case kvzq => exact Nat.zero_lt_succ _); (case kwzq => exact Nat.le_of_ble_eq_true rfl); (case kazq => assumption); (case kbzq => assumption); (case kczq => assumption); (case kKzq => first | exact rfl | assumption); (case kdzq => ktr_room); (case kuzq => ktr_units)); (intro r9zq news9zq h9zq tk9zq F9zq N9zq hOzq; obtain ⟨i9zq, a9zq, b9zq, t9zq, u9zq, n9zq, e2zq, a90zq, b90zq, b91zq, e1zq⟩ := hOzq; rw [e1zq] at N9zq; clear e1zq; (first | (have hp9zq := pick4 e2zq) | (have hp9zq := pick7 e2zq) | (have hp9zq := pickS e2zq)); obtain ⟨x9zq, tx9zq, ex9zq, hx9zq⟩ := hp9zq; clear e2zq; subst ex9zq; (try dsimp only); (try k_fold))))) | (safely (with_reducible (k_here; (with_reducible show wpAny _ _ (call (Value.ref 126) [Value.ref _, Value.int _ _]) _ _ _); k_dflt (refine' take_con _ _ _ _ _ _ _ _ _ _ ?kszq ?knzq ?kazq ?kbzq ?kczq ?ktzq ?kpzq _ _ _ _ _ _ _ _ _ _ _ _ _ _ _ _ _ ?k1zq ?k2zq ?k3zq ?k4zq ?k5zq ?kKzq ?kdzq ?kuzq ?_; (case k1zq => k_asm); (case k2zq => k_asm); (case k3zq => k_asm); (case k4zq => k_asm); (case k5zq => k_asm); (case kszq => first | exact SplitL.here | exact SplitL.there .here | exact SplitL.there (.there .here) | exact SplitL.there (.there (.there .here)) | exact SplitL.there (.there (.there (.there .here))) | exact SplitL.there (.there (.there (.there (.there .here)))) | exact SplitL.there (.there (.there (.there (.there (.there .here))))) | exact SplitL.there (.there (.there (.there (.there (.there (.there .here))))))); (case knzq => k_all); (case kazq => assumption); (case kbzq => assumption); (case kczq => assumption); (case ktzq => first | decide | assumption | omega); (case kpzq => first | decide | assumption | omega); (case kKzq => first | exact rfl | assumption); (case kdzq => ktr_room); (case kuzq => ktr_units)); (intro r9zq news9zq h9zq tk9zq F9zq N9zq hOzq; obtain ⟨d9zq, td9zq, a9zq, b9zq, t9zq, u9zq, n9zq, e2zq, d0zq, d1zq, a90zq, b90zq, b91zq, e1zq⟩ := hOzq; rw [e1zq] at N9zq; clear e1zq; subst e2zq; (try dsimp only); (try k_fold))))) | (have tokzq : PassTok := PassTok.mk; walk1 <;> (try clear tokzq))) | (k_unfold; (try dsimp only)) | (k_end; rw [decide_eq_true hEq]; exact law_end (by assumption) (by assumption) rfl) | walk1 | (dsimp only; walk1) | (leave1; walk_say "STEP leave1"; try dsimp only) | fail "no step")); (all_goals (try (with_reducible refine Halt.mk ?_)))))
end Mine
end

set_option maxRecDepth 100000 in
theorem PySem.Challenge.cw_nz0239_01_holds : PySem.Challenge.rw_nz0239_01.Holds := by
  exact Mine.lawT
