import PyProof.Rows.All
import Wide.All
import OpenK.AllK
import Wide.FinOn
import PySem.Challenge.RW_sa0564_01
open PySem PySem.W PyProof.Rows
set_option Elab.async false
set_option linter.unusedVariables false
namespace Mine
set_option maxRecDepth 100000
set_option maxHeartbeats 8000000
/- the head of the walk, once: the top is run, the law's call is left -/
open_top hd for PySem.Challenge.rw_sa0564_01

/- a for over enumerate(list), by what holds of the frame and of the ledger -/
section
def EnPost (h₀ : Heap) (L : Addr) (J : (Str → Option Value) → List (Addr × Obj) → Prop) (own : List (Addr × Obj)) (adr : List Addr) (s₁ : Shared) (Q : Flow → Shared → Prop) (f : Flow) (s₂ : Shared) : Prop := InvPostN h₀ L J own adr s₁ Q f s₂
theorem EnPost.next {h₀ : Heap} {L : Addr} {J : (Str → Option Value) → List (Addr × Obj) → Prop} {own : List (Addr × Obj)} {adr : List Addr} {s₁ : Shared} {Q : Flow → Shared → Prop} {s₂ : Shared} (h : InvEndN h₀ L J own adr s₁ s₂) : EnPost h₀ L J own adr s₁ Q .next s₂ := h
theorem mem_r {α : Type} {a : α} {l r : List α} (h : a ∈ r) : a ∈ l ++ r := List.mem_append.mpr (.inr h)
theorem mem_l {α : Type} {a : α} {l r : List α} (h : a ∈ l) : a ∈ l ++ r := List.mem_append.mpr (.inl h)
section
variable {prog : Program} {w : World} {A : Around} {E : Value → Shared → Prop} {s : Shared} {env : Env} {h₀ : Heap} {x : Str} {body : List Stmt} {Q : Flow → Shared → Prop}
theorem kst_enum {σ : Type} {elts : List Expr} {k : Nat} {pos : Pos} {l : Addr} {lo : Obj} {vs : List Value} {ns : List Int} {nn : Nat} {m₀ : Str → Option Value} (Led : σ → List (Addr × Obj)) (ps : σ → List (Str × Value)) (Facts : σ → Prop) (stored : List Str) (P : List Int → σ → Prop) (c₀ : σ)
    (hh : A.handled = none) (hl : ∀ c : σ, (l, lo) ∈ Led c) (hc : lo.cls = .type "list") (hd : lo.data = .seq vs.toArray nn) (hi : IntsAre vs ns) (F : Fr h₀ env.locals s.heap m₀) (N : News h₀ env.locals s.heap (Led c₀)) (hf : Facts c₀) (hk : ∀ p ∈ ps c₀, m₀ p.1 = some p.2) (hp : P [] c₀)
    (turn : ∀ (c : σ) pre post n t ti (T : Addr) (u : Str → Option Value) h tk own, ns = pre ++ n :: post → OwnOff own ((Led c₀).map (·.1)) → Facts c → P pre c → IsTup h T #[.int (pre.length : Int) ti, .int n t] →
      Fr h₀ env.locals h (fun y => if y = x then u y else kstB (fun z => if stored.contains z then u z else m₀ z) (ps c) y) → News h₀ env.locals h (Led c ++ own) →
      wpAny (model prog w) A (assign (.Tuple elts k pos) env (.ref T)) (fun _ s₂ => wpAny (model prog w) A (execs body env) (EnPost h₀ env.locals (KstS Led ps Facts x stored m₀ P (pre ++ [n])) own ((Led c₀).map (·.1)) { s with heap := h, toks := tk } Q) E s₂) E { s with heap := h, toks := tk })
    (done : ∀ (c : σ) (u : Str → Option Value) h tk, Facts c → P ns c → Fr h₀ env.locals h (fun y => if y = x then u y else kstB (fun z => if stored.contains z then u z else m₀ z) (ps c) y) → News h₀ env.locals h (Led c) → Q .next { s with heap := h, toks := tk }) :
    wpAny (model prog w) A (call (.type "enumerate") [.ref l]) (fun xv s₁ => wpAny (model prog w) A (pyIter xv) (fun it s₂ => TurnsAt prog w A h₀ env (.Tuple elts k pos) body Q E it s₂) E s₁) E s := by
  refine ktu_enum hh F N (hl c₀) hc hd rfl (fun I hI => ?_)
  have hI' : ∀ b ∈ (Led c₀).map (·.1), b < I := by
    intro b hb
    obtain ⟨q, hq, rfl⟩ := List.mem_map.mp hb
    exact hI q hq
  have key : ∀ (vs' : List Value) (post : List Int), IntsAre vs' post → ∀ (pre : List Int) (m₁ : Str → Option Value) (nx : List (Addr × Obj)), ns = pre ++ post → KstS Led ps Facts x stored m₀ P pre m₁ nx → nx.map (·.1) = (Led c₀).map (·.1) →
      ItemsRest prog w A E h₀ env (.Tuple elts k pos) body Q s [(I + 1, "enumerate"), (I, "list_iterator")] [(l, lo)] (enumItems pre.length vs') m₁ nx := by
    intro vs' post hi'
    induction hi' with
    | nil =>
      rintro pre m₁ nx hns ⟨c, rfl, hf', h1, h2, hp'⟩ _
      rw [List.append_nil] at hns
      subst hns
      exact ItemsRest.zero fun h tk F' N' => done c m₁ h tk hf' hp' (kst_frOut h1 h2 F') N'
    | @cons n t vs' post hi' ih =>
      rintro pre m₁ nx hns ⟨c, rfl, hf', h1, h2, hp'⟩ hadr
      show ItemsRest prog w A E h₀ env (.Tuple elts k pos) body Q s [(I + 1, "enumerate"), (I, "list_iterator")] [(l, lo)] (.pair (fun t => .int (pre.length : Int) t) (.int n t) :: enumItems (pre.length + 1) vs') m₁ (Led c)
      refine ItemsRest.pair fun T ti h tk hT F' => AllObj.cons fun oe he => AllObj.cons fun oi hoi => AllObj.nil fun N' => ?_
      have hoff : OwnOff [(I + 1, oe), (I, oi)] ((Led c₀).map (·.1)) := by
        intro p hp b hb e
        have hb' := hI' b hb
        rcases List.mem_cons.mp hp with rfl | hp
        · exact absurd hb' (by rw [← e]; exact Nat.not_lt.mpr (Nat.le_succ I))
        · rw [List.mem_singleton.mp hp] at e
          exact absurd hb' (by rw [← e]; exact Nat.lt_irrefl _)
      have N₂ : News h₀ env.locals h (Led c ++ [(I + 1, oe), (I, oi)]) := fun p hp => N' p ((List.mem_append.mp hp).elim (fun h => List.mem_append.mpr (.inr h)) fun h => List.mem_append.mpr (.inl h))
      have up : ∀ s₃, InvEndN h₀ env.locals (KstS Led ps Facts x stored m₀ P (pre ++ [n])) [(I + 1, oe), (I, oi)] ((Led c₀).map (·.1)) { s with heap := h, toks := tk } s₃ →
          UnrEndW h₀ env.locals { s with heap := h, toks := tk } [(I + 1, oe), (I, oi)] (fun m' n' => SubL [(l, lo)] n' ∧ ItemsRest prog w A E h₀ env (.Tuple elts k pos) body Q s [(I + 1, "enumerate"), (I, "list_iterator")] [(l, lo)] (enumItems (pre.length + 1) vs') m' n') s₃ := by
        rintro s₃ ⟨h', tk', m', news', nx, e, F₃, N₃, hn, ho, ha, hS⟩
        refine ⟨h', tk', m', nx, e, F₃, fun p hp => N₃ p ((List.mem_append.mp hp).elim (ho p) (hn p)), fun p hp q hq => ?_, ?_, ?_⟩
        · have hb : p.1 ∈ (Led c₀).map (·.1) := by rw [← ha]; exact List.mem_map.mpr ⟨p, hp, rfl⟩
          exact fun e' => hoff q hq p.1 hb e'.symm
        · obtain ⟨c', rfl, _⟩ := hS
          exact And.intro (hl c') trivial
        · have hlen : (pre ++ [n]).length = pre.length + 1 := by simp
          rw [← hlen]
          exact ih (pre ++ [n]) m' nx (by rw [hns]; simp) hS ha
      refine wpAny_mono (turn c pre post n t ti T m₁ h tk _ hns hoff hf' hp' hT (kst_frOut h1 h2 F') N₂) (fun _ s₂ h₂ => wpAny_mono h₂ (fun f s₃ p => ?_) fun _ _ e => e) fun _ _ e => e
      cases f with
      | ret v => exact p
      | brk => exact p
      | next => exact up _ p
      | cont => exact up _ p
  exact key vs ns hi [] m₀ (Led c₀) rfl ⟨c₀, rfl, hf, hk, fun _ _ _ _ => rfl, hp⟩ rfl
end

end

/- products, quotients, squares as letters with their equations; sum of a list of the ledger -/
section
section
variable {prog : Program} {w : World} {A : Around} {E : Value → Shared → Prop} {s : Shared} {a b : Int} {t u : Tok} {Q : Value → Shared → Prop}
theorem mulL (hb : b.natAbs < 2 ^ 60) (h : ∀ p, p = a * b → Q (.int p s.toks) { s with toks := s.toks + 1 }) : wpAny (model prog w) A (binaryOp .Mult (.int a t) (.int b u)) Q E s :=
  mul_int (h _ rfl) (.of_right (PySem.intBits_le_64 (by omega) (by omega)))
theorem divL (hb : 0 < b) (hb2 : b < 1000000) (ha : 0 ≤ a) (h : ∀ q, 0 ≤ q → q * b ≤ a → a < q * b + b → (a < 11 * b → q ≤ 10) → Q (.int q s.toks) { s with toks := s.toks + 1 }) : wpAny (model prog w) A (binaryOp .FloorDiv (.int a t) (.int b u)) Q E s := by
  have e := Int.mul_fdiv_add_fmod a b
  have h1 := Int.fmod_nonneg_of_pos a hb
  have h2 := Int.fmod_lt_of_pos a hb
  have hc : b * a.fdiv b = a.fdiv b * b := Int.mul_comm _ _
  have h0 : 0 ≤ a.fdiv b := Int.fdiv_nonneg ha (Int.le_of_lt hb)
  refine floordiv_int (by omega) (h _ h0 (by omega) (by omega) fun hlt => ?_) (Or.inl (PyProof.noPylong_small (by omega)))
  have h3 : a.fdiv b * b < 11 * b := by omega
  have h4 := Int.lt_of_mul_lt_mul_right h3 (Int.le_of_lt hb)
  omega
theorem sqL (ha : a.natAbs < 2 ^ 60) (h : ∀ p, p = a * a → Q (.int p s.toks) { s with toks := s.toks + 1 }) : wpAny (model prog w) A (binaryOp .Pow (.int a t) (.int 2 u)) Q E s :=
  pow_int_small (by decide) (by decide) (by omega) (h _ (by show a ^ (2 : Nat) = a * a; rw [Int.pow_succ, Int.pow_succ, Int.pow_zero, Int.one_mul]))
theorem sumN {h₀ : Heap} {L l : Addr} {m : Str → Option Value} {news : List (Addr × Obj)} {vs : List Value} {ns : List Int} {nl : Nat} (hh : A.handled = none) (F : Fr h₀ L s.heap m) (N : News h₀ L s.heap news) (hm : (l, listOf vs.toArray nl) ∈ news) (hi : IntsAre vs ns)
    (h : ∀ h' tk t', Fr h₀ L h' m → News h₀ L h' news → Q (.int ns.sum t') { s with heap := h', toks := tk }) : wpAny (model prog w) A (call (.builtin "sum") [.ref l]) Q E s :=
  sumK hh F N ⟨_, (N _ hm).1, rfl, _, rfl⟩ hi h
theorem asc (a b : Int) : a + b - a = b := by omega
end

end

/- the dict of a NewReno -/
section
abbrev ent (P : Params) (n : String) (t : Tok) (v : Value) : DictEntry := { hash := PyData.keyHash P (Str.ofString n), key := Value.str (Str.ofString n) t, val := v }
abbrev renoD (P : Params) (t1 t2 t3 t4 t5 t6 : Tok) (d : Value) (w : Value) (th : Value) (rc : Value) (inf : Value) (cr : Value) : List DictEntry :=
  [ent P "datagram" t1 d, ent P "window" t2 w, ent P "threshold" t3 th, ent P "recovery_at" t4 rc, ent P "in_flight" t5 inf, ent P "credit" t6 cr]

end

/- comprehensions: by what holds between the turns; over a tuple -/
section
open PyProof.Rows.LCg PySem.Spec PySem.Calls
section
variable {prog : Program} {w : World} {A : Around} {E : Value → Shared → Prop} {s : Shared} {h₀ : Heap} {L : Addr} {m : Str → Option Value} {env : Env}
/-- a comprehension's turns by what holds of what it has made and of the ledger -/
theorem comp_inv {elt : Expr} {x : Str} {scope : Scope} {cl : List (Str × Addr)} {S : List (Addr × Obj) → Prop} {P : Nat → Value → Prop} {Fin : List Value → List (Addr × Obj) → Prop} {news : List (Addr × Obj)} {n : Nat}
    (J : Nat → List Value → List (Addr × Obj) → Prop) (h0 : J 0 [] news)
    (turn : ∀ i v ys nx I oI C oC D m₂ h tk (E' : Value → Shared → Prop), i < n → J i ys nx → P i v → NsObj oC m₂ → m₂ x = some v → Fr h₀ L h m → News h₀ L h ((I, oI) :: (C, oC) :: (D, lst ys) :: nx) → Off3 I C D nx → ((@Ne Nat I C) ∧ (@Ne Nat I D) ∧ (@Ne Nat C D)) →
      wpAny (model prog w) A (eval elt (compEnvC scope cl C env)) (CompEnd h₀ L m { s with heap := h, toks := tk } I oI C oC D (lst ys) S (fun y nx' => J (i + 1) (ys ++ [y]) nx')) E' { s with heap := h, toks := tk })
    (fin : ∀ ys nx, J n ys nx → Fin ys nx) : CompRest prog w A h₀ L m env elt x scope cl s S P Fin n 0 [] news := by
  have key : ∀ (j i : Nat) (ys : List Value) (nx : List (Addr × Obj)), i + j = n → J i ys nx → CompRest prog w A h₀ L m env elt x scope cl s S P Fin j i ys nx := by
    intro j
    induction j with
    | zero =>
      intro i ys nx hi hJ
      have e : i = n := hi
      subst e
      exact CompRest.zero (fin ys nx hJ)
    | succ j ih =>
      intro i ys nx hi hJ
      refine CompRest.succ fun v I oI C oC D m₂ h tk E' hv hC hx F N off ne => ?_
      refine wpAny_mono (turn i v ys nx I oI C oC D m₂ h tk E' (by omega) hJ hv hC hx F N off ne) (fun y s₂ hq => ?_) fun _ _ e => e
      obtain ⟨h', tk', nw, e, F', N', off', hS, hj⟩ := hq
      exact ⟨h', tk', nw, e, F', N', off', hS, ih (i + 1) _ nw (by omega) hj⟩
  exact key n 0 [] news (by omega) h0
abbrev tupOf (its : Array Value) (k : Nat) : Obj := { cls := .type "tuple", data := .seq its k }
/-- the list that a block has made: how the heap stands when the block is left -/
structure Stood (h₀ : Heap) (L : Addr) (m : Str → Option Value) (C D : Addr) (ys : List Value) (nw : List (Addr × Obj)) (h : Heap) : Prop where
  fr : Fr h₀ L h m
  led : News h₀ L h ((D, lst ys) :: nw)
  off : Off1 D nw
  blk : ∃ m', h.Ns C m'
  newC : h₀.get? C = none
  neL : C ≠ L
  apart : ∀ p ∈ (D, lst ys) :: nw, p.1 ≠ C
theorem Stood.swept {C D : Addr} {ys : List Value} {nw : List (Addr × Obj)} {h h' : Heap} (x : Stood h₀ L m C D ys nw h) (hs : Heap.SameBut C h h') : Fr h₀ L h' m ∧ News h₀ L h' ((D, lst ys) :: nw) :=
  ⟨x.fr.change hs x.neL x.newC, fun p hp => ⟨hs.extBut _ _ (x.apart p hp) (x.led p hp).1, (x.led p hp).2⟩⟩
theorem Stood.stored {C D : Addr} {ys : List Value} {nw : List (Addr × Obj)} {h h' : Heap} {m' : Str → Option Value} (x : Stood h₀ L m C D ys nw h) (hn : h'.Ns L m') (hs : Heap.SameBut L h h') : Stood h₀ L m' C D ys nw h' where
  fr := x.fr.set hn hs
  led := x.led.set hs
  off := x.off
  blk := x.blk.imp fun _ q => q.sameBut hs x.neL
  newC := x.newC
  neL := x.neL
  apart := x.apart
theorem tup_st {ax I : Addr} {its : Array Value} {k : Nat} (i : Nat) (h h' : Heap) (o : Obj) (nw : List (Addr × Obj)) (st : h.IsTupleIter I ax i ∧ h.IsTuple ax its) (e : h.get? I = some o) (e' : h'.get? I = some o)
    (_ : ∀ b o, h₀.get? b = some o → h'.get? b = some o) (N : News h₀ L h' nw) (S : (ax, tupOf its k) ∈ nw) : h'.IsTupleIter I ax i ∧ h'.IsTuple ax its := by
  obtain ⟨⟨o₁, q, r⟩, _⟩ := st
  have ho : o₁ = o := Option.some.inj (q.symm.trans e)
  exact ⟨⟨o, e', ho ▸ r⟩, ⟨_, (N _ S).1, rfl, k, rfl⟩⟩
/-- the source of a comprehension is a tuple of the ledger; Fin: what is wanted of the list made -/
def SrcT (prog : Program) (w : World) (A : Around) (h₀ : Heap) (L : Addr) (m : Str → Option Value) (env : Env) (elt : Expr) (x : Str) (scope : Scope) (cl : List (Str × Addr)) (Fin : Shared → List Value → List (Addr × Obj) → Prop) (xv : Value) (s₁ : Shared) : Prop :=
  ∃ ax its k news, xv = .ref ax ∧ A.handled = none ∧ Fr h₀ L s₁.heap m ∧ News h₀ L s₁.heap news ∧ (ax, tupOf its k) ∈ news ∧ its.size ≤ sizeLine ∧
    ∀ g, CompRest prog w A h₀ L m env elt x scope cl { s₁ with heap := g } (fun nw => (ax, tupOf its k) ∈ nw) (fun i v => its[i]? = some v) (Fin s₁) its.size 0 [] news
theorem SrcT.mk' {elt : Expr} {x : Str} {scope : Scope} {cl : List (Str × Addr)} {Fin : Shared → List Value → List (Addr × Obj) → Prop} {ax : Addr} {its : Array Value} {k : Nat} {news : List (Addr × Obj)} {s₁ : Shared}
    (hh : A.handled = none) (F : Fr h₀ L s₁.heap m) (N : News h₀ L s₁.heap news) (hm : (ax, tupOf its k) ∈ news) (hsz : its.size ≤ sizeLine)
    (h : ∀ g, CompRest prog w A h₀ L m env elt x scope cl { s₁ with heap := g } (fun nw => (ax, tupOf its k) ∈ nw) (fun i v => its[i]? = some v) (Fin s₁) its.size 0 [] news) :
    SrcT prog w A h₀ L m env elt x scope cl Fin (.ref ax) s₁ := ⟨ax, its, k, news, rfl, hh, F, N, hm, hsz, h⟩
/-- a comprehension over a tuple, whatever its list is used for -/
theorem comp_tup {elt iter : Expr} {x : Str} {px : Pos} {scope : Scope} {cl : List (Str × Addr)} {pos at_ : Pos} {use : Option (Value → Sem Unit)} {Q : Value → Shared → Prop} {Fin : Shared → List Value → List (Addr × Obj) → Prop}
    (hclos : closureFor scope env = pure cl) (hcell : ∀ y ∈ scope.names, y.2 ≠ .cell) (hkind : scope.kind = .function)
    (hnames : ∀ y ∈ scope.names, y.2 = .local → scope.names.lookup y.1 = some .local) (hx : scope.names.lookup x = some .local) (hs : ∀ x, foldedSetIterable iter env x = pure x)
    (h : wpAny (model prog w) A (eval iter env) (SrcT prog w A h₀ L m env elt x scope cl Fin) E s)
    (used : ∀ (s₁ : Shared) C D ys nw h tk, Stood h₀ L m C D ys nw h → Fin s₁ ys nw → compPost (model prog w) A E use Q (.ref D) C (.ok .next) { s₁ with heap := h, toks := tk }) :
    wpAny (model prog w) A (comprehension (.ListComp elt [⟨.Name x px, iter, [], 0⟩] scope pos) scope env at_ (newList []) false (eval iter env) use) Q E s := by
  refine wpAny_comprehension_free rfl hs hclos hkind hnames (wpAny_mono h ?_ fun _ _ e => e)
  rintro xv s₁ ⟨ax, its, k, news, rfl, hh, F, N, hm, hsz, R⟩
  have old := (N _ hm).1
  have tup : s₁.heap.IsTuple ax its := ⟨_, old, rfl, k, rfl⟩
  have low := Heap.lt_size old
  have keep (b : Addr) (o : Obj) (e : s₁.heap.get? b = some o) : (s₁.heap.push { cls := .type "tuple_iterator", data := .fields #[.ref ax, .int 0 0] }).get? b = some o := Heap.get?_push_of_some _ e
  refine wpAny_pyIter_tuple tup (block_U (Walks.tuple hh _ ax (Nat.ne_of_lt low) its) hsz (fun i h' st => ?_) tup_st hcell hkind hx ⟨⟨_, Heap.get?_push_size _ rfl, rfl, rfl⟩, tup.at fun o e => keep ax o e⟩ ?_
    (F.keeps keep) (N.grown keep) (Nat.ne_of_lt F.ns.lt) (next_is_new F) (fun p hp => Nat.ne_of_lt (Heap.lt_size (N p hp).1)) hm (R _) ?_)
  · obtain ⟨⟨o, e, _⟩, _⟩ := st
    exact ⟨o, e⟩
  · intro b hb
    show b < (s₁.heap.push _).objs.size
    rw [Heap.size_push]
    have hb' : b = s₁.heap.objs.size ∨ b = ax := by simpa using hb
    rcases hb' with rfl | rfl
    · exact Nat.lt_succ_self _
    · exact Nat.lt_succ_of_lt low
  · intro D C h' tk m' ys nw F' N' o1 hn hC₀ _ hCL _ hCD offC fin
    refine used s₁ C D ys nw h' tk ⟨F', N', o1, ⟨m', hn⟩, hC₀, hCL, fun p hp => ?_⟩ fin
    rcases List.mem_cons.mp hp with rfl | hp
    · exact Ne.symm hCD
    · exact offC p hp
theorem ListComp_Tup {elt iter : Expr} {x : Str} {px : Pos} {scope : Scope} {cl : List (Str × Addr)} {pos : Pos} {Q : Value → Shared → Prop} (F₀ : Fr h₀ L s.heap m)
    (hclos : closureFor scope env = pure cl) (hcell : ∀ y ∈ scope.names, y.2 ≠ .cell) (hkind : scope.kind = .function)
    (hnames : ∀ y ∈ scope.names, y.2 = .local → scope.names.lookup y.1 = some .local) (hx : scope.names.lookup x = some .local)
    (h : wpAny (model prog w) A (eval iter env) (SrcT prog w A h₀ L m env elt x scope cl (fun s₂ => FinE h₀ L m s₂ Q)) E s)
    (hs : ∀ x, foldedSetIterable iter env x = pure x := by intro _; rfl) :
    wpAny (model prog w) A (eval (.ListComp elt [⟨.Name x px, iter, [], 0⟩] scope pos) env) Q E s := by
  rw [eval_ListComp]
  refine comp_tup (px := px) (pos := pos) (use := none) (Q := Q) (Fin := fun s₂ => FinE h₀ L m s₂ Q) hclos hcell hkind hnames hx hs h fun s₁ C D ys nw h' tk st fin => ?_
  obtain ⟨m', hn⟩ := st.blk
  exact ⟨m', hn, fun h'' hs'' => fin D h'' tk (st.swept hs'').1 (st.swept hs'').2 st.off⟩
theorem Assign_ListComp_Tup {elt iter : Expr} {x y : Str} {px py : Pos} {scope : Scope} {cl : List (Str × Addr)} {pos spos : Pos} {Q : Flow → Shared → Prop} (F₀ : Fr h₀ L s.heap m) (hLe : env.locals = L)
    (hsw : swapsWith (.ListComp elt [⟨.Name x px, iter, [], 0⟩] scope pos) (some (.Name y py)) spos.line env = pure true)
    (hclos : closureFor scope env = pure cl) (hcell : ∀ z ∈ scope.names, z.2 ≠ .cell) (hkind : scope.kind = .function)
    (hnames : ∀ z ∈ scope.names, z.2 = .local → scope.names.lookup z.1 = some .local) (hx : scope.names.lookup x = some .local)
    (hy : env.kindOf y = some .local) (hp : (env.scope.kind == .class || (env.scope.kind == .module && env.locals != env.globals)) = false)
    (h : wpAny (model prog w) A (eval iter env) (SrcT prog w A h₀ L m env elt x scope cl (fun s₂ => FinA h₀ L m s₂ y Q)) E s)
    (hs : ∀ x, foldedSetIterable iter env x = pure x := by intro _; rfl) :
    wpAny (model prog w) A (exec (.Assign [.Name y py] (.ListComp elt [⟨.Name x px, iter, [], 0⟩] scope pos) spos) env) Q E s := by
  subst hLe
  rw [exec_Assign_Name_used _ _ _ _ hsw]
  have whole := comp_tup (px := px) (pos := pos) (at_ := firstIterPos [⟨.Name x px, iter, [], 0⟩] pos) (E := E) (use := some (assign (.Name y py) env)) (Q := fun _ s' => Q .next s') hclos hcell hkind hnames hx hs h fun s₁ C D ys nw h' tk st fin => by
    refine wpAny_assign_Name (wpAny_storeName_local hy st.fr.ns (fun h₂ hn₂ hs₂ => ?_) hp)
    have st₂ := st.stored hn₂ hs₂
    obtain ⟨m', hn⟩ := st₂.blk
    exact ⟨m', hn, fun h'' hs'' => fin D h'' _ (st₂.swept hs'').1 (st₂.swept hs'').2 st₂.off⟩
  refine wpAny_bind (wpAny_standAt (wpAny_bind ?_))
  show wpAny _ A (comprehension (.ListComp elt [⟨.Name x px, iter, [], 0⟩] scope pos) scope env (firstIterPos [⟨.Name x px, iter, [], 0⟩] pos) (newList []) false (eval iter env) (some (assign (.Name y py) env)) >>= _) _ _ s
  exact wpAny_bind (wpAny_mono whole (fun _ _ q => wpAny_pure (wpAny_pure q)) fun _ _ e => e)
end

end

/- the comprehension that draws -/
section
open PyProof.Rows.LCg PySem.Spec PySem.Calls
section
variable {prog : Program} {w : World} {A : Around} {E : Value → Shared → Prop} {s : Shared} {h₀ : Heap} {L : Addr} {m : Str → Option Value} {env : Env}
theorem intsAre_snoc {ys : List Value} {ks : List Int} {v : Int} {t : Tok} (h : IntsAre ys ks) : IntsAre (ys ++ [.int v t]) (ks ++ [v]) := IntsAre.append h (.cons v t .nil)
/-- what a turn of the drawing comprehension hands on -/
def DrawEl (b l : Addr) (vs : List Value) (nl : Nat) (rest : List (Addr × Obj)) (d k : Int) (y : Value) (nx : List (Addr × Obj)) : Prop :=
  ∃ r ty t nb, y = .int r ty ∧ 1 ≤ r ∧ r ≤ d ∧ nx = (b, listOf #[.ref l, .int (k + 1) t] nb) :: (l, listOf vs.toArray nl) :: rest
theorem comp_draw {elt : Expr} {x : Str} {scope : Scope} {cl : List (Str × Addr)} {P : Nat → Value → Prop} {Fin : List Value → List (Addr × Obj) → Prop} {n : Nat} {b l : Addr} {k : Int} {t : Tok} {nb nl : Nat} {vs : List Value} {rest : List (Addr × Obj)} (d : Int)
    (hoff : OwnOff rest [b])
    (turn : ∀ i v ys I oI C oC D m₂ h tk t' nb' (E' : Value → Shared → Prop), i < n → P i v → NsObj oC m₂ → m₂ x = some v → Fr h₀ L h m → News h₀ L h ((b, listOf #[.ref l, .int (k + (i : Int)) t'] nb') :: (l, listOf vs.toArray nl) :: (I, oI) :: (C, oC) :: (D, lst ys) :: rest) →
      OwnOff ((I, oI) :: (C, oC) :: (D, lst ys) :: rest) [b] → Off3 I C D ((b, listOf #[.ref l, .int (k + (i : Int)) t'] nb') :: (l, listOf vs.toArray nl) :: rest) → ((@Ne Nat I C) ∧ (@Ne Nat I D) ∧ (@Ne Nat C D)) →
      wpAny (model prog w) A (eval elt (compEnvC scope cl C env)) (CompEnd h₀ L m { s with heap := h, toks := tk } I oI C oC D (lst ys) (fun _ => True) (DrawEl b l vs nl rest d (k + (i : Int)))) E' { s with heap := h, toks := tk })
    (fin : ∀ ys ks t' nb', IntsAre ys ks → ks.length = n → (∀ v ∈ ks, 1 ≤ v ∧ v ≤ d) → Fin ys ((b, listOf #[.ref l, .int (k + (n : Int)) t'] nb') :: (l, listOf vs.toArray nl) :: rest)) :
    CompRest prog w A h₀ L m env elt x scope cl s (fun _ => True) P Fin n 0 [] ((b, listOf #[.ref l, .int k t] nb) :: (l, listOf vs.toArray nl) :: rest) := by
  refine comp_inv (fun i ys nx => ∃ ks t' nb', IntsAre ys ks ∧ ks.length = i ∧ (∀ v ∈ ks, 1 ≤ v ∧ v ≤ d) ∧ nx = (b, listOf #[.ref l, .int (k + (i : Int)) t'] nb') :: (l, listOf vs.toArray nl) :: rest) ⟨[], t, nb, .nil, rfl, (fun _ h => (nomatch h)), by simp⟩ ?_ ?_
  · rintro i v ys nx I oI C oC D m₂ h tk E' hi ⟨ks, t', nb', h1, h2, h3, rfl⟩ hv hC hx F N off ne
    have hb : (@Ne Nat b I) ∧ (@Ne Nat b C) ∧ (@Ne Nat b D) := off.1
    have N' : News h₀ L h ((b, listOf #[.ref l, .int (k + (i : Int)) t'] nb') :: (l, listOf vs.toArray nl) :: (I, oI) :: (C, oC) :: (D, lst ys) :: rest) := by
      intro p hp
      refine N p ?_
      rcases List.mem_cons.mp hp with rfl | hp
      · exact .tail _ (.tail _ (.tail _ (.head _)))
      rcases List.mem_cons.mp hp with rfl | hp
      · exact .tail _ (.tail _ (.tail _ (.tail _ (.head _))))
      rcases List.mem_cons.mp hp with rfl | hp
      · exact .head _
      rcases List.mem_cons.mp hp with rfl | hp
      · exact .tail _ (.head _)
      rcases List.mem_cons.mp hp with rfl | hp
      · exact .tail _ (.tail _ (.head _))
      · exact .tail _ (.tail _ (.tail _ (.tail _ (.tail _ hp))))
    have ho : OwnOff ((I, oI) :: (C, oC) :: (D, lst ys) :: rest) [b] := by
      intro p hp c hc
      have hc' : c = b := List.mem_singleton.mp hc
      subst hc'
      rcases List.mem_cons.mp hp with rfl | hp
      · exact Ne.symm hb.1
      rcases List.mem_cons.mp hp with rfl | hp
      · exact Ne.symm hb.2.1
      rcases List.mem_cons.mp hp with rfl | hp
      · exact Ne.symm hb.2.2
      · exact hoff p hp c hc
    refine wpAny_mono (turn i v ys I oI C oC D m₂ h tk t' nb' E' hi hv hC hx F N' ho off ne) (fun y s₂ hq => ?_) fun _ _ e => e
    obtain ⟨h', tk', nw, e, F', N'', off', hS, r, ty, t₂, nb₂, rfl, hr1, hr2, rfl⟩ := hq
    refine ⟨h', tk', _, e, F', N'', off', hS, ks ++ [r], t₂, nb₂, intsAre_snoc h1, by simp [h2], ?_, ?_⟩
    · intro u hu
      rcases List.mem_append.mp hu with hu | hu
      · exact h3 u hu
      · rw [List.mem_singleton.mp hu]; exact ⟨hr1, hr2⟩
    · rw [show k + (i : Int) + 1 = k + ((i + 1 : Nat) : Int) by push_cast; omega]
  · rintro ys nx ⟨ks, t', nb', h1, h2, h3, rfl⟩
    exact fin ys ks t' nb' h1 h2 h3
theorem draw_end {b l : Addr} {k d r : Int} {t t' ty : Tok} {nb nb' nl : Nat} {vs ys : List Value} {rest : List (Addr × Obj)} {I C D : Addr} {oI oC : Obj} {h' : Heap} {tk' : Nat}
    (F : Fr h₀ L h' m) (N : News h₀ L h' ((b, listOf #[.ref l, .int (k + 1) t'] nb') :: (l, listOf vs.toArray nl) :: (I, oI) :: (C, oC) :: (D, lst ys) :: rest)) (off : Off3 I C D ((b, listOf #[.ref l, .int k t] nb) :: (l, listOf vs.toArray nl) :: rest)) (h1 : 1 ≤ r) (h2 : r ≤ d) :
    CompEnd h₀ L m s I oI C oC D (lst ys) (fun _ => True) (DrawEl b l vs nl rest d k) (.int r ty) { s with heap := h', toks := tk' } := by
  refine ⟨h', tk', (b, listOf #[.ref l, .int (k + 1) t'] nb') :: (l, listOf vs.toArray nl) :: rest, rfl, F, ?_, off, trivial, r, ty, t', nb', rfl, h1, h2, rfl⟩
  intro p hp
  refine N p ?_
  rcases List.mem_cons.mp hp with rfl | hp
  · exact .tail _ (.tail _ (.head _))
  rcases List.mem_cons.mp hp with rfl | hp
  · exact .tail _ (.tail _ (.tail _ (.head _)))
  rcases List.mem_cons.mp hp with rfl | hp
  · exact .tail _ (.tail _ (.tail _ (.tail _ (.head _))))
  rcases List.mem_cons.mp hp with rfl | hp
  · exact .head _
  rcases List.mem_cons.mp hp with rfl | hp
  · exact .tail _ (.head _)
  · exact .tail _ (.tail _ (.tail _ (.tail _ (.tail _ hp))))
end

end

/- the loop that cuts into halves -/
section
open PySem.Spec PySem.Calls
/-- the halves -/
def hv (l : List Int) : List Int := l.flatMap fun n => [n.fdiv 2, n - n.fdiv 2]
theorem hv_cons (k : Int) (r : List Int) : hv (k :: r) = k.fdiv 2 :: (k - k.fdiv 2) :: hv r := rfl
theorem hv_snoc (n : Int) (l : List Int) : hv (l ++ [n]) = hv l ++ [n.fdiv 2, n - n.fdiv 2] := by
  unfold hv
  rw [List.flatMap_append]
  rfl
theorem hv_sum (l : List Int) : (hv l).sum = l.sum := by
  induction l with
  | nil => rfl
  | cons k r ih => rw [hv_cons, List.sum_cons, List.sum_cons, List.sum_cons, ih]; omega
theorem hv_length (l : List Int) : (hv l).length = 2 * l.length := by
  induction l with
  | nil => rfl
  | cons k r ih => rw [hv_cons, List.length_cons, List.length_cons, List.length_cons, ih]; omega
theorem hv_bound (l : List Int) (hl : ∀ v ∈ l, 1 ≤ v ∧ v ≤ 49) : ∀ v ∈ hv l, 0 ≤ v ∧ v ≤ 49 := by
  induction l with
  | nil => exact fun _ h => nomatch h
  | cons k r ih =>
    intro v h
    have hk := hl k (.head _)
    have e : k.fdiv 2 = k / 2 := Int.fdiv_eq_ediv_of_nonneg _ (by decide)
    rw [hv_cons] at h
    rcases List.mem_cons.mp h with rfl | h
    · rw [e]; omega
    rcases List.mem_cons.mp h with rfl | h
    · rw [e]; omega
    · exact ih (fun u hu => hl u (.tail _ hu)) v h
abbrev HS := List Value × List Int × Nat
section
variable {prog : Program} {w : World} {A : Around} {E : Value → Shared → Prop} {s : Shared} {env : Env} {h₀ : Heap} {x : Str} {body : List Stmt} {Q : Flow → Shared → Prop}
def HvJ (H : Addr) (rest : List (Addr × Obj)) (x : Str) (m₀ : Str → Option Value) : List Int → (Str → Option Value) → List (Addr × Obj) → Prop :=
  KstS (fun c : HS => (H, listOf c.1.toArray c.2.2) :: rest) (fun _ => []) (fun c => IntsAre c.1 c.2.1) x [] m₀ (fun pre c => c.2.1 = hv pre)
theorem fr_plain {L : Addr} {h : Heap} {v : Str → Option Value} {u m₀ : Str → Option Value} (F : Fr h₀ L h (fun y => if y = x then v y else kstB (fun z => if ([] : List Str).contains z then u z else m₀ z) [] y)) : Fr h₀ L h (fun y => if y = x then v y else m₀ y) := F
theorem halves_loop {H l : Addr} {rest : List (Addr × Obj)} {vs : List Value} {ns : List Int} {nn n0 : Nat} {m₀ : Str → Option Value}
    (hh : A.handled = none) (hl : (l, listOf vs.toArray nn) ∈ rest) (hi : IntsAre vs ns) (F : Fr h₀ env.locals s.heap m₀) (N : News h₀ env.locals s.heap ((H, listOf ([] : List Value).toArray n0) :: rest))
    (turn : ∀ pre post n t h tk own (hs : List Value) (is : List Int) (nh : Nat), ns = pre ++ n :: post → OwnOff own (H :: rest.map (·.1)) → IntsAre hs is → is = hv pre →
      Fr h₀ env.locals h (fun y => if y = x then some (.int n t) else m₀ y) → News h₀ env.locals h ((H, listOf hs.toArray nh) :: (rest ++ own)) →
      wpAny (model prog w) A (execs body env) (EnPost h₀ env.locals (HvJ H rest x m₀ (pre ++ [n])) own (H :: rest.map (·.1)) { s with heap := h, toks := tk } Q) E { s with heap := h, toks := tk })
    (done : ∀ (hs : List Value) (nh : Nat) (u : Str → Option Value) h tk, IntsAre hs (hv ns) → Fr h₀ env.locals h (fun y => if y = x then u y else m₀ y) → News h₀ env.locals h ((H, listOf hs.toArray nh) :: rest) → Q .next { s with heap := h, toks := tk }) :
    wpAny (model prog w) A (pyIter (.ref l)) (fun it s₂ => LoopAtV prog w A h₀ env x body Q E it s₂) E s := by
  refine kst_listL (fun c : HS => (H, listOf c.1.toArray c.2.2) :: rest) (fun _ => []) (fun c => IntsAre c.1 c.2.1) [] (fun pre c => c.2.1 = hv pre) (([], [], n0) : HS) hh (fun c => .tail _ hl) hi F N .nil (fun _ h => nomatch h) rfl ?_ ?_
  · rintro ⟨hs, is, nh⟩ pre post n t u h tk own hns _ hoff hf hp F' N'
    exact turn pre post n t h tk own hs is nh hns hoff hf hp (fr_plain (v := fun _ => some (.int n t)) F') N'
  · rintro ⟨hs, is, nh⟩ u h tk hf hp F' N'
    have hp' : is = hv ns := hp
    subst hp'
    exact done hs nh u h tk hf (fr_plain F') N'
theorem halves_end {L H D : Addr} {oD : Obj} {rest own : List (Addr × Obj)} {m₀ : Str → Option Value} {pre : List Int} {n : Int} {t ta tb : Tok} {hs : List Value} {is : List Int} {nh : Nat} {s₁ : Shared} {h' : Heap} {tk : Nat}
    (F : Fr h₀ L h' (fun y => if y = x then some (.int n t) else m₀ y)) (N : News h₀ L h' ((D, oD) :: (H, listOf (hs ++ [Value.int (n.fdiv 2) ta, Value.int (n - n.fdiv 2) tb]).toArray nh) :: (rest ++ own))) (hi : IntsAre hs is) (hp : is = hv pre) :
    EnPost h₀ L (HvJ H rest x m₀ (pre ++ [n])) own (H :: rest.map (·.1)) s₁ Q .next { s₁ with heap := h', toks := tk } := by
  refine EnPost.next (kst_end (c := ((hs ++ [Value.int (n.fdiv 2) ta, Value.int (n - n.fdiv 2) tb], is ++ [n.fdiv 2, n - n.fdiv 2], nh) : HS)) F N ?_ ?_ rfl (hi.append (.cons _ _ (.cons _ _ .nil))) (fun _ h => nomatch h) ?_ ?_)
  · exact List.forall_mem_cons.mpr ⟨.tail _ (.head _), fun p hp => .tail _ (.tail _ (mem_l hp))⟩
  · exact fun p hp => .tail _ (.tail _ (mem_r hp))
  · intro z h1 _ _
    simp only [h1, if_false]
  · show is ++ _ = hv (pre ++ [n])
    rw [hv_snoc, hp]
end

end

/- the comprehensions over the three ways; the plain law of two windows -/
section
open PyProof.Rows.LCg PySem.Spec PySem.Calls
section
variable {prog : Program} {w : World} {A : Around} {E : Value → Shared → Prop} {s : Shared} {h₀ : Heap} {L : Addr} {m : Str → Option Value} {env : Env}
/-- a way of the law: a list of the ledger, its ints small, few, of the given sum -/
def WayIn (news : List (Addr × Obj)) (S : Int) (v : Value) : Prop :=
  ∃ a vs ns k, v = .ref a ∧ (a, listOf vs.toArray k) ∈ news ∧ IntsAre vs ns ∧ ns.sum = S ∧ ns.length ≤ 24 ∧ ∀ u ∈ ns, 0 ≤ u ∧ u ≤ 49
def WayEl (news : List (Addr × Obj)) (Good : Int → Prop) (y : Value) (nx : List (Addr × Obj)) : Prop := ∃ r t, y = .int r t ∧ Good r ∧ nx = news
theorem comp_ways {elt : Expr} {x : Str} {scope : Scope} {cl : List (Str × Addr)} {Fin : List Value → List (Addr × Obj) → Prop} {ax : Addr} {its : Array Value} {k : Nat} {news : List (Addr × Obj)} (S : Int) (Good : Int → Prop)
    (hits : ∀ (i : Nat) v, its[i]? = some v → WayIn news S v)
    (turn : ∀ a vs ns kk ys I oI C oC D m₂ h tk (E' : Value → Shared → Prop), (a, listOf vs.toArray kk) ∈ (I, oI) :: (C, oC) :: (D, lst ys) :: news → IntsAre vs ns → ns.sum = S → ns.length ≤ 24 → (∀ u ∈ ns, 0 ≤ u ∧ u ≤ 49) → NsObj oC m₂ → m₂ x = some (.ref a) → Fr h₀ L h m →
      News h₀ L h ((I, oI) :: (C, oC) :: (D, lst ys) :: news) → Off3 I C D news → ((@Ne Nat I C) ∧ (@Ne Nat I D) ∧ (@Ne Nat C D)) →
      wpAny (model prog w) A (eval elt (compEnvC scope cl C env)) (CompEnd h₀ L m { s with heap := h, toks := tk } I oI C oC D (lst ys) (fun nw => (ax, tupOf its k) ∈ nw) (WayEl news Good)) E' { s with heap := h, toks := tk })
    (fin : ∀ ys ks, IntsAre ys ks → ks.length = its.size → (∀ v ∈ ks, Good v) → Fin ys news) :
    CompRest prog w A h₀ L m env elt x scope cl s (fun nw => (ax, tupOf its k) ∈ nw) (fun i v => its[i]? = some v) Fin its.size 0 [] news := by
  refine comp_inv (fun i ys nx => ∃ ks, IntsAre ys ks ∧ ks.length = i ∧ (∀ v ∈ ks, Good v) ∧ nx = news) ⟨[], .nil, rfl, (fun _ h => (nomatch h)), rfl⟩ ?_ ?_
  · rintro i v ys nx I oI C oC D m₂ h tk E' hi ⟨ks, h1, h2, h3, rfl⟩ hv hC hx F N off ne
    obtain ⟨a, vs, ns, kk, rfl, ha, hi', hs, hl, hb⟩ := hits i v hv
    refine wpAny_mono (turn a vs ns kk ys I oI C oC D m₂ h tk E' (.tail _ (.tail _ (.tail _ ha))) hi' hs hl hb hC hx F N off ne) (fun y s₂ hq => ?_) fun _ _ e => e
    obtain ⟨h', tk', nw, e, F', N'', off', hS, r, t, rfl, hr, rfl⟩ := hq
    refine ⟨h', tk', _, e, F', N'', off', hS, ks ++ [r], intsAre_snoc h1, by simp [h2], ?_, rfl⟩
    intro u hu
    rcases List.mem_append.mp hu with hu | hu
    · exact h3 u hu
    · rw [List.mem_singleton.mp hu]; exact hr
  · rintro ys nx ⟨ks, h1, h2, h3, rfl⟩
    exact fin ys ks h1 h2 h3
theorem ways_end {ax : Addr} {its : Array Value} {k : Nat} {news : List (Addr × Obj)} {Good : Int → Prop} {r : Int} {t : Tok} {ys : List Value} {I C D : Addr} {oI oC : Obj} {h' : Heap} {tk' : Nat}
    (F : Fr h₀ L h' m) (N : News h₀ L h' ((I, oI) :: (C, oC) :: (D, lst ys) :: news)) (off : Off3 I C D news) (hm : (ax, tupOf its k) ∈ news) (hr : Good r) :
    CompEnd h₀ L m s I oI C oC D (lst ys) (fun nw => (ax, tupOf its k) ∈ nw) (WayEl news Good) (.int r t) { s with heap := h', toks := tk' } :=
  ⟨h', tk', news, rfl, F, N, off, hm, r, t, rfl, hr, rfl⟩
theorem three {ys : List Value} {ks : List Int} (h : IntsAre ys ks) (e : ks.length = 3) : ∃ a b c t u v, ks = [a, b, c] ∧ ys = [.int a t, .int b u, .int c v] := by
  cases h with
  | nil => cases e
  | cons a t h =>
    cases h with
    | nil => cases e
    | cons b u h =>
      cases h with
      | nil => cases e
      | cons c v h =>
        cases h with
        | nil => exact ⟨a, b, c, t, u, v, rfl, rfl⟩
        | cons d z h => simp at e
theorem way_of {news : List (Addr × Obj)} {S : Int} {a : Addr} {vs : List Value} {ns : List Int} {k : Nat} (ha : (a, listOf vs.toArray k) ∈ news) (hi : IntsAre vs ns) (hs : ns.sum = S) (hl : ns.length ≤ 24) (hb : ∀ u ∈ ns, 0 ≤ u ∧ u ≤ 49) : WayIn news S (.ref a) :=
  ⟨a, vs, ns, k, rfl, ha, hi, hs, hl, hb⟩
theorem items3 {x y z : Value} {P : Value → Prop} (h1 : P x) (h2 : P y) (h3 : P z) (i : Nat) (v : Value) (e : (#[x, y, z] : Array Value)[i]? = some v) : P v := by
  match i, e with
  | 0, e => have e' : x = v := by simpa using e
            exact e' ▸ h1
  | 1, e => have e' : y = v := by simpa using e
            exact e' ▸ h2
  | 2, e => have e' : z = v := by simpa using e
            exact e' ▸ h3
  | i + 3, e => simp at e
theorem eq_none : ∀ {vs : List Value} {ns : List Int}, IntsAre vs ns → ∀ y, y ∈ vs → MeetsSeq.EqGives y .none false
  | _, _, .nil, _, hy => nomatch hy
  | _, _, .cons n u h, y, hy => by
    rcases List.mem_cons.mp hy with rfl | hy
    · exact fun prog w A E s Q hq => SeqAt.EqAt.int_none n u prog w E Q hq
    · exact eq_none h y hy
theorem none_notin {l : Addr} {vs : List Value} {ns : List Int} {n : Nat} {news : List (Addr × Obj)} {Q : Value → Shared → Prop} (N : News h₀ L s.heap news) (hm : (l, listOf vs.toArray n) ∈ news) (hi : IntsAre vs ns) (h : Q (.bool true) s) :
    wpAny (model prog w) A (compareOp .NotIn .none (.ref l)) Q E s :=
  SeqInW.notIn_listW (fun _ => false) (fun y hy => eq_none hi y (by simpa using hy)) ⟨_, (N _ hm).1, rfl, n, rfl⟩ (by
    have e : (vs.toArray.any fun _ => false) = false := by rw [← Array.any_toList]; simp
    rw [e]; exact h)
/-- the windows of two ways lie no further apart than a datagram -/
theorem apart {d S V W : Int} (hd : 1 ≤ d) (hV : 5 * d ≤ V) (v1 : 25 * (d * d) + 2 * (d * S) - 2 * V < V * V) (hW : 5 * d ≤ W) (w2 : W * W ≤ 25 * (d * d) + 2 * (d * S) + d * (W - 5 * d)) : W - V ≤ d := by
  refine Int.not_lt.mp fun h => ?_
  have h1 : V + d + 1 ≤ W := by omega
  have e1 : d * (W - 5 * d) = d * W - 5 * (d * d) := by rw [Int.mul_sub, Int.mul_left_comm]
  have h2 : (V + d + 1) * (V + 1) ≤ W * (W - d) := Int.mul_le_mul h1 (by omega) (by omega) (by omega)
  have e2 : W * (W - d) = W * W - d * W := by rw [Int.mul_sub, Int.mul_comm W d]
  have e3 : (V + d + 1) * (V + 1) = V * V + d * V + 2 * V + d + 1 := by
    rw [Int.add_mul, Int.add_mul, Int.mul_add, Int.mul_add]; omega
  have h3 : 0 ≤ d * V := Int.mul_nonneg (by omega) (by omega)
  have h4 : 0 ≤ d * d := Int.mul_nonneg (by omega) (by omega)
  omega
end

end

/- what a draw gives: one up, a remainder -/
section
theorem drawn {w : World} {mg mb : Str → Option Value} {mean : ExcName → Option Value}
  {dp un : Nat} {gd : Option (List Code)} {cn : Str} {cs : Scope} {a : Addr} {ccd : Value} {cl : List (Str × Addr)} {outer : List Env} {A₀ : Around} {base h₀ : Heap} {L : Addr} {m : Str → Option Value} {s : Shared} {Q E : Value → Shared → Prop}
  {b l : Addr} {vs : List Value} {ns : List Int} {k : Int} {tk₀ : Tok} {nb nl : Nat} {many : Int} {tm : Tok} {rest : List (Addr × Obj)}
  (B : Below A₀ base outer h₀) (F : Fr h₀ L s.heap m) (X : (hd.heap_39 w.params).In h₀)
  (N : News h₀ L s.heap ((b, listOf #[.ref l, .int k tk₀] nb) :: (l, listOf vs.toArray nl) :: rest))
  (T : Top hd.view_39 (looseW hd.view_39 []) mean mg mb h₀) (hk : cs.kind = .function)
  (hoff : OwnOff rest [b]) (hbl : @Ne Nat b l) (hi : IntsAre vs ns) (hlen : ns.length ≤ 2 ^ 20) (hk0 : 0 ≤ k) (hk1 : k ≤ 1000) (hm1 : 1 ≤ many) (hm2 : many ≤ 1000)
  (hd' : dp + 1 < recursionLimit) (hu : un + 8 < cLine)
  (hret : ∀ r t t' nb' h' tk', 0 ≤ r → r < many → Fr h₀ L h' m → News h₀ L h' ((b, listOf #[.ref l, .int (k + 1) t'] nb') :: (l, listOf vs.toArray nl) :: rest) → Q (.int r t) { s with heap := h', toks := tk' }) :
  wpAny (model PySem.Challenge.rw_sa0564_01.row.prog w) (ktrTop dp un gd cn cs L a ccd cl outer) (call (.ref 133) [.ref b, .int many tm]) Q E s := by
  revert X
  k_fill
  intro X
  have hMk := kstMark
  refine wpAny_call ?_
  k_dflt cell_enter
  k_steps
  all_goals exact hret _ _ _ _ _ _ (Int.fmod_nonneg_of_pos _ (by omega)) (Int.fmod_lt_of_pos _ (by omega)) (by assumption) (by assumption)

end

/- what _law_slow gives: the sum -/
section
local macro_rules | `(tactic| walk_at "exec For Tuple Call cons nil") => `(tactic| (k_here; (rename Fr _ _ _ _ => lF'); (with_unfolding_all refine' For_turns lF' ?_; k_whole)))
local macro_rules | `(tactic| k_room) => `(tactic| ktr_room)
theorem slow_state {P : Params} {h₀ h : Heap} {L x dx : Addr} {t1 t2 t3 t4 t5 t6 td tW tI tC : Tok} {d W : Int} {r : Str → Option Value} {news : List (Addr × Obj)} {G : Prop}
    (F : Fr h₀ L h (fun y => if y = Str.ofString "begin" then some (.int W tW) else if y = Str.ofString "reno" then some (.ref x) else r y))
    (N : News h₀ L h ((x, instObj 122 dx) :: (dx, dictOf (renoD P t1 t2 t3 t4 t5 t6 (.int d td) (.int W tW) .none .none (.int 0 tI) (.int 0 tC)) 6) :: news))
    (hx : @LT.lt Nat _ dx x) (hl : AllLt dx news) (hW : W = 10 * d)
    (k : ∀ (x dx : Addr) (t1 t2 t3 t4 t5 t6 tW tI tC : Tok), Fr h₀ L h (fun y => if y = Str.ofString "begin" then some (.int (10 * d) tW) else if y = Str.ofString "reno" then some (.ref x) else r y) →
      News h₀ L h ((x, instObj 122 dx) :: (dx, dictOf (renoD P t1 t2 t3 t4 t5 t6 (.int d td) (.int (10 * d) tW) .none .none (.int 0 tI) (.int 0 tC)) 6) :: news) →
      @LT.lt Nat _ dx x → AllLt dx news → G) : G := by
  subst hW
  exact k _ _ _ _ _ _ _ _ _ _ _ F N hx hl
theorem slow {w : World} {mg mb : Str → Option Value} {mean : ExcName → Option Value}
  {dp un : Nat} {gd : Option (List Code)} {cn : Str} {cs : Scope} {a : Addr} {ccd : Value} {cl : List (Str × Addr)} {outer : List Env} {A₀ : Around} {base h₀ : Heap} {L : Addr} {m : Str → Option Value} {s : Shared} {Q E : Value → Shared → Prop}
  {l : Addr} {vs : List Value} {ns : List Int} {nl : Nat} {d : Int} {td : Tok} {news : List (Addr × Obj)}
  (B : Below A₀ base outer h₀) (F : Fr h₀ L s.heap m) (X : (hd.heap_39 w.params).In h₀)
  (N : News h₀ L s.heap news)
  (T : Top hd.view_39 (looseW hd.view_39 []) mean mg mb h₀) (hk : cs.kind = .function)
  (hm : (l, listOf vs.toArray nl) ∈ news) (hi : IntsAre vs ns) (hlen : ns.length ≤ 24) (hns : ∀ v ∈ ns, 0 ≤ v ∧ v ≤ 49) (hd1 : 10 ≤ d) (hd2 : d ≤ 49)
  (hd' : dp + 4 < recursionLimit) (hu : un + 40 < cLine)
  (hret : ∀ t h' tk', Fr h₀ L h' m → News h₀ L h' news → Q (.int ns.sum t) { s with heap := h', toks := tk' }) :
  wpAny (model PySem.Challenge.rw_sa0564_01.row.prog w) (ktrTop dp un gd cn cs L a ccd cl outer) (call (.ref 140) [.int d td, .ref l]) Q E s := by
  revert X
  k_fill
  intro X
  have hMk := kstMark
  refine wpAny_call ?_
  k_dflt cell_enter
  k_steps
  rename Fr _ _ _ _ => nF
  rename News _ _ _ _ => nN
  refine slow_state nF nN ?hx ?hl ?hW ?_
  case hx => assumption
  case hl => first | assumption | exact allLt_of (by assumption)
  case hW => (repeat' split) <;> omega
  clear nF nN
  intro x dx t1 t2 t3 t4 t5 t6 tW tI tC nF nN hx hl
  refine kst_enum (σ := Int × Tok × Int × Tok) (l := l) (x := Str.ofString "at") (fun c => (x, instObj 122 dx) :: (dx, dictOf (renoD w.params t1 t2 t3 t4 t5 t6 (.int d td) (.int c.1 c.2.1) .none .none (.int c.2.2.1 c.2.2.2) (.int 0 tC)) 6) :: news) (fun _ => []) (fun _ => True) [Str.ofString "size"] (fun pre c => c.1 = 10 * d + pre.sum ∧ c.2.2.1 = 0) (10 * d, tW, 0, tI) rfl (fun c => .tail _ (.tail _ hm)) rfl rfl hi nF nN trivial (fun _ hp => nomatch hp) ⟨by simp, rfl⟩ ?turn ?done
  case turn =>
    clear nF nN
    intro c pre post v t ti T' u h9 tk9 own hns' hoff hf hP hT F9 N9
    have hv := hns v (by rw [hns']; simp)
    dsimp only at F9 N9 hP ⊢
    simp only [List.map_cons, List.cons_append] at hoff N9
    k_steps
    rename News _ _ _ _ => nE
    rename Fr _ _ _ _ => fE
    refine EnPost.next ?_
    refine kst_end (⟨_, _, _, _⟩ : Int × Tok × Int × Tok) fE nE (by (try dsimp only); refine List.forall_mem_cons.mpr ⟨.head _, List.forall_mem_cons.mpr ⟨?_, fun p hp => .tail _ (.tail _ (mem_l hp))⟩⟩; refine .tail _ ?_; with_unfolding_all exact List.Mem.head _) ?ho ?ha trivial (fun _ h => nomatch h) ?hr ?hp
    case ho => exact fun p hp => .tail _ (.tail _ (mem_r hp))
    case ha => rfl
    case hr =>
      intro z h1 h2 h3
      have h4 : z ≠ Str.ofString "size" := by rintro rfl; simp at h3
      simp only [kstB, h1, h3, h4, if_false, Bool.false_eq_true]
    case hp => kst_p
  case done =>
    clear nF nN
    rintro ⟨win, tw, inf, ti⟩ u h9 tk9 hf ⟨hW, hI⟩ F9 N9
    dsimp only at hW hI F9 N9
    subst hW hI
    k_steps
    rename News _ _ _ _ => nE
    rename Fr _ _ _ _ => fE
    rw [show 10 * d + ns.sum - 10 * d = ns.sum by omega]
    exact hret _ _ _ fE (fun p hp => nE p (.tail _ (.tail _ hp)))

end

/- what _law_window gives: a window within its bounds -/
section
local macro_rules | `(tactic| walk_at "exec For Tuple Call cons nil") => `(tactic| (k_here; (rename Fr _ _ _ _ => lF'); (with_unfolding_all refine' For_turns lF' ?_; k_whole)))
local macro_rules | `(tactic| k_room) => `(tactic| ktr_room)
local macro_rules | `(tactic| walk_at "call builtin:sum") => `(tactic| (k_here; (with_reducible show wpAny _ _ (call (Value.builtin "sum") [Value.ref _]) _ _ _); (with_unfolding_all refine' sumN ?k0 ?k1 ?k2 ?k3 ?k4 ?_; (case k0 => with_unfolding_all rfl); (case k1 => k_asm); (case k2 => k_asm); (case k4 => assumption); (case k3 => repeat (first | assumption | refine List.Mem.tail _ ?_)); k_whole); intro h' tk' t' F' N'; (try k_sweep)))
local macro_rules | `(tactic| walk_at "binaryOp Mult int int") => `(tactic| k_extra "my mul")
local macro_rules | `(tactic| walk_at "binaryOp FloorDiv int int") => `(tactic| k_extra "my div")
local macro_rules | `(tactic| walk_at "binaryOp Pow int int") => `(tactic| k_extra "my pow")
structure WS where
  win : Int
  tw : Tok
  inf : Int
  ti : Tok
  cr : Int
  tc : Tok
  paid : Int
  tp : Tok
  tot : Int
  tt : Tok
def WinP (d S : Int) (pre : List Int) (c : WS) : Prop :=
  c.tot = d * pre.sum ∧ c.cr = c.tot - c.paid ∧ 0 ≤ c.cr ∧ c.cr < c.win ∧ 5 * d ≤ c.win ∧ c.win ≤ 5 * d + 10 * (pre.length : Int) ∧ c.inf = S - pre.sum ∧
  25 * (d * d) + 2 * c.paid ≤ c.win * c.win ∧ c.win * c.win ≤ 25 * (d * d) + 2 * c.paid + d * (c.win - 5 * d)
theorem win_turn {d S win inf cr paid tot v q p1 p2 p3 p4 : Int} {pre : List Int} {t1 t2 t3 t4 t5 : Tok} (hd1 : 10 ≤ d) (hP1 : tot = d * pre.sum) (hP2 : cr = tot - paid) (hP3 : 0 ≤ cr) (hP4 : cr < win) (hP5 : 5 * d ≤ win) (hP6 : win ≤ 5 * d + 10 * (pre.length : Int)) (hP7 : inf = S - pre.sum)
    (hP8 : 25 * (d * d) + 2 * paid ≤ win * win) (hP9 : win * win ≤ 25 * (d * d) + 2 * paid + d * (win - 5 * d)) (hdv0 : 0 ≤ d * v) (hdv1 : d * v ≤ d * 49)
    (h1 : p1 = d * v) (hq1 : 0 ≤ q) (hq2 : q * win ≤ cr + p1) (hq3 : cr + p1 < q * win + win) (hq4 : cr + p1 < 11 * win → q ≤ 10) (h2 : p2 = q * win) (h4 : p4 = d * v) (h3 : p3 = q * win) :
    WinP d S (pre ++ [v]) ⟨win + q, t1, inf - v, t2, cr + p1 - p2, t3, paid + p3, t4, tot + p4, t5⟩ := by
  have q10 : q ≤ 10 := hq4 (by omega)
  have e1 : (win + q) * (win + q) = win * win + 2 * (q * win) + q * q := by
    rw [Int.add_mul, Int.mul_add, Int.mul_add, Int.mul_comm win q]; omega
  have e2 : d * (win + q - 5 * d) = d * (win - 5 * d) + d * q := by rw [show win + q - 5 * d = (win - 5 * d) + q by omega, Int.mul_add]
  have e3 : q * q ≤ d * q := Int.mul_le_mul_of_nonneg_right (by omega) hq1
  have e4 : 0 ≤ q * q := Int.mul_nonneg hq1 hq1
  have e5 : (pre ++ [v]).sum = pre.sum + v := by simp
  have e6 : ((pre ++ [v]).length : Int) = (pre.length : Int) + 1 := by simp
  have e7 : d * (pre.sum + v) = d * pre.sum + d * v := Int.mul_add _ _ _
  unfold WinP
  dsimp only
  rw [e1, e2, e5, e6, e7]
  omega
theorem win_grown {d win cr v q p1 : Int} (hd1 : 10 ≤ d) (hP3 : 0 ≤ cr) (hP4 : cr < win) (hP5 : 5 * d ≤ win) (hdv1 : d * v ≤ d * 49) (h1 : p1 = d * v) (hq4 : cr + p1 < 11 * win → q ≤ 10) : win + q - win ≤ d := by
  have q10 : q ≤ 10 := hq4 (by omega)
  omega
theorem win_done {d S win cr paid tot : Int} (hP1 : tot = d * S) (hP2 : cr = tot - paid) (hP3 : 0 ≤ cr) (hP4 : cr < win) (hP8 : 25 * (d * d) + 2 * paid ≤ win * win) (hP9 : win * win ≤ 25 * (d * d) + 2 * paid + d * (win - 5 * d)) :
    25 * (d * d) + 2 * (d * S) - 2 * win < win * win ∧ win * win ≤ 25 * (d * d) + 2 * (d * S) + d * (win - 5 * d) := by
  omega
theorem win_state {P : Params} {h₀ h : Heap} {L x dx D : Addr} {oD : Obj} {t1 t2 t3 t4 t5 t6 t7 td tW tI tC tp tt : Tok} {d W I S : Int} {r : Str → Option Value} {news : List (Addr × Obj)} {G : Prop}
    (F : Fr h₀ L h (fun y => if y = Str.ofString "begin" then some (.int W tW) else if y = Str.ofString "reno" then some (.ref x) else if y = Str.ofString "paid" then some (.int 0 tp) else if y = Str.ofString "total" then some (.int 0 tt) else r y))
    (N : News h₀ L h ((D, oD) :: (x, instObj 122 dx) :: (dx, dictOf (renoD P t1 t2 t3 t4 t5 t6 (.int d td) (.int W tW) (.int W tW) (.int 7 t7) (.int I tI) (.int 0 tC)) 6) :: news))
    (hx : @LT.lt Nat _ dx x) (hl : AllLt dx news) (hW : W = 5 * d) (hI : I = S)
    (k : ∀ (x dx : Addr) (t1 t2 t3 t4 t5 t6 t7 tW tI tC tp tt : Tok), Fr h₀ L h (fun y => if y = Str.ofString "begin" then some (.int (5 * d) tW) else if y = Str.ofString "reno" then some (.ref x) else if y = Str.ofString "paid" then some (.int 0 tp) else if y = Str.ofString "total" then some (.int 0 tt) else r y) →
      News h₀ L h ((x, instObj 122 dx) :: (dx, dictOf (renoD P t1 t2 t3 t4 t5 t6 (.int d td) (.int (5 * d) tW) (.int (5 * d) tW) (.int 7 t7) (.int S tI) (.int 0 tC)) 6) :: news) →
      @LT.lt Nat _ dx x → AllLt dx news → G) : G := by
  subst hW hI
  exact k _ _ _ _ _ _ _ _ _ _ _ _ _ _ F (fun p hp => N p (.tail _ hp)) hx hl
theorem window {w : World} {mg mb : Str → Option Value} {mean : ExcName → Option Value}
  {dp un : Nat} {gd : Option (List Code)} {cn : Str} {cs : Scope} {a : Addr} {ccd : Value} {cl : List (Str × Addr)} {outer : List Env} {A₀ : Around} {base h₀ : Heap} {L : Addr} {m : Str → Option Value} {s : Shared} {Q E : Value → Shared → Prop}
  {l : Addr} {vs : List Value} {ns : List Int} {nl : Nat} {d : Int} {td : Tok} {news : List (Addr × Obj)}
  (B : Below A₀ base outer h₀) (F : Fr h₀ L s.heap m) (X : (hd.heap_39 w.params).In h₀)
  (N : News h₀ L s.heap news)
  (T : Top hd.view_39 (looseW hd.view_39 []) mean mg mb h₀) (hk : cs.kind = .function)
  (hm : (l, listOf vs.toArray nl) ∈ news) (hi : IntsAre vs ns) (hlen : ns.length ≤ 24) (hns : ∀ v ∈ ns, 0 ≤ v ∧ v ≤ 49) (hd1 : 10 ≤ d) (hd2 : d ≤ 49)
  (hd' : dp + 4 < recursionLimit) (hu : un + 40 < cLine)
  (hret : ∀ W t h' tk', 5 * d ≤ W → 25 * (d * d) + 2 * (d * ns.sum) - 2 * W < W * W → W * W ≤ 25 * (d * d) + 2 * (d * ns.sum) + d * (W - 5 * d) → Fr h₀ L h' m → News h₀ L h' news → Q (.int W t) { s with heap := h', toks := tk' }) :
  wpAny (model PySem.Challenge.rw_sa0564_01.row.prog w) (ktrTop dp un gd cn cs L a ccd cl outer) (call (.ref 147) [.int d td, .ref l]) Q E s := by
  revert X
  k_fill
  intro X
  have hMk := kstMark
  refine wpAny_call ?_
  k_dflt cell_enter
  k_steps
  rename Fr _ _ _ _ => nF
  rename News _ _ _ _ => nN
  refine win_state (S := ns.sum) nF nN ?hx ?hl ?hW ?hI ?_
  case hx => first | assumption | omega
  case hl => first | assumption | exact allLt_of (by assumption)
  case hW =>
    have hfd : (10 * d * 1).fdiv 2 = 5 * d := by rw [Int.fdiv_eq_ediv_of_nonneg _ (by decide)]; omega
    (repeat' split) <;> omega
  case hI => omega
  clear nF nN
  intro x dx t1 t2 t3 t4 t5 t6 t7 tW tI tC tp tt nF nN hx hl
  have hdd0 : (5 * d) * (5 * d) = 25 * (d * d) := by rw [Int.mul_assoc, Int.mul_left_comm d 5 d]; omega
  refine kst_enum (σ := WS) (l := l) (x := Str.ofString "at") (fun c => (x, instObj 122 dx) :: (dx, dictOf (renoD w.params t1 t2 t3 t4 t5 t6 (.int d td) (.int c.win c.tw) (.int (5 * d) tW) (.int 7 t7) (.int c.inf c.ti) (.int c.cr c.tc)) 6) :: news) (fun c => [(Str.ofString "paid", .int c.paid c.tp), (Str.ofString "total", .int c.tot c.tt)]) (fun _ => True) [Str.ofString "size", Str.ofString "ahead", Str.ofString "grown"] (WinP d ns.sum) ⟨5 * d, tW, ns.sum, tI, 0, tC, 0, tp, 0, tt⟩ rfl (fun c => .tail _ (.tail _ hm)) rfl rfl hi nF nN trivial ?hps ?hP0 ?turn ?done
  case hps => intro p hp; rcases List.mem_cons.mp hp with rfl | hp; rfl; rw [List.mem_singleton.mp hp]; rfl
  case hP0 => unfold WinP; simp; omega
  case turn =>
    clear nF nN
    rintro ⟨win, tw, inf, ti, cr, tc, paid, tp', tot, tt'⟩ pre post v t ti' T' u h9 tk9 own hns' hoff hf ⟨hP1, hP2, hP3, hP4, hP5, hP6, hP7, hP8, hP9⟩ hT F9 N9
    have hv := hns v (by rw [hns']; simp)
    have hpl : pre.length < 24 := by rw [hns'] at hlen; simp at hlen; omega
    dsimp only at hP1 hP2 hP3 hP4 hP5 hP6 hP7 hP8 hP9 F9 N9 ⊢
    simp only [List.map_cons, List.cons_append] at hoff N9
    have hdv0 : 0 ≤ d * v := Int.mul_nonneg (by omega) hv.1
    have hdv1 : d * v ≤ d * 49 := Int.mul_le_mul_of_nonneg_left hv.2 (by omega)
    k_with "my mul" => (k_here; (refine mulL (by omega) ?_); intro p' hp'; (try simp only [asc] at hp'); (try dsimp only))
    k_with "my div" => (k_here; (refine divL (by omega) (by omega) (by omega) ?_); intro q' hq1' hq2' hq3' hq4'; (try dsimp only))
    k_steps
    · rename News _ _ _ _ => nE
      rename Fr _ _ _ _ => fE
      refine EnPost.next ?_
      refine kst_end (⟨_, _, _, _, _, _, _, _, _, _⟩ : WS) fE nE (by (try dsimp only); refine List.forall_mem_cons.mpr ⟨.tail _ (.head _), List.forall_mem_cons.mpr ⟨?_, fun p hp => .tail _ (.tail _ (.tail _ (mem_l hp)))⟩⟩; refine .tail _ (.tail _ ?_); with_unfolding_all exact List.Mem.head _) ?ho ?ha trivial (by (try dsimp only); refine List.forall_mem_cons.mpr ⟨?_, List.forall_mem_cons.mpr ⟨?_, fun _ h => nomatch h⟩⟩ <;> with_unfolding_all rfl) ?hr ?hp
      case ho => exact fun p hp => .tail _ (.tail _ (.tail _ (mem_r hp)))
      case ha => rfl
      case hr =>
        intro z h1 h2 h3
        have k1 : z ≠ Str.ofString "paid" := h2 _ (.head _)
        have k2 : z ≠ Str.ofString "total" := h2 _ (.tail _ (.head _))
        have k3 : z ≠ Str.ofString "size" := by rintro rfl; simp at h3
        have k4 : z ≠ Str.ofString "ahead" := by rintro rfl; simp at h3
        have k5 : z ≠ Str.ofString "grown" := by rintro rfl; simp at h3
        simp only [kstB, h1, h3, k1, k2, k3, k4, k5, if_false, Bool.false_eq_true]
      case hp => exact win_turn hd1 hP1 hP2 hP3 hP4 hP5 hP6 hP7 hP8 hP9 hdv0 hdv1 (by with_reducible assumption) hq1' hq2' hq3' hq4' (by with_reducible assumption) (by with_reducible assumption) (by with_reducible assumption)
    · exact absurd (win_grown hd1 hP3 hP4 hP5 hdv1 (by with_reducible assumption) hq4') (by with_reducible assumption)
  case done =>
    clear nF nN
    k_with "my mul" => (k_here; (refine mulL (by omega) ?_); intro p' hp'; (try simp only [asc] at hp'); (try dsimp only))
    k_with "my pow" => (k_here; (refine sqL (by omega) ?_); intro p' hp'; (try dsimp only))
    rintro ⟨win, tw, inf, ti, cr, tc, paid, tp', tot, tt'⟩ u h9 tk9 hf ⟨hP1, hP2, hP3, hP4, hP5, hP6, hP7, hP8, hP9⟩ F9 N9
    dsimp only at hP1 hP2 hP3 hP4 hP5 hP6 hP7 hP8 hP9 F9 N9 ⊢
    k_steps
    · rename News _ _ _ _ => nE
      rename Fr _ _ _ _ => fE
      obtain ⟨e1, e2⟩ := win_done hP1 hP2 hP3 hP4 hP8 hP9
      exact hret _ _ _ _ hP5 e1 e2 fE (fun p hp => nE p (.tail _ (.tail _ hp)))
    · exfalso; omega
    · exfalso; omega

end

/- the law itself -/
section
def Blk (P : Prop) : Prop := P
theorem Blk.mk {P : Prop} (h : Blk P) : P := h
theorem Blk.of {P : Prop} (h : P) : Blk P := h
theorem ownOff_nil {b : Addr} : OwnOff [] [b] := fun _ hp => nomatch hp
theorem ownOff_cons {p : Addr × Obj} {rest : List (Addr × Obj)} {b : Addr} (h : @Ne Nat p.1 b) (r : OwnOff rest [b]) : OwnOff (p :: rest) [b] := by
  intro q hq c hc
  rcases List.mem_cons.mp hq with rfl | hq
  · rw [List.mem_singleton.mp hc]; exact h
  · exact r q hq c hc
local macro_rules | `(tactic| walk_at "call ref") => `(tactic| (k_here; k_dflt (refine Blk.mk ?_)))
local macro_rules | `(tactic| walk_at "CompSrc") => `(tactic| (k_here; k_dflt (refine Blk.mk ?_)))
local macro_rules | `(tactic| walk_at "CompEnd") => `(tactic| (refine Blk.mk ?_))
local macro_rules | `(tactic| walk_at "exec For Name Name cons nil") => `(tactic| (k_here; (rename Fr _ _ _ _ => lF'); (with_unfolding_all refine' For_invVF lF' ?k1 ?k2 ?_; (case k1 => exact rfl); (case k2 => exact rfl); k_whole)))
local macro_rules | `(tactic| walk_at "pyIter ref") => `(tactic| (k_here; (with_reducible show wpAny _ _ (pyIter (Value.ref _)) (fun it s₂ => LoopAtV _ _ _ _ _ _ _ _ _ it s₂) _ _); (refine Blk.mk ?_)))
local macro_rules | `(tactic| walk_at "eval ListComp") => `(tactic| k_extra "my comp")
local macro_rules | `(tactic| walk_at "exec Assign cons ListComp") => `(tactic| k_extra "my comp2")
theorem rev_sum : ∀ l : List Int, l.reverse.sum = l.sum
  | [] => rfl
  | a :: l => by rw [List.reverse_cons, List.sum_append, rev_sum l]; simp; omega
local macro_rules | `(tactic| walk_at "my slow") => `(tactic| (
    refine Blk.of ?_
    k_dflt (refine' slow ?B ?F ?X ?N ?T ?hk ?hm ?hi ?hlen ?hns ?hd1 ?hd2 ?hd' ?hu ?hret)
    (case F => k_asm)
    (case N => k_asm)
    (case X => k_asm)
    (case T => k_asm)
    (case B => k_asm)
    (case hk => exact rfl)
    (case hm => assumption)
    (case hi => assumption)
    (case hlen => assumption)
    (case hns => assumption)
    (case hd1 => omega)
    (case hd2 => omega)
    (case hd' => ktr_room)
    (case hu => ktr_units)))
local macro_rules | `(tactic| walk_at "my window") => `(tactic| (
    refine Blk.of ?_
    k_dflt (refine' window ?B ?F ?X ?N ?T ?hk ?hm ?hi ?hlen ?hns ?hd1 ?hd2 ?hd' ?hu ?hret)
    (case F => k_asm)
    (case N => k_asm)
    (case X => k_asm)
    (case T => k_asm)
    (case B => k_asm)
    (case hk => exact rfl)
    (case hm => assumption)
    (case hi => assumption)
    (case hlen => assumption)
    (case hns => assumption)
    (case hd1 => omega)
    (case hd2 => omega)
    (case hd' => ktr_room)
    (case hu => ktr_units)))
local macro_rules | `(tactic| walk_at "my off") => `(tactic| ((repeat (refine ownOff_cons (by first | omega | (dsimp only; omega)) ?_)); exact ownOff_nil))
local macro_rules | `(tactic| walk_at "my drawn") => `(tactic| (
    refine Blk.of ?_
    k_dflt (refine' drawn ?B ?F ?X ?N ?T ?hk ?hoff ?hbl ?hi ?hlen ?hk0 ?hk1 ?hm1 ?hm2 ?hd' ?hu ?hret)
    (case F => k_asm)
    (case N => k_asm)
    (case X => k_asm)
    (case T => k_asm)
    (case B => k_asm)
    (case hk => exact rfl)
    (case hi => assumption)
    (case hbl => omega)
    (case hoff => first | assumption | walk_at "my off")
    (case hlen => (simp only [List.length_take]; omega))
    (case hk0 => omega)
    (case hk1 => omega)
    (case hm1 => omega)
    (case hm2 => omega)
    (case hd' => ktr_room)
    (case hu => ktr_units)))
theorem whole : PySem.Challenge.rw_sa0564_01.Holds := hd (by
  k_go0
  (all_goals try k_fold)
  have hMk := kstMark
  k_steps
  walk_at "my drawn"
  intro r t t' nb' h' tk' hr0 hr1 F' N'
  (try k_fold)
  k_steps
  walk_at "my drawn"
  intro n t2 t2' nb2' h2' tk2' hn0 hn1 F2' N2'
  (try k_fold)
  k_steps
  refine Blk.of ?_
  k_dflt (refine' LCg.CompSrc.range (n := (2 + n).toNat) ?hh ?F ?N ?hr ?hsm ?hn ?hsz ?h)
  case hh => rfl
  case F => k_asm
  case N => k_asm
  case hr => assumption
  case hsm => exact small_one (by omega) (by omega) (by omega) (by omega)
  case hn => rw [rangeSize_nat]; omega
  case hsz => (rw [PySem.sizeLine_eq]; omega)
  case h =>
    intro g
    refine comp_draw (10 + r) (by walk_at "my off") ?turn ?fin
    case turn =>
      intro i v ys I oI C oC D m₂ h tk t' nb' E' hi hv hC hx F9 N9 ho9 off9 ne9
      (try k_fold)
      k_steps
      walk_at "my drawn"
      intro v1 t1 t1' nb1' h1' tk1' hv0 hv1 F1' N1'
      (try k_fold)
      k_steps
      refine Blk.of ?_
      exact draw_end (by k_asm) (by k_asm) off9 (by omega) (by omega)
    case fin =>
      intro ys ks t' nb' hks hklen hkall
      k_steps
      refine Blk.of ?_
      k_dflt (refine' halves_loop ?hh ?hl ?hi ?F ?N ?turn ?done)
      case hh => rfl
      case F => k_asm
      case N => k_asm
      case hl => k_mem
      case hi => exact hks
      case turn =>
        intro pre post u tu h3 tk3 own hs is nh hns3 ho3 hi3 hp3 F3 N3
        (try k_fold)
        k_steps
        rename News _ _ _ _ => nE
        k_dflt (refine' extend_in (own := [_]) ?xF ?xN ?xo ?xr ?xb ?xh ?xz)
        case xF => k_asm
        case xN => exact nE
        case xo => exact List.forall_mem_cons.mpr ⟨by k_ne, fun _ h => nomatch h⟩
        case xr => k_all
        case xb => exact (nE _ (.head _)).1
        case xz =>
          have hl3 := hi3.length
          rw [hp3, hv_length] at hl3
          have hl4 : ks.length = pre.length + (post.length + 1) := by rw [hns3]; simp
          rw [PySem.sizeLine_eq]
          show hs.length + 2 ≤ _
          omega
        intro h4 n4 F4 N4
        k_steps
        exact halves_end (by k_asm) (by k_asm) hi3 hp3
      case done =>
        intro hs nh u h3 tk3 hi3 F3 N3
        k_with "my comp" => (k_here; k_dflt (refine ListComp_Tup (F₀ := by k_asm) (by with_unfolding_all rfl) (by decide) (by rfl) (by decide) (by rfl) ?_))
        k_with "my comp2" => (k_here; k_dflt (refine Assign_ListComp_Tup (F₀ := by k_asm) (by rfl) (by with_unfolding_all rfl) (by with_unfolding_all rfl) (by decide) (by rfl) (by decide) (by rfl) (by rfl) (by rfl) ?_))
        have hb1 : ∀ v ∈ ks, 1 ≤ v ∧ v ≤ 49 := fun v hv => by have := hkall v hv; omega
        have hb2 : ∀ v ∈ ks, 0 ≤ v ∧ v ≤ 49 := fun v hv => by have := hkall v hv; omega
        k_steps
        k_dflt (refine' SrcT.mk' ?hh ?F ?N ?hm ?hsz ?h)
        case hh => rfl
        case F => k_asm
        case N => k_asm
        case hm => exact .head _
        case hsz => exact Nat.le_of_ble_eq_true rfl
        case h =>
          intro g
          refine comp_ways ks.sum (fun r => r = ks.sum) ?hits ?turn ?fin
          case hits =>
            intro i v e
            refine items3 ?a1 ?a2 ?a3 i v e
            case a1 => exact way_of (.tail _ (.tail _ (.tail _ (.head _)))) hks rfl (by omega) hb2
            case a2 => exact way_of (.tail _ (.head _)) (by assumption) (rev_sum ks) (by rw [List.length_reverse]; omega) (fun v hv => hb2 v (List.mem_reverse.mp hv))
            case a3 => exact way_of (.tail _ (.tail _ (.head _))) hi3 (hv_sum ks) (by rw [hv_length]; omega) (hv_bound ks hb1)
          case turn =>
            intro a5 vs5 ns5 kk5 ys5 I5 oI5 C5 oC5 D5 m5 h5 tk5 E5 ha5 hi5 hs5 hl5 hb5 hC5 hx5 F5 N5 off5 ne5
            (try k_fold)
            k_steps
            walk_at "my slow"
            intro t6 h6 tk6 F6 N6
            (try k_fold)
            k_steps
            refine Blk.of ?_
            exact ways_end (by k_asm) (by k_asm) off5 (.head _) hs5
          case fin =>
            intro ys7 ks7 hi7 hl7 hg7
            obtain ⟨a7, b7, c7, t7, u7, v7, rfl, rfl⟩ := three hi7 hl7
            obtain rfl : a7 = ks.sum := hg7 _ (.head _)
            obtain rfl : b7 = ks.sum := hg7 _ (.tail _ (.head _))
            obtain rfl : c7 = ks.sum := hg7 _ (.tail _ (.tail _ (.head _)))
            k_steps
            k_dflt (refine' SrcT.mk' ?hh ?F ?N ?hm ?hsz ?h)
            case hh => rfl
            case F => k_asm
            case N => k_asm
            case hm => k_mem
            case hsz => exact Nat.le_of_ble_eq_true rfl
            case h =>
              intro g8
              refine comp_ways ks.sum (fun W => 5 * (10 + r) ≤ W ∧ 25 * ((10 + r) * (10 + r)) + 2 * ((10 + r) * ks.sum) - 2 * W < W * W ∧ W * W ≤ 25 * ((10 + r) * (10 + r)) + 2 * ((10 + r) * ks.sum) + (10 + r) * (W - 5 * (10 + r))) ?hits ?turn ?fin
              case hits =>
                intro i v e
                refine items3 ?a1 ?a2 ?a3 i v e
                case a1 => exact way_of (by k_mem) hks rfl (by omega) hb2
                case a2 => exact way_of (by k_mem) (by assumption) (rev_sum ks) (by rw [List.length_reverse]; omega) (fun v hv => hb2 v (List.mem_reverse.mp hv))
                case a3 => exact way_of (by k_mem) hi3 (hv_sum ks) (by rw [hv_length]; omega) (hv_bound ks hb1)
              case turn =>
                intro a5 vs5 ns5 kk5 ys5 I5 oI5 C5 oC5 D5 m5 h5 tk5 E5 ha5 hi5 hs5 hl5 hb5 hC5 hx5 F5 N5 off5 ne5
                (try k_fold)
                k_steps
                walk_at "my window"
                intro W6 t6 h6 tk6 hW1 hW2 hW3 F6 N6
                (try k_fold)
                k_steps
                refine Blk.of ?_
                rw [hs5] at hW2 hW3
                exact ways_end (by k_asm) (by k_asm) off5 (by k_mem) ⟨hW1, hW2, hW3⟩
              case fin =>
                intro ys9 ks9 hi9 hl9 hg9
                obtain ⟨a9, b9, c9, t9, u9, v9, rfl, rfl⟩ := three hi9 hl9
                obtain ⟨a1, a2, a3⟩ := hg9 a9 (.head _)
                obtain ⟨b1, b2, b3⟩ := hg9 b9 (.tail _ (.head _))
                obtain ⟨c1, c2, c3⟩ := hg9 c9 (.tail _ (.tail _ (.head _)))
                have q1 := apart (by omega) a1 a2 b1 b3
                have q2 := apart (by omega) a1 a2 c1 c3
                have q3 := apart (by omega) b1 b2 a1 a3
                have q4 := apart (by omega) b1 b2 c1 c3
                have q5 := apart (by omega) c1 c2 a1 a3
                have q6 := apart (by omega) c1 c2 b1 b3
                clear a2 a3 b2 b3 c2 c3
                k_steps
                k_dflt (refine' none_notin ?nN ?nm ?ni ?nh)
                case nN => k_asm
                case nm => k_mem
                case ni => exact hi9
                k_steps
  )

end

end Mine
theorem PySem.Challenge.cw_sa0564_01_holds : PySem.Challenge.rw_sa0564_01.Holds :=
  Mine.whole
#print axioms PySem.Challenge.cw_sa0564_01_holds
