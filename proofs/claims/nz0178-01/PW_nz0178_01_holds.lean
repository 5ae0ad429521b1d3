import PyProof.Rows.All
import Wide.All
import OpenK.AllK
import Wide.FinOn
import PySem.Challenge.RW_nz0178_01
open PySem PySem.W PyProof.Rows
set_option Elab.async false
namespace Mine
/-- what stands of the text: all but the three rows that name the parts -/
def theView : Program := PySem.W.view PySem.Challenge.pw_nz0178_01 [1, 2, 4, 5, 6, 7, 8, 9, 10, 11, 12, 13, 14, 15, 16, 17, 18, 19, 20, 21, 22, 24, 25, 26, 27, 28, 29, 30, 31, 32, 33, 34]
def theRead : List (PySem.Str × PySem.W.WData) := [(PySem.Str.ofString "NAME_SIGNS", PySem.W.WData.str ⟨#[65, 66, 67, 68, 69, 70, 71, 72, 73, 74, 75, 76, 77, 78, 79, 80, 81, 82, 83, 84, 85, 86, 87, 88, 89, 90, 97, 98, 99, 100, 101, 102, 103, 104, 105, 106, 107, 108, 109, 110, 111, 112, 113, 114, 115, 116, 117, 118, 119, 120, 121, 122, 48, 49, 50, 51, 52, 53, 54, 55, 56, 57, 95]⟩), (PySem.Str.ofString "STRANGE_SIGN", PySem.W.WData.str ⟨#[65533]⟩)]
section
local macro_rules | `(tactic| o_head $H) => `(tactic| (refine PySem.W.holds_open (q := Mine.theView) (loose := [PySem.Str.ofString "NAME_SIGNS", PySem.Str.ofString "STRANGE_SIGN"]) (Xt := fun s => xlAt Mine.theView Mine.theRead s && recOk (RowW.records (OpenRow.toRowW PySem.Challenge.rw_nz0178_01.row)) s) (XP := XL Mine.theView Mine.theRead) (Yf := Hook.obs $H) (Ya := Hook.val $H) (YP := Hook.says $H) (N := 2670) ?hl (Hook.of $H) (Hook.keeps $H) (fun s e => xl_of s (Bool.and_eq_true_iff.mp e).1) XL.keeps (by rfl) (by rfl) (by rfl) (fun s e => recFacts_of (Bool.and_eq_true_iff.mp e).2) (by rfl) (by first | assumption | decide +kernel) (by decide +kernel) ⟨rfl, rfl, rfl, rfl, rfl, by decide +kernel⟩ ?hw ?hc; (case hl => (intro w; kernel_rfl))))
set_option maxRecDepth 100000 in
set_option maxHeartbeats 8000000 in
open_top hd for PySem.Challenge.rw_nz0178_01
end
set_option maxRecDepth 100000
local macro_rules | `(tactic| walk_at $s:str) => `(tactic| k_extra $s)
local macro_rules | `(tactic| k_all) => `(tactic| k_extra "k_all")
section
abbrev SV := PySem.Str
abbrev Ad := PySem.Addr
noncomputable abbrev Loo : List SV := looseW theView [Str.ofString "NAME_SIGNS", Str.ofString "STRANGE_SIGN"]
/-- what a call of the text's own def f gives: one value, nothing of the caller's turned -/
abbrev FnOk (w : World) (mean : ExcName → Option Value) (mg mb : SV → Option Value) (f : Ad) (dd : Nat) (vs : List Value) (R : Tok → Value) : Prop :=
  ∀ (dp un : Nat) (gd : Option (List Code)) (cn : Str) (cs : Scope) (a : Ad) (ccd : Value) (cl : List (Str × Ad)) (outer : List Env) (A₀ : Around) (base h₀ : Heap) (L : Ad) (m : Str → Option Value) (news : List (Ad × Obj)) (s : Shared) (Q E : Value → Shared → Prop),
    Below A₀ base outer h₀ → Fr h₀ L s.heap m → (hd.heap_39 w.params).In h₀ → News h₀ L s.heap news → Top theView Loo mean mg mb h₀ → cs.kind = .function →
    dp + dd < recursionLimit → un + 8 * dd < cLine → CbRet h₀ L m news s Q R →
      wpAny (model PySem.Challenge.rw_nz0178_01.row.prog w) (ktrTop dp un gd cn cs L a ccd cl outer) (call (.ref f) vs) Q E s
theorem fn_use {w : World} {mean : ExcName → Option Value} {mg mb : SV → Option Value} {f : Ad} {dd : Nat} {vs : List Value} {R : Tok → Value} {dp un : Nat} {gd : Option (List Code)} {cn : Str} {cs : Scope} {a : Ad} {ccd : Value} {cl : List (Str × Ad)} {outer : List Env} {A₀ : Around} {base h₀ : Heap} {L : Ad} {m : Str → Option Value} {news : List (Ad × Obj)} {s : Shared} {Q E : Value → Shared → Prop}
    (C : FnOk w mean mg mb f dd vs R) (B : Below A₀ base outer h₀) (F : Fr h₀ L s.heap m) (X : (hd.heap_39 w.params).In h₀) (N : News h₀ L s.heap news) (T : Top theView Loo mean mg mb h₀) (hk : cs.kind = .function)
    (hd : dp + dd < recursionLimit) (hu : un + 8 * dd < cLine) (ret : ∀ (t : Tok) (h' : Heap) (tk' : Nat), Fr h₀ L h' m → News h₀ L h' news → Q (R t) { s with heap := h', toks := tk' }) :
    wpAny (model PySem.Challenge.rw_nz0178_01.row.prog w) (ktrTop dp un gd cn cs L a ccd cl outer) (call (.ref f) vs) Q E s :=
  C _ _ _ _ _ _ _ _ _ _ _ _ _ _ _ _ _ _ B F X N T hk hd hu ret

theorem ret_str {h₀ h' : Heap} {L : Ad} {m : Str → Option Value} {news : List (Ad × Obj)} {s : Shared} {Q : Value → Shared → Prop} {x y : Str} {t : Tok} {tk' : Nat}
    (hret : ∀ (t : Tok) (h' : Heap) (tk' : Nat), Fr h₀ L h' m → News h₀ L h' news → Q (.str x t) { s with heap := h', toks := tk' }) (F : Fr h₀ L h' m) (N : News h₀ L h' news) (e : y = x) : Q (.str y t) { s with heap := h', toks := tk' } := by
  subst e; exact hret t h' tk' F N
theorem ret_int {h₀ h' : Heap} {L : Ad} {m : Str → Option Value} {news : List (Ad × Obj)} {s : Shared} {Q : Value → Shared → Prop} {x y : Int} {t : Tok} {tk' : Nat}
    (hret : ∀ (t : Tok) (h' : Heap) (tk' : Nat), Fr h₀ L h' m → News h₀ L h' news → Q (.int x t) { s with heap := h', toks := tk' }) (F : Fr h₀ L h' m) (N : News h₀ L h' news) (e : y = x) : Q (.int y t) { s with heap := h', toks := tk' } := by
  subst e; exact hret t h' tk' F N
end
section
open PySem.Spec PySem.Calls
section
variable {prog : Program} {w : World} {A : Around} {E : Value → Shared → Prop} {s : Shared} {h₀ : Heap} {L : PySem.Addr} {m : PySem.Str → Option Value} {env : Env}

/-- a text as a comprehension's source -/
def SrcS (prog : Program) (w : World) (A : Around) (h₀ : Heap) (L : PySem.Addr) (m : PySem.Str → Option Value) (env : Env) (elt : Expr) (x : PySem.Str) (scope : Scope) (cl : List (PySem.Str × PySem.Addr)) (Fin : Shared → List Value → List (PySem.Addr × Obj) → Prop) (xv : Value) (s₁ : Shared) : Prop :=
  ∃ xt tx news, xv = .str xt tx ∧ A.handled = none ∧ Fr h₀ L s₁.heap m ∧ News h₀ L s₁.heap news ∧ xt.cps.size ≤ sizeLine ∧
    ∀ s₂ : Shared, (∃ h, s₂ = { s₁ with heap := h }) → LCg.CompRest prog w A h₀ L m env elt x scope cl s₂ (fun _ => True) (SignAt xt) (Fin s₂) xt.cps.size 0 [] news

theorem SrcS.intro {elt : Expr} {x : PySem.Str} {scope : Scope} {cl : List (PySem.Str × PySem.Addr)} {Fin : Shared → List Value → List (PySem.Addr × Obj) → Prop} {xt : PySem.Str} {tx : Tok} {news : List (PySem.Addr × Obj)} {s₁ : Shared}
    (hh : A.handled = none) (F : Fr h₀ L s₁.heap m) (N : News h₀ L s₁.heap news) (hsz : xt.cps.size ≤ sizeLine)
    (h : ∀ g, LCg.CompRest prog w A h₀ L m env elt x scope cl { s₁ with heap := g } (fun _ => True) (SignAt xt) (Fin { s₁ with heap := g }) xt.cps.size 0 [] news) :
    SrcS prog w A h₀ L m env elt x scope cl Fin (.str xt tx) s₁ := ⟨xt, tx, news, rfl, hh, F, N, hsz, fun _ ⟨g, e⟩ => e ▸ h g⟩

theorem str_st {I : PySem.Addr} {ty : String} {xt : PySem.Str} {tx : Tok} : ∀ i (h h' : Heap) (o : Obj) (nw : List (PySem.Addr × Obj)), h.IsStrIter I ty xt tx i → h.get? I = some o → h'.get? I = some o → (∀ b o, h₀.get? b = some o → h'.get? b = some o) → News h₀ L h' nw → True → h'.IsStrIter I ty xt tx i :=
  fun i h h' o nw st e e' _ _ _ => by obtain ⟨o', q, r⟩ := st; rw [e] at q; cases q; exact ⟨o, e', r⟩

theorem ListComp_S {elt iter : Expr} {x : PySem.Str} {px : Pos} {scope : Scope} {cl : List (PySem.Str × PySem.Addr)} {pos : Pos} {Q : Value → Shared → Prop} (F₀ : Fr h₀ L s.heap m)
    (hclos : closureFor scope env = pure cl) (hcell : ∀ y ∈ scope.names, y.2 ≠ .cell) (hkind : scope.kind = .function)
    (hnames : ∀ y ∈ scope.names, y.2 = .local → scope.names.lookup y.1 = some .local) (hx : scope.names.lookup x = some .local)
    (h : wpAny (model prog w) A (eval iter env) (SrcS prog w A h₀ L m env elt x scope cl (fun s₂ => LCg.FinE h₀ L m s₂ Q)) E s)
    (hs : ∀ x, foldedSetIterable iter env x = pure x := by intro _; rfl) :
    wpAny (model prog w) A (eval (.ListComp elt [⟨.Name x px, iter, [], 0⟩] scope pos) env) Q E s := by
  rw [eval_ListComp]
  refine wpAny_comprehension_free (use := none) rfl hs hclos hkind hnames (wpAny_mono h (fun xv s₁ h₁ => ?_) fun _ _ e => e)
  obtain ⟨xt, tx, news, rfl, hh, F, N, hsz, R⟩ := h₁
  have up : ∀ (o' : Obj) (b : PySem.Addr) o, s₁.heap.get? b = some o → (s₁.heap.push o').get? b = some o := fun o' b o e => Heap.get?_push_of_some _ e
  cases ha : xt.cps.all (· < 128)
  · refine wpAny_pyIter_wide ha ?_
    refine LCg.block_U (Walks.strWide hh s₁.heap.objs.size xt tx) hsz (fun i h st => by obtain ⟨o, e, _⟩ := st; exact ⟨o, e⟩) str_st hcell hkind hx ⟨_, Heap.get?_push_size _ rfl, rfl, rfl⟩ (fun b hb => ?_)
      (F.keeps (up _)) (N.grown (up _)) (Nat.ne_of_lt F.ns.lt) (next_is_new F) (fun p hp => Nat.ne_of_lt (Heap.lt_size (N p hp).1)) trivial (R _ ⟨_, rfl⟩) ?_
    · rw [List.mem_singleton.mp hb]
      show s₁.heap.objs.size < (s₁.heap.push _).objs.size
      rw [Heap.size_push]; exact Nat.lt_succ_self _
    · intro D C h tk m' ys news' F' N' o1 hn hC₀ hD₀ hCL hDL hCD offC fin
      refine ⟨m', hn, fun h'' hs'' => fin D h'' tk (F'.change hs'' hCL hC₀) (fun p hp => ?_) o1⟩
      refine ⟨hs''.extBut _ _ ?_ (N' p hp).1, (N' p hp).2⟩
      rcases List.mem_cons.mp hp with rfl | hp
      · exact Ne.symm hCD
      · exact offC p hp
  · refine wpAny_pyIter_ascii ha ?_
    refine LCg.block_U (Walks.strAscii hh s₁.heap.objs.size xt tx) hsz (fun i h st => by obtain ⟨o, e, _⟩ := st; exact ⟨o, e⟩) str_st hcell hkind hx ⟨_, Heap.get?_push_size _ rfl, rfl, rfl⟩ (fun b hb => ?_)
      (F.keeps (up _)) (N.grown (up _)) (Nat.ne_of_lt F.ns.lt) (next_is_new F) (fun p hp => Nat.ne_of_lt (Heap.lt_size (N p hp).1)) trivial (R _ ⟨_, rfl⟩) ?_
    · rw [List.mem_singleton.mp hb]
      show s₁.heap.objs.size < (s₁.heap.push _).objs.size
      rw [Heap.size_push]; exact Nat.lt_succ_self _
    · intro D C h tk m' ys news' F' N' o1 hn hC₀ hD₀ hCL hDL hCD offC fin
      refine ⟨m', hn, fun h'' hs'' => fin D h'' tk (F'.change hs'' hCL hC₀) (fun p hp => ?_) o1⟩
      refine ⟨hs''.extBut _ _ ?_ (N' p hp).1, (N' p hp).2⟩
      rcases List.mem_cons.mp hp with rfl | hp
      · exact Ne.symm hCD
      · exact offC p hp

theorem Assign_ListComp_S {elt iter : Expr} {x y : PySem.Str} {px py : Pos} {scope : Scope} {cl : List (PySem.Str × PySem.Addr)} {pos spos : Pos} {Q : Flow → Shared → Prop} (F₀ : Fr h₀ L s.heap m) (hLe : env.locals = L)
    (hsw : swapsWith (.ListComp elt [⟨.Name x px, iter, [], 0⟩] scope pos) (some (.Name y py)) spos.line env = pure true)
    (hclos : closureFor scope env = pure cl) (hcell : ∀ z ∈ scope.names, z.2 ≠ .cell) (hkind : scope.kind = .function)
    (hnames : ∀ z ∈ scope.names, z.2 = .local → scope.names.lookup z.1 = some .local) (hx : scope.names.lookup x = some .local)
    (hy : env.kindOf y = some .local) (hp : (env.scope.kind == .class || (env.scope.kind == .module && env.locals != env.globals)) = false)
    (h : wpAny (model prog w) A (eval iter env) (SrcS prog w A h₀ L m env elt x scope cl (fun s₂ => LCg.FinA h₀ L m s₂ y Q)) E s)
    (hs : ∀ x, foldedSetIterable iter env x = pure x := by intro _; rfl) :
    wpAny (model prog w) A (exec (.Assign [.Name y py] (.ListComp elt [⟨.Name x px, iter, [], 0⟩] scope pos) spos) env) Q E s := by
  subst hLe
  rw [exec_Assign_Name_used _ _ _ _ hsw]
  refine wpAny_bind (wpAny_standAt (wpAny_bind ?_))
  show wpAny _ A (do let _ ← comprehension (.ListComp elt [⟨.Name x px, iter, [], 0⟩] scope pos) scope env _ (newList []) false (eval iter env) (some (assign (.Name y py) env))) _ _ s
  refine wpAny_bind (wpAny_mono (wpAny_comprehension_free (use := some (assign (.Name y py) env)) (Q := fun _ s' => Q .next s') rfl hs hclos hkind hnames
    (wpAny_mono h (fun xv s₁ h₁ => ?_) fun _ _ e => e)) (fun _ s' hq => wpAny_pure (wpAny_pure hq)) fun _ _ e => e)
  obtain ⟨xt, tx, news, rfl, hh, F, N, hsz, R⟩ := h₁
  have up : ∀ (o' : Obj) (b : PySem.Addr) o, s₁.heap.get? b = some o → (s₁.heap.push o').get? b = some o := fun o' b o e => Heap.get?_push_of_some _ e
  have last : ∀ D C h' tk m' ys news', Fr h₀ env.locals h' m → News h₀ env.locals h' ((D, LCg.lst ys) :: news') → LCg.Off1 D news' → h'.Ns C m' → h₀.get? C = none → h₀.get? D = none → C ≠ env.locals → D ≠ env.locals → C ≠ D → (∀ p ∈ news', p.1 ≠ C) →
      (∀ g, LCg.FinA h₀ env.locals m { s₁ with heap := g } y Q ys news') → wpAny (model prog w) A (assign (.Name y py) env (.ref D)) (fun _ s' => ∃ m', s'.heap.Ns C m' ∧ ∀ h'', Heap.SameBut C s'.heap h'' → Q .next { s' with heap := h'' }) E { s₁ with heap := h', toks := tk } := by
    intro D C h' tk m' ys news' F' N' o1 hn hC₀ hD₀ hCL hDL hCD offC fin
    refine wpAny_assign_Name (wpAny_storeName_local hy F'.ns (fun h₂ hn₂ hs₂ => ?_) hp)
    have hL₀ : h₀.get? env.locals = none := Heap.get?_none_of_le F'.above
    have F₂ : Fr h₀ env.locals h₂ (fun z => if z = y then some (.ref D) else m z) := ⟨hn₂, fun b o e => hs₂.extBut b o (fun q => by rw [q, hL₀] at e; cases e) (F'.keep b o e), F'.above⟩
    refine ⟨m', hn.sameBut hs₂ hCL, fun h'' hs'' => fin s₁.heap D h'' _ (F₂.change hs'' hCL hC₀) (fun p hp => ?_) o1⟩
    have z : h₂.get? p.1 = some p.2 := hs₂.extBut _ _ (N' p hp).2.1 (N' p hp).1
    refine ⟨hs''.extBut _ _ ?_ z, (N' p hp).2⟩
    rcases List.mem_cons.mp hp with rfl | hp
    · exact Ne.symm hCD
    · exact offC p hp
  cases ha : xt.cps.all (· < 128)
  · refine wpAny_pyIter_wide ha ?_
    refine LCg.block_U (Walks.strWide hh s₁.heap.objs.size xt tx) hsz (fun i h st => by obtain ⟨o, e, _⟩ := st; exact ⟨o, e⟩) str_st hcell hkind hx ⟨_, Heap.get?_push_size _ rfl, rfl, rfl⟩ (fun b hb => ?_)
      (F.keeps (up _)) (N.grown (up _)) (Nat.ne_of_lt F.ns.lt) (next_is_new F) (fun p hp => Nat.ne_of_lt (Heap.lt_size (N p hp).1)) trivial (R _ ⟨_, rfl⟩) ?_
    · rw [List.mem_singleton.mp hb]
      show s₁.heap.objs.size < (s₁.heap.push _).objs.size
      rw [Heap.size_push]; exact Nat.lt_succ_self _
    · intro D C h' tk m' ys news' F' N' o1 hn hC₀ hD₀ hCL hDL hCD offC fin
      exact last D C h' tk m' ys news' F' N' o1 hn hC₀ hD₀ hCL hDL hCD offC fun _ => fin
  · refine wpAny_pyIter_ascii ha ?_
    refine LCg.block_U (Walks.strAscii hh s₁.heap.objs.size xt tx) hsz (fun i h st => by obtain ⟨o, e, _⟩ := st; exact ⟨o, e⟩) str_st hcell hkind hx ⟨_, Heap.get?_push_size _ rfl, rfl, rfl⟩ (fun b hb => ?_)
      (F.keeps (up _)) (N.grown (up _)) (Nat.ne_of_lt F.ns.lt) (next_is_new F) (fun p hp => Nat.ne_of_lt (Heap.lt_size (N p hp).1)) trivial (R _ ⟨_, rfl⟩) ?_
    · rw [List.mem_singleton.mp hb]
      show s₁.heap.objs.size < (s₁.heap.push _).objs.size
      rw [Heap.size_push]; exact Nat.lt_succ_self _
    · intro D C h' tk m' ys news' F' N' o1 hn hC₀ hD₀ hCL hDL hCD offC fin
      exact last D C h' tk m' ys news' F' N' o1 hn hC₀ hD₀ hCL hDL hCD offC fun _ => fin

/-- the turns of a comprehension by what holds between them -/
theorem rest_inv {elt : Expr} {x : PySem.Str} {scope : Scope} {cl : List (PySem.Str × PySem.Addr)} {S : List (PySem.Addr × Obj) → Prop} {P : Nat → Value → Prop} {Fin : List Value → List (PySem.Addr × Obj) → Prop} {n : Nat} {news : List (PySem.Addr × Obj)}
    (Inv : Nat → List Value → List (PySem.Addr × Obj) → Prop) (h0 : Inv 0 [] news)
    (turn : ∀ i ys nx v I oI C oC D m₂ h tk (E' : Value → Shared → Prop), i < n → Inv i ys nx → P i v → LCg.NsObj oC m₂ → m₂ x = some v → Fr h₀ L h m → News h₀ L h ((I, oI) :: (C, oC) :: (D, LCg.lst ys) :: nx) → LCg.Off3 I C D nx → ((@Ne Nat I C) ∧ (@Ne Nat I D) ∧ (@Ne Nat C D)) →
      wpAny (model prog w) A (eval elt (compEnvC scope cl C env)) (LCg.CompEnd h₀ L m { s with heap := h, toks := tk } I oI C oC D (LCg.lst ys) S (fun y nx' => Inv (i + 1) (ys ++ [y]) nx')) E' { s with heap := h, toks := tk })
    (fin : ∀ ys nx, Inv n ys nx → Fin ys nx) : LCg.CompRest prog w A h₀ L m env elt x scope cl s S P Fin n 0 [] news := by
  have key : ∀ (j i : Nat) (ys : List Value) (nx : List (PySem.Addr × Obj)), i + j = n → Inv i ys nx → LCg.CompRest prog w A h₀ L m env elt x scope cl s S P Fin j i ys nx := by
    intro j
    induction j with
    | zero =>
      intro i ys nx hi hy
      obtain rfl : i = n := hi
      exact LCg.CompRest.zero (fin ys nx hy)
    | succ j ih =>
      intro i ys nx hi hy
      refine LCg.CompRest.succ ?_
      intro v I oI C oC D m₂ h tk E' hv hC hx F N off ne
      refine wpAny_mono (turn i ys nx v I oI C oC D m₂ h tk E' (by omega) hy hv hC hx F N off ne) (fun y s₂ hq => ?_) fun _ _ e => e
      obtain ⟨h', tk', nw, e, F', N', off', hS, hI⟩ := hq
      exact ⟨h', tk', nw, e, F', N', off', hS, ih (i + 1) _ _ (by omega) hI⟩
  exact key n 0 [] news (by omega) h0

/-- one text for each sign -/
def SignEl (nx : List (PySem.Addr × Obj)) (r : PySem.Str) (y : Value) (nx' : List (PySem.Addr × Obj)) : Prop := nx' = nx ∧ ∃ t : Tok, y = .str r t
theorem signs_rest {elt : Expr} {x : PySem.Str} {scope : Scope} {cl : List (PySem.Str × PySem.Addr)} {S : List (PySem.Addr × Obj) → Prop} {Fin : List Value → List (PySem.Addr × Obj) → Prop} {news : List (PySem.Addr × Obj)} {xt : PySem.Str} (g : Nat → PySem.Str)
    (turn : ∀ ys c t I oI C oC D m₂ h tk (E' : Value → Shared → Prop), c ∈ xt.cps.toList → LCg.NsObj oC m₂ → m₂ x = some (.str ⟨#[c]⟩ t) → Fr h₀ L h m → News h₀ L h ((I, oI) :: (C, oC) :: (D, LCg.lst ys) :: news) → LCg.Off3 I C D news → ((@Ne Nat I C) ∧ (@Ne Nat I D) ∧ (@Ne Nat C D)) →
      wpAny (model prog w) A (eval elt (compEnvC scope cl C env)) (LCg.CompEnd h₀ L m { s with heap := h, toks := tk } I oI C oC D (LCg.lst ys) S (SignEl news (g c))) E' { s with heap := h, toks := tk })
    (fin : ∀ ys, StrsAre ys (xt.cps.toList.map g) → Fin ys news) : LCg.CompRest prog w A h₀ L m env elt x scope cl s S (SignAt xt) Fin xt.cps.size 0 [] news := by
  refine rest_inv (fun i ys nx => nx = news ∧ StrsAre ys ((xt.cps.toList.take i).map g)) ⟨rfl, by simpa using StrsAre.nil⟩ ?_ ?_
  · rintro i ys nx v I oI C oC D m₂ h tk E' hi ⟨rfl, hy⟩ ⟨c, u, hc, rfl⟩ hC hx F N off ne
    have hc' : xt.cps.toList[i]? = some c := by simpa using hc
    refine wpAny_mono (turn ys c u I oI C oC D m₂ h tk E' (List.mem_of_getElem? hc') hC hx F N off ne) (fun y s₂ hq => ?_) fun _ _ e => e
    obtain ⟨h', tk', nw, e, F', N', off', hS, hn, t', hy'⟩ := hq
    refine ⟨h', tk', nw, e, F', N', off', hS, hn, ?_⟩
    rw [hy', List.take_add_one, hc']
    simpa using StrsAre.append' hy (.cons (g c) t' .nil)
  · rintro ys nx ⟨rfl, hy⟩
    rw [← Array.length_toList, List.take_length] at hy
    exact fin ys hy

/-- texts glued with nothing between -/
def flat (zs : List PySem.Str) : PySem.Str := ⟨(zs.flatMap fun z => z.cps.toList).toArray⟩
theorem flat_nil : flat [] = ⟨#[]⟩ := rfl
theorem flat_cons (z : PySem.Str) (zs : List PySem.Str) : flat (z :: zs) = z ++ flat zs := by
  refine PySem.Str.ext' (Array.toList_inj.mp ?_)
  rw [PySem.Str.cps_append, Array.toList_append]
  simp [flat]
theorem join_flat (zs : List PySem.Str) : Txt.join (Str.ofString "") zs = flat zs := by
  show Builtin.Str.glued (Str.ofString "") zs = _
  rw [StrLaws.glued_eq_join]
  have e0 : ∀ x : PySem.Str, x ++ Str.ofString "" = x := fun x => by
    refine PySem.Str.ext' (Array.toList_inj.mp ?_)
    rw [PySem.Str.cps_append, Array.toList_append]
    show x.cps.toList ++ [] = _
    simp
  induction zs with
  | nil => rfl
  | cons z r ih =>
    cases r with
    | nil =>
      rw [flat_cons, flat_nil]
      exact (e0 z).symm
    | cons y r' =>
      show z ++ Str.ofString "" ++ Str.join _ (y :: r') = _
      rw [e0, ih, ← flat_cons]
theorem join_S {t : Tok} {Q : Value → Shared → Prop} {D : PySem.Addr} {ys : List Value} {zs : List PySem.Str} (hl : s.heap.IsList D ys.toArray) (hz : StrsAre ys zs) (hB : ∀ a ∈ zs, a.length ≤ 8) (hn : zs.length ≤ 4096)
    (h : ∀ t' k, Q (.str (flat zs) t') { s with toks := k }) : wpAny (model prog w) A (call (.builtin "str.join") [.str (Str.ofString "") t, .ref D]) Q E s :=
  KT.join_B (l := zs) (g := fun a => a) 8 hl (by simpa using hz.carried) hB (by omega) (by decide) fun t' k => by
    have e : zs.map (fun a => a) = zs := List.map_id zs
    rw [e, join_flat]; exact h t' k
end
end
section
def greatC (c : Nat) : Nat := if 97 ≤ c ∧ c ≤ 122 then c - 32 else c
def smallC (c : Nat) : Nat := if 65 ≤ c ∧ c ≤ 90 then c + 32 else c
def great (x : PySem.Str) : PySem.Str := ⟨x.cps.map greatC⟩
def small (x : PySem.Str) : PySem.Str := ⟨x.cps.map smallC⟩

theorem great_one (c : Nat) : great ⟨#[c]⟩ = ⟨#[greatC c]⟩ := by simp [great]
theorem small_one (c : Nat) : small ⟨#[c]⟩ = ⟨#[smallC c]⟩ := by simp [small]
theorem one_of {x : PySem.Str} (h : x.length = 1) : ∃ c, x = ⟨#[c]⟩ := by
  obtain ⟨⟨l⟩⟩ := x
  change l.length = 1 at h
  match l, h with
  | [c], _ => exact ⟨c, rfl⟩

theorem great_len (x : PySem.Str) : (great x).length = x.length := by simp [great, PySem.Str.length]
theorem small_len (x : PySem.Str) : (small x).length = x.length := by simp [small, PySem.Str.length]

/-- the first sign turned, the rest as it stood -/
def firstBy (f : Nat → Nat) (x : PySem.Str) : PySem.Str := ⟨(match x.cps.toList with | [] => [] | c :: r => f c :: r).toArray⟩
def ordOf (x : PySem.Str) : Int := match x.cps.toList with | [] => 0 | c :: _ => (c : Int)
theorem eq_nil_iff (x : PySem.Str) : (x == Str.ofString "") = true ↔ x = ⟨#[]⟩ := by
  rw [beq_iff_eq]; rfl
theorem ne_nil_iff (x : PySem.Str) : (x == Str.ofString "") = false ↔ ∃ c r, x = ⟨(c :: r).toArray⟩ := by
  obtain ⟨⟨l⟩⟩ := x
  cases l with
  | nil => simp only [beq_eq_false_iff_ne, ne_eq]; exact ⟨fun h => absurd rfl h, fun ⟨c, r, e⟩ => by simp at e⟩
  | cons c r => exact ⟨fun _ => ⟨c, r, rfl⟩, fun _ => beq_eq_false_iff_ne.mpr fun e => nomatch (congrArg (fun z : PySem.Str => z.cps.toList) e : c :: r = [])⟩
theorem item_zero (c : Nat) (r : List Nat) : Txt.item ⟨(c :: r).toArray⟩ 0 = ⟨#[c]⟩ := by
  simp [Txt.item, Txt.charAt, seqIndex?, PySem.Str.length]

/-! slices, whatever the ends -/
theorem idx_clip {i j : Int} {n : Nat} (h0 : 0 ≤ i) (h1 : i ≤ j) : Builtin.Str.strSliceIndices (some i) (some j) 1 n = Builtin.Str.strSliceIndices (some (min i n)) (some (min j n)) 1 n := by
  have a : ¬ i < 0 := by omega
  have b : ¬ j < 0 := by omega
  have a' : ¬ min i (n : Int) < 0 := by omega
  have b' : ¬ min j (n : Int) < 0 := by omega
  simp only [Builtin.Str.strSliceIndices, a, b, a', b', if_false, show ((1 : Int) > 0) = True from by simp, if_true, Int.min_assoc, Int.min_self]
theorem sl_ss (x : PySem.Str) {i j : Int} (h0 : 0 ≤ i) (h1 : i ≤ j) : Txt.slice x (some i) (some j) = ⟨((x.cps.toList.drop i.toNat).take (j - i).toNat).toArray⟩ := by
  have e : Txt.slice x (some i) (some j) = StrLaws.sliceText x (some (min i x.length)) (some (min j x.length)) := by
    unfold Txt.slice StrLaws.sliceText
    rw [idx_clip h0 h1]
  have hn : x.cps.toList.length = x.length := by simp [PySem.Str.length]
  rw [e, StrLaws.sliceText_plain ⟨by omega, by omega, by rw [hn]; omega⟩]
  congr 2
  by_cases hi : i ≤ x.length
  · have ei : min i (x.length : Int) = i := by omega
    rw [ei]
    by_cases hj : j ≤ x.length
    · have ej : min j (x.length : Int) = j := by omega
      rw [ej]
    · have ej : min j (x.length : Int) = x.length := by omega
      rw [ej, List.take_of_length_le (by simp [hn]; omega), List.take_of_length_le (by simp [hn]; omega)]
  · have e1 : (min i (x.length : Int)).toNat = x.cps.toList.length := by rw [hn]; omega
    rw [e1, List.drop_length, List.drop_of_length_le (by rw [hn]; omega)]
    simp
theorem sl_ns (x : PySem.Str) {j : Int} (h : 0 ≤ j) : Txt.slice x none (some j) = ⟨(x.cps.toList.take j.toNat).toArray⟩ := by
  have e : Txt.slice x none (some j) = Txt.slice x (some 0) (some j) := by unfold Txt.slice; rw [StrLaws.sliceIdx_none_lo]
  rw [e, sl_ss x (Int.le_refl 0) h]
  simp
theorem sl_sn (x : PySem.Str) {i : Int} (h : 0 ≤ i) : Txt.slice x (some i) none = ⟨(x.cps.toList.drop i.toNat).toArray⟩ := by
  have hn : x.cps.toList.length = x.length := by simp [PySem.Str.length]
  by_cases hi : i ≤ x.length
  · have e : Txt.slice x (some i) none = Txt.slice x (some i) (some (x.length : Int)) := by unfold Txt.slice; rw [StrLaws.sliceIdx_none_hi]
    rw [e, sl_ss x h hi, List.take_of_length_le (by simp [hn]; omega)]
  · have e : Txt.slice x (some i) none = Txt.slice x (some i) (some i) := by
      unfold Txt.slice
      have a : ¬ i < 0 := by omega
      have b : ¬ ((x.length : Int) < 0) := by omega
      have c : max (0 : Int) (min i (x.length : Int)) = x.length := by omega
      rw [StrLaws.sliceIdx_none_hi]
      simp [Builtin.Str.strSliceIndices, a, b, c]
    rw [e, sl_ss x h (Int.le_refl _), List.drop_of_length_le (by rw [hn]; omega)]
    simp

/-- one sign in a written text: where it is found -/
def At (x : PySem.Str) (c : Nat) : Option Nat := x.cps.toList.findIdx? (· == c)

theorem find_none {x : PySem.Str} {c : Nat} (h : c ∉ x.cps.toList) : Txt.find x ⟨#[c]⟩ = -1 := by
  have e := StrLaws.found_one x c
  rw [decide_eq_false h, Bool.not_eq_false', List.isEmpty_iff] at e
  unfold Txt.find
  rw [e]

theorem small_empty (c : Nat) : (Builtin.Str.occurrences (Str.ofString "abcdefghijklmnopqrstuvwxyz") ⟨#[c]⟩ 0 (Str.ofString "abcdefghijklmnopqrstuvwxyz").length 1).isEmpty = !decide (97 ≤ c ∧ c ≤ 122) := by
  rw [← Bool.not_not (List.isEmpty _), StrLaws.found_one]
  congr 1
  by_cases h : c < 128
  · have := (by decide +kernel : ∀ c : Fin 128, decide (c.val ∈ (Str.ofString "abcdefghijklmnopqrstuvwxyz").cps.toList) = decide (97 ≤ c.val ∧ c.val ≤ 122)) ⟨c, h⟩
    exact this
  · have h2 : decide (97 ≤ c ∧ c ≤ 122) = false := decide_eq_false (by omega)
    rw [h2]
    refine decide_eq_false fun hm => ?_
    have := (by decide +kernel : ∀ c ∈ (Str.ofString "abcdefghijklmnopqrstuvwxyz").cps.toList, c < 128) c hm
    omega
theorem small_find (c : Nat) : Txt.find (Str.ofString "abcdefghijklmnopqrstuvwxyz") ⟨#[c]⟩ = if 97 ≤ c ∧ c ≤ 122 then (c : Int) - 97 else -1 := by
  by_cases h : c < 128
  · exact (by decide +kernel : ∀ c : Fin 128, Txt.find (Str.ofString "abcdefghijklmnopqrstuvwxyz") ⟨#[c.val]⟩ = if 97 ≤ c.val ∧ c.val ≤ 122 then (c.val : Int) - 97 else -1) ⟨c, h⟩
  · rw [if_neg (by omega)]
    refine find_none fun hm => ?_
    have := (by decide +kernel : ∀ c ∈ (Str.ofString "abcdefghijklmnopqrstuvwxyz").cps.toList, c < 128) c hm
    omega
theorem great_empty (c : Nat) : (Builtin.Str.occurrences (Str.ofString "ABCDEFGHIJKLMNOPQRSTUVWXYZ") ⟨#[c]⟩ 0 (Str.ofString "ABCDEFGHIJKLMNOPQRSTUVWXYZ").length 1).isEmpty = !decide (65 ≤ c ∧ c ≤ 90) := by
  rw [← Bool.not_not (List.isEmpty _), StrLaws.found_one]
  congr 1
  by_cases h : c < 128
  · have := (by decide +kernel : ∀ c : Fin 128, decide (c.val ∈ (Str.ofString "ABCDEFGHIJKLMNOPQRSTUVWXYZ").cps.toList) = decide (65 ≤ c.val ∧ c.val ≤ 90)) ⟨c, h⟩
    exact this
  · have h2 : decide (65 ≤ c ∧ c ≤ 90) = false := decide_eq_false (by omega)
    rw [h2]
    refine decide_eq_false fun hm => ?_
    have := (by decide +kernel : ∀ c ∈ (Str.ofString "ABCDEFGHIJKLMNOPQRSTUVWXYZ").cps.toList, c < 128) c hm
    omega
theorem great_find (c : Nat) : Txt.find (Str.ofString "ABCDEFGHIJKLMNOPQRSTUVWXYZ") ⟨#[c]⟩ = if 65 ≤ c ∧ c ≤ 90 then (c : Int) - 65 else -1 := by
  by_cases h : c < 128
  · exact (by decide +kernel : ∀ c : Fin 128, Txt.find (Str.ofString "ABCDEFGHIJKLMNOPQRSTUVWXYZ") ⟨#[c.val]⟩ = if 65 ≤ c.val ∧ c.val ≤ 90 then (c.val : Int) - 65 else -1) ⟨c, h⟩
  · rw [if_neg (by omega)]
    refine find_none fun hm => ?_
    have := (by decide +kernel : ∀ c ∈ (Str.ofString "ABCDEFGHIJKLMNOPQRSTUVWXYZ").cps.toList, c < 128) c hm
    omega
theorem great_item (c : Nat) (h : 97 ≤ c ∧ c ≤ 122) : Txt.item (Str.ofString "ABCDEFGHIJKLMNOPQRSTUVWXYZ") ((c : Int) - 97) = ⟨#[c - 32]⟩ :=
  (by decide +kernel : ∀ c : Fin 128, 97 ≤ c.val ∧ c.val ≤ 122 → Txt.item (Str.ofString "ABCDEFGHIJKLMNOPQRSTUVWXYZ") ((c.val : Int) - 97) = ⟨#[c.val - 32]⟩) ⟨c, by omega⟩ h
theorem small_item (c : Nat) (h : 65 ≤ c ∧ c ≤ 90) : Txt.item (Str.ofString "abcdefghijklmnopqrstuvwxyz") ((c : Int) - 65) = ⟨#[c + 32]⟩ :=
  (by decide +kernel : ∀ c : Fin 128, 65 ≤ c.val ∧ c.val ≤ 90 → Txt.item (Str.ofString "abcdefghijklmnopqrstuvwxyz") ((c.val : Int) - 65) = ⟨#[c.val + 32]⟩) ⟨c, by omega⟩ h

theorem firstBy_nil (f : Nat → Nat) : firstBy f ⟨#[]⟩ = ⟨#[]⟩ := rfl
theorem firstBy_cons (f : Nat → Nat) (c : Nat) (r : List Nat) : firstBy f ⟨(c :: r).toArray⟩ = ⟨(f c :: r).toArray⟩ := rfl
theorem cons_app (c : Nat) (r : List Nat) : (⟨#[c]⟩ : PySem.Str) ++ ⟨r.toArray⟩ = ⟨(c :: r).toArray⟩ := PySem.Str.ext' (Array.toList_inj.mp (by rw [PySem.Str.cps_append, Array.toList_append]; rfl))
theorem tail_cons (c : Nat) (r : List Nat) : Txt.slice ⟨(c :: r).toArray⟩ (some 1) none = ⟨r.toArray⟩ := by rw [sl_sn _ (by decide)]; rfl

/-- what a sign is worth as a figure -/
def worthC (c : Nat) : Int := if 48 ≤ c ∧ c ≤ 57 then (c : Int) - 48 else if 97 ≤ c ∧ c ≤ 102 then (c : Int) - 87 else if 65 ≤ c ∧ c ≤ 70 then (c : Int) - 55 else -1
def figC (c : Nat) (b : Int) : Int := if worthC c ≥ b then -1 else worthC c
def figW (x : PySem.Str) (b : Int) : Int := match x.cps.toList with | [] => -1 | c :: _ => figC c b
theorem worthC_range (c : Nat) : -1 ≤ worthC c ∧ worthC c ≤ 15 := by unfold worthC; (repeat' split) <;> omega
theorem base_find (c : Nat) : Txt.find (Str.ofString "0123456789abcdef") ⟨#[smallC c]⟩ = worthC c := by
  by_cases h : c < 128
  · exact (by decide +kernel : ∀ c : Fin 128, Txt.find (Str.ofString "0123456789abcdef") ⟨#[smallC c.val]⟩ = worthC c.val) ⟨c, h⟩
  · have e : smallC c = c := if_neg (by omega)
    have e2 : worthC c = -1 := by unfold worthC; rw [if_neg (by omega), if_neg (by omega), if_neg (by omega)]
    rw [e, e2]
    refine find_none fun hm => ?_
    have := (by decide +kernel : ∀ c ∈ (Str.ofString "0123456789abcdef").cps.toList, c < 128) c hm
    omega

/-- which signs stand unguarded -/
def nameC (c : Nat) : Bool := decide ((65 ≤ c ∧ c ≤ 90) ∨ (97 ≤ c ∧ c ≤ 122) ∨ (48 ≤ c ∧ c ≤ 57) ∨ c = 95)
def quoteC (c : Nat) : PySem.Str := if nameC c = true ∨ 128 ≤ c then ⟨#[c]⟩ else ⟨#[92, c]⟩
def quoteS (x : PySem.Str) : PySem.Str := flat (x.cps.toList.map quoteC)
def quoteI (l : List Int) : PySem.Str := flat (l.map fun n => quoteC n.toNat)
abbrev names : PySem.Str := Str.ofString "ABCDEFGHIJKLMNOPQRSTUVWXYZabcdefghijklmnopqrstuvwxyz0123456789_"
theorem names_empty (c : Nat) : (Builtin.Str.occurrences names ⟨#[c]⟩ 0 names.length 1).isEmpty = !nameC c := by
  rw [← Bool.not_not (List.isEmpty _), StrLaws.found_one]
  congr 1
  by_cases h : c < 128
  · have := (by decide +kernel : ∀ c : Fin 128, decide (c.val ∈ names.cps.toList) = nameC c.val) ⟨c, h⟩
    exact this
  · have h2 : nameC c = false := decide_eq_false (by omega)
    rw [h2]
    refine decide_eq_false fun hm => ?_
    have := (by decide +kernel : ∀ c ∈ names.cps.toList, c < 128) c hm
    omega
theorem quoteI_snoc (l : List Int) (n : Nat) : quoteI (l ++ [(n : Int)]) = quoteI l ++ quoteC n := by
  have : ∀ zs : List PySem.Str, ∀ z, flat (zs ++ [z]) = flat zs ++ z := fun zs z => PySem.Str.ext' (Array.toList_inj.mp (by rw [PySem.Str.cps_append, Array.toList_append]; simp [flat]))
  unfold quoteI
  rw [List.map_append, List.map_cons, List.map_nil, this, Int.toNat_natCast]
theorem quoteI_codes (x : PySem.Str) : quoteI (KStt.codes x) = quoteS x := by
  unfold quoteI quoteS KStt.codes
  rw [List.map_map]
  rfl
theorem quoteC_len (c : Nat) : (quoteC c).length ≤ 2 := by unfold quoteC; split <;> exact Nat.le_of_ble_eq_true rfl
end
section
/-- the figures that are read, a low line let where a figure follows -/
noncomputable def figs (b : Int) : List Nat → List Int
  | [] => []
  | [c] => if figC c b < 0 then [] else [figC c b]
  | c :: d :: r => if c = 95 ∧ 0 ≤ figC d b then figC d b :: figs b r else if figC c b < 0 then [] else figC c b :: figs b (d :: r)
noncomputable def sat (b M n : Int) (ds : List Int) : Int := ds.foldl (fun n d => min (n * b + d) M) n
/-- the number of either sign that the bits are -/
noncomputable def signed (wd : Nat) (n : Int) : Int := if 2 ^ (wd - 1) ≤ n then n - 2 ^ wd else n
noncomputable def readV (b : Int) (wd : Nat) (l : List Nat) : Int := signed wd (sat b (2 ^ wd - 1) 0 (figs b l))

theorem figC_low (b : Int) (_ : 0 ≤ b) : figC 95 b = -1 := by
  have : worthC 95 = -1 := by decide
  unfold figC; rw [this]; split <;> rfl
theorem drop_at {x : PySem.Str} {i : Int} (h0 : 0 ≤ i) (h1 : i < x.length) : ∃ c r, x.cps.toList.drop i.toNat = c :: r ∧ Txt.item x i = ⟨#[c]⟩ ∧ x.cps.toList.drop (i + 1).toNat = r := by
  have hl : i.toNat < x.cps.toList.length := by simp only [PySem.Str.length] at h1; simp; omega
  refine ⟨x.cps.toList[i.toNat], x.cps.toList.drop (i.toNat + 1), List.drop_eq_getElem_cons hl, ?_, by congr 1; omega⟩
  unfold Txt.item Txt.charAt
  rw [StrLaws.seqIndex_nonneg h0 h1]
  have hl' : i.toNat < x.cps.size := by simpa using hl
  simp [hl']
theorem drop_out {x : PySem.Str} {i : Int} (h1 : ¬ i < x.length) : x.cps.toList.drop i.toNat = [] := List.drop_of_length_le (by simp only [PySem.Str.length] at h1; simp; omega)
theorem slice_one {x : PySem.Str} {i j : Int} (h0 : 0 ≤ i) (h : j = i + 1) : Txt.slice x (some i) (some j) = ⟨((x.cps.toList.drop i.toNat).take 1).toArray⟩ := by
  subst h
  rw [sl_ss x h0 (by omega)]
  have : (i + 1 - i).toNat = 1 := by omega
  rw [this]
theorem slice_le1 {x : PySem.Str} {i j : Int} (h0 : 0 ≤ i) (h : j = i + 1) : (Txt.slice x (some i) (some j)).length ≤ 1 := by
  rw [slice_one h0 h]
  show (List.toArray _).size ≤ 1
  simp; omega
theorem figW_one (c : Nat) (b : Int) : figW ⟨#[c]⟩ b = figC c b := rfl
theorem figW_take (l : List Nat) (b : Int) : figW ⟨(l.take 1).toArray⟩ b = match l with | [] => -1 | c :: _ => figC c b := by
  cases l <;> rfl
theorem figW_lt {x : PySem.Str} {i j b : Int} (h0 : 0 ≤ i) (h : j = i + 1) (hf : 0 ≤ figW (Txt.slice x (some i) (some j)) b) : i < x.length := by
  apply Decidable.byContradiction
  intro hn
  rw [slice_one h0 h, figW_take, drop_out hn] at hf
  simp at hf
theorem sign_eq (c d : Nat) : ((⟨#[c]⟩ : PySem.Str) == ⟨#[d]⟩) = decide (c = d) := by
  by_cases h : c = d
  · subst h; simp
  · rw [decide_eq_false h]
    exact beq_eq_false_iff_ne.mpr fun e => h (by have := congrArg (fun z : PySem.Str => z.cps.toList) e; simpa using this)
theorem low_is : (Str.ofString "_" : PySem.Str) = ⟨#[95]⟩ := by decide +kernel

/-! the reading's turns -/
def ReadInv (x : PySem.Str) (b M a i n : Int) : Prop := 0 ≤ i ∧ i ≤ x.length ∧ 0 ≤ n ∧ n ≤ M ∧ sat b M n (figs b (x.cps.toList.drop i.toNat)) = sat b M 0 (figs b (x.cps.toList.drop a.toNat))
theorem read_start {x : PySem.Str} {b M a : Int} (h0 : 0 ≤ a ∧ a ≤ x.length) (hM : 0 ≤ M) : ReadInv x b M a a 0 := ⟨h0.1, h0.2, by omega, hM, rfl⟩
section
variable {x : PySem.Str} {b M a i n : Int}
theorem sat_range {n d : Int} (hb : 0 ≤ b) (hn : 0 ≤ n) (hM : 0 ≤ M) (hd : 0 ≤ d) : 0 ≤ min (n * b + d) M ∧ min (n * b + d) M ≤ M := by
  have := Int.mul_nonneg hn hb
  omega
theorem read_skip (hb : 0 ≤ b) (hI : ReadInv x b M a i n) (h1 : i < x.length) (hu : (Txt.item x i == Str.ofString "_") = true) (hs : 0 ≤ figW (Txt.slice x (some (i + 1)) (some (i + 2))) b) :
    ReadInv x b M a (i + 1 + 1) (min (n * b + figW (Txt.item x (i + 1)) b) M) ∧ i + 1 < x.length ∧ 0 ≤ figW (Txt.item x (i + 1)) b := by
  obtain ⟨i0, i1, n0, n1, e⟩ := hI
  have h2 := figW_lt (by omega) (by omega) hs
  obtain ⟨c, r, e1, e2, e3⟩ := drop_at i0 h1
  obtain ⟨d, r', f1, f2, f3⟩ := drop_at (i := i + 1) (by omega) h2
  rw [e2, low_is, sign_eq, decide_eq_true_eq] at hu
  subst hu
  rw [slice_one (by omega) (by omega), figW_take, f1] at hs
  simp only at hs
  rw [f2, figW_one]
  have er : r = d :: r' := by rw [← e3, f1]
  have hr := sat_range hb n0 (Int.le_trans n0 n1) hs (b := b) (M := M)
  refine ⟨⟨by omega, by omega, hr.1, hr.2, ?_⟩, h2, hs⟩
  rw [f3, ← e, e1, er, figs, if_pos ⟨rfl, hs⟩]
  rfl
theorem read_step (hb : 0 ≤ b) (hI : ReadInv x b M a i n) (h1 : i < x.length) (hs : 0 ≤ figW (Txt.item x i) b) :
    ReadInv x b M a (i + 1) (min (n * b + figW (Txt.item x i) b) M) := by
  obtain ⟨i0, i1, n0, n1, e⟩ := hI
  obtain ⟨c, r, e1, e2, e3⟩ := drop_at i0 h1
  rw [e2, figW_one] at hs ⊢
  have hr := sat_range hb n0 (Int.le_trans n0 n1) hs (b := b) (M := M)
  refine ⟨by omega, by omega, hr.1, hr.2, ?_⟩
  rw [e3, ← e, e1]
  have hc : c ≠ 95 := fun hc => by rw [hc, figC_low b hb] at hs; omega
  cases r with
  | nil => rw [figs, figs, if_neg (by omega)]; rfl
  | cons d r => rw [figs, if_neg (fun h => hc h.1), if_neg (by omega)]; rfl
theorem read_end (hI : ReadInv x b M a i n) (he : figs b (x.cps.toList.drop i.toNat) = []) : n = sat b M 0 (figs b (x.cps.toList.drop a.toNat)) := by
  rw [← hI.2.2.2.2, he]; rfl
theorem read_out (hI : ReadInv x b M a i n) (h1 : ¬ i < x.length) : n = sat b M 0 (figs b (x.cps.toList.drop a.toNat)) :=
  read_end hI (by rw [drop_out h1]; rfl)
theorem read_brk (hI : ReadInv x b M a i n) (h1 : i < x.length) (hu : (Txt.item x i == Str.ofString "_") = false) (hs : figW (Txt.item x i) b < 0) : n = sat b M 0 (figs b (x.cps.toList.drop a.toNat)) := by
  refine read_end hI ?_
  obtain ⟨c, r, e1, e2, e3⟩ := drop_at hI.1 h1
  rw [e2, low_is, sign_eq, decide_eq_false_iff_not] at hu
  rw [e2, figW_one] at hs
  rw [e1]
  cases r with
  | nil => rw [figs, if_pos hs]
  | cons d r => rw [figs, if_neg (fun h => hu h.1), if_pos hs]
theorem read_brk2 (hI : ReadInv x b M a i n) (h1 : i < x.length) (hu : ¬ 0 ≤ figW (Txt.slice x (some (i + 1)) (some (i + 2))) b) (hs : figW (Txt.item x i) b < 0) : n = sat b M 0 (figs b (x.cps.toList.drop a.toNat)) := by
  refine read_end hI ?_
  have i0 := hI.1
  obtain ⟨c, r, e1, e2, e3⟩ := drop_at i0 h1
  rw [slice_one (by omega) (by omega), figW_take, e3] at hu
  rw [e2, figW_one] at hs
  rw [e1]
  cases r with
  | nil => rw [figs, if_pos hs]
  | cons d r => rw [figs, if_neg (fun h => hu h.2), if_pos hs]
end
theorem if_min (v M : Int) : (if M < v then M else v) = min v M := by split <;> omega
theorem read_skip' {x : PySem.Str} {b M a i n : Int} (hb : 0 ≤ b) (hI : ReadInv x b M a i n) (h1 : i < x.length) (hu : (Txt.item x i == Str.ofString "_") = true) (hs : 0 ≤ figW (Txt.slice x (some (i + 1)) (some (i + 2))) b) :
    (0 ≤ i + 1 + 1 ∧ i + 1 + 1 ≤ (x.length : Int)) ∧ ReadInv x b M a (i + 1 + 1) (if M < n * b + figW (Txt.item x (i + 1)) b then M else n * b + figW (Txt.item x (i + 1)) b) := by
  have h := (read_skip hb hI h1 hu hs).1
  rw [if_min]
  exact ⟨⟨h.1, h.2.1⟩, h⟩
theorem read_step' {x : PySem.Str} {b M a i n : Int} (hb : 0 ≤ b) (hI : ReadInv x b M a i n) (h1 : i < x.length) (hs : ¬ figW (Txt.item x i) b < 0) :
    (0 ≤ i + 1 ∧ i + 1 ≤ (x.length : Int)) ∧ ReadInv x b M a (i + 1) (if M < n * b + figW (Txt.item x i) b then M else n * b + figW (Txt.item x i) b) := by
  have h := read_step hb hI h1 (by omega)
  rw [if_min]
  exact ⟨⟨h.1, h.2.1⟩, h⟩
theorem read_no {x : PySem.Str} {b M a i n : Int} (hb : 0 ≤ b) (hI : ReadInv x b M a i n) (h1 : i < x.length) (hu : (Txt.item x i == Str.ofString "_") = true) (hs : 0 ≤ figW (Txt.slice x (some (i + 1)) (some (i + 2))) b) (h2 : figW (Txt.item x (i + 1)) b < 0) : False := by
  have := (read_skip hb hI h1 hu hs).2.2
  omega
theorem readV_big {b n : Int} {wd : Int} {l : List Nat} (h : n = sat b (1 * 2 ^ wd.toNat - 1) 0 (figs b l)) (hw : 4 ≤ wd) (hc : 1 * 2 ^ (wd - 1).toNat ≤ n) : n - 1 * 2 ^ wd.toNat = readV b wd.toNat l := by
  have e : (wd - 1).toNat = wd.toNat - 1 := by omega
  rw [Int.one_mul] at h hc ⊢
  rw [e] at hc
  unfold readV signed
  rw [← h, if_pos hc]
theorem readV_low {b n : Int} {wd : Int} {l : List Nat} (h : n = sat b (1 * 2 ^ wd.toNat - 1) 0 (figs b l)) (hw : 4 ≤ wd) (hc : ¬ 1 * 2 ^ (wd - 1).toNat ≤ n) : n = readV b wd.toNat l := by
  have e : (wd - 1).toNat = wd.toNat - 1 := by omega
  rw [Int.one_mul] at h hc
  rw [e] at hc
  unfold readV signed
  rw [← h, if_neg hc]
theorem ReadInv.all {x : PySem.Str} {b M a i n : Int} (h : ReadInv x b M a i n) : (0 ≤ i ∧ i ≤ (x.length : Int)) ∧ ReadInv x b M a i n := ⟨⟨h.1, h.2.1⟩, h⟩
theorem pow_pos2 (k : Nat) : (0 : Int) ≤ 2 ^ k - 1 := by
  have : (1 : Int) ≤ 2 ^ k := by exact_mod_cast Nat.one_le_two_pow
  omega
theorem pow_pos2' (k : Nat) : (0 : Int) ≤ 1 * 2 ^ k - 1 := by rw [Int.one_mul]; exact pow_pos2 k
end
section
noncomputable def hexTail (l : List Nat) : List Nat := if (l.take 2).map smallC = [48, 120] then l.drop 2 else if (l.take 1).map smallC = [120] then l.drop 1 else l
noncomputable def hexV (wd : Nat) (l : List Nat) : Int := readV 16 wd (hexTail l)
def isWs (c : Nat) : Bool := [32, 9, 10, 13, 12, 11].contains c
noncomputable def offZero (l : List Nat) : List Nat := if l.take 1 = [48] then l.drop 1 else l
noncomputable def octAt (wd : Nat) (l : List Nat) : Int := match l with
  | [] => readV 8 wd []
  | c :: r => if smallC c = 120 then readV 16 wd r else if smallC c = 98 then readV 2 wd r else if smallC c = 111 then readV 8 wd r else readV 8 wd (c :: r)
noncomputable def octV (wd : Nat) (l : List Nat) : Int := octAt wd (offZero (l.dropWhile isWs))

theorem str_eq_iff (l : List Nat) (y : PySem.Str) : ((⟨l.toArray⟩ : PySem.Str) == y) = decide (l = y.cps.toList) := by
  by_cases h : l = y.cps.toList
  · rw [decide_eq_true h, beq_iff_eq, h]
  · rw [decide_eq_false h, beq_eq_false_iff_ne]
    intro e
    rw [← e] at h
    exact h rfl
theorem small_list (l : List Nat) : small ⟨l.toArray⟩ = ⟨(l.map smallC).toArray⟩ := by simp [small]
theorem hex_test2 (x : PySem.Str) : (small (Txt.slice x none (some 2)) == Str.ofString "0x") = decide ((x.cps.toList.take 2).map smallC = [48, 120]) := by
  rw [sl_ns x (by decide), small_list, str_eq_iff]
  rfl
theorem hex_test1 (x : PySem.Str) : (small (Txt.slice x none (some 1)) == Str.ofString "x") = decide ((x.cps.toList.take 1).map smallC = [120]) := by
  rw [sl_ns x (by decide), small_list, str_eq_iff]
  rfl
theorem hex_len2 {x : PySem.Str} (h : (small (Txt.slice x none (some 2)) == Str.ofString "0x") = true) : 2 ≤ (x.length : Int) := by
  rw [hex_test2, decide_eq_true_eq] at h
  have := congrArg List.length h
  simp at this
  simp only [PySem.Str.length]; omega
theorem hex_len1 {x : PySem.Str} (h : (small (Txt.slice x none (some 1)) == Str.ofString "x") = true) : 1 ≤ (x.length : Int) := by
  rw [hex_test1, decide_eq_true_eq] at h
  have := congrArg List.length h
  simp at this
  simp only [PySem.Str.length]; omega
theorem hexV_2 {x : PySem.Str} {wd : Nat} (h : (small (Txt.slice x none (some 2)) == Str.ofString "0x") = true) : readV 16 wd (x.cps.toList.drop (2 : Int).toNat) = hexV wd x.cps.toList := by
  rw [hex_test2, decide_eq_true_eq] at h
  unfold hexV hexTail; rw [if_pos h]; rfl
theorem hexV_1 {x : PySem.Str} {wd : Nat} (h : (small (Txt.slice x none (some 2)) == Str.ofString "0x") = false) (h1 : (small (Txt.slice x none (some 1)) == Str.ofString "x") = true) : readV 16 wd (x.cps.toList.drop (1 : Int).toNat) = hexV wd x.cps.toList := by
  rw [hex_test2, decide_eq_false_iff_not] at h
  rw [hex_test1, decide_eq_true_eq] at h1
  unfold hexV hexTail; rw [if_neg h, if_pos h1]; rfl
theorem hexV_0 {x : PySem.Str} {wd : Nat} (h : (small (Txt.slice x none (some 2)) == Str.ofString "0x") = false) (h1 : (small (Txt.slice x none (some 1)) == Str.ofString "x") = false) : readV 16 wd (x.cps.toList.drop (0 : Int).toNat) = hexV wd x.cps.toList := by
  rw [hex_test2, decide_eq_false_iff_not] at h
  rw [hex_test1, decide_eq_false_iff_not] at h1
  unfold hexV hexTail; rw [if_neg h, if_neg h1]; rfl

/-! the octal reading's turns -/
abbrev blanks : PySem.Str := Str.ofString " \t\n\r\x0c\x0b"
theorem ws_empty (c : Nat) : (Builtin.Str.occurrences blanks ⟨#[c]⟩ 0 blanks.length 1).isEmpty = !isWs c := by
  rw [← Bool.not_not (List.isEmpty _), StrLaws.found_one]
  congr 1
  by_cases h : c < 128
  · exact (by decide +kernel : ∀ c : Fin 128, decide (c.val ∈ blanks.cps.toList) = isWs c.val) ⟨c, h⟩
  · have h2 : isWs c = false := by
      cases e : isWs c with
      | false => rfl
      | true => exact absurd ((by decide +kernel : ∀ c ∈ [32, 9, 10, 13, 12, 11], c < 128) c (List.contains_iff_mem.mp e)) h
    rw [h2]
    refine decide_eq_false fun hm => ?_
    exact h ((by decide +kernel : ∀ c ∈ blanks.cps.toList, c < 128) c hm)
def OctInv (x : PySem.Str) (i : Int) : Prop := (x.cps.toList.drop i.toNat).dropWhile isWs = x.cps.toList.dropWhile isWs
theorem oct_start (x : PySem.Str) : (0 ≤ (0 : Int) ∧ (0 : Int) ≤ (x.length : Int)) ∧ OctInv x 0 := ⟨⟨by decide, by omega⟩, rfl⟩
theorem oct_step {x : PySem.Str} {i : Int} (h0 : 0 ≤ i) (h1 : i < x.length) (hI : OctInv x i) (hw : (Builtin.Str.occurrences blanks (Txt.item x i) 0 blanks.length 1).isEmpty = false) :
    (0 ≤ i + 1 ∧ i + 1 ≤ (x.length : Int)) ∧ OctInv x (i + 1) := by
  refine ⟨⟨by omega, by omega⟩, ?_⟩
  obtain ⟨c, r, e1, e2, e3⟩ := drop_at h0 h1
  rw [e2, ws_empty] at hw
  have hc : isWs c = true := by simpa using hw
  unfold OctInv at hI ⊢
  rw [e3, ← hI, e1, List.dropWhile_cons_of_pos hc]
/-- where the blanks end -/
theorem oct_at {x : PySem.Str} {i : Int} (h0 : 0 ≤ i) (h1 : i < x.length) (hI : OctInv x i) (hw : (Builtin.Str.occurrences blanks (Txt.item x i) 0 blanks.length 1).isEmpty = true) :
    x.cps.toList.dropWhile isWs = x.cps.toList.drop i.toNat := by
  obtain ⟨c, r, e1, e2, e3⟩ := drop_at h0 h1
  rw [e2, ws_empty] at hw
  have hc : isWs c = false := by simpa using hw
  rw [← hI, e1, List.dropWhile_cons_of_neg (by rw [hc]; exact Bool.false_ne_true)]
theorem oct_end {x : PySem.Str} {i : Int} (h1 : ¬ i < x.length) (hI : OctInv x i) : x.cps.toList.dropWhile isWs = x.cps.toList.drop i.toNat := by
  rw [← hI, drop_out h1]; rfl
theorem zero_test {x : PySem.Str} {i j : Int} (h0 : 0 ≤ i) (hj : j = i + 1) : (Txt.slice x (some i) (some j) == Str.ofString "0") = decide ((x.cps.toList.drop i.toNat).take 1 = [48]) := by
  rw [slice_one h0 hj, str_eq_iff]; rfl
theorem zero_lt {x : PySem.Str} {i j : Int} (h0 : 0 ≤ i) (hj : j = i + 1) (h : (Txt.slice x (some i) (some j) == Str.ofString "0") = true) : i + 1 ≤ (x.length : Int) := by
  apply Decidable.byContradiction
  intro hn
  rw [zero_test h0 hj, decide_eq_true_eq, drop_out (by omega)] at h
  cases h
theorem zero_yes {x : PySem.Str} {i j : Int} (h0 : 0 ≤ i) (hj : j = i + 1) (e : x.cps.toList.dropWhile isWs = x.cps.toList.drop i.toNat) (h : (Txt.slice x (some i) (some j) == Str.ofString "0") = true) :
    offZero (x.cps.toList.dropWhile isWs) = x.cps.toList.drop (i + 1).toNat := by
  rw [zero_test h0 hj, decide_eq_true_eq] at h
  unfold offZero
  rw [e, if_pos h, List.drop_drop]
  congr 1; omega
theorem zero_no {x : PySem.Str} {i j : Int} (h0 : 0 ≤ i) (hj : j = i + 1) (e : x.cps.toList.dropWhile isWs = x.cps.toList.drop i.toNat) (h : (Txt.slice x (some i) (some j) == Str.ofString "0") = false) :
    offZero (x.cps.toList.dropWhile isWs) = x.cps.toList.drop i.toNat := by
  rw [zero_test h0 hj, decide_eq_false_iff_not] at h
  unfold offZero
  rw [e, if_neg h]
theorem mark_len {x : PySem.Str} {i j : Int} (h0 : 0 ≤ i) (hj : j = i + 1) (h1 : i < x.length) : (Txt.slice x (some i) (some j)).length = 1 := by
  obtain ⟨c, r, e1, e2, e3⟩ := drop_at h0 h1
  rw [slice_one h0 hj, e1]; rfl
theorem mark_test {x : PySem.Str} {i j : Int} {c : Nat} {r : List Nat} (h0 : 0 ≤ i) (hj : j = i + 1) (e : x.cps.toList.drop i.toNat = c :: r) (d : Nat) : (small (Txt.slice x (some i) (some j)) == ⟨#[d]⟩) = decide (smallC c = d) := by
  rw [slice_one h0 hj, e]
  show (small ⟨[c].toArray⟩ == _) = _
  rw [small_list, str_eq_iff]
  simp
theorem x_is : (Str.ofString "x" : PySem.Str) = ⟨#[120]⟩ := by decide +kernel
theorem b_is : (Str.ofString "b" : PySem.Str) = ⟨#[98]⟩ := by decide +kernel
theorem o_is : (Str.ofString "o" : PySem.Str) = ⟨#[111]⟩ := by decide +kernel
section
variable {x : PySem.Str} {i j : Int} {wd : Nat}
theorem octAt_x (h0 : 0 ≤ i) (hj : j = i + 1) (h1 : i < x.length) (e : offZero (x.cps.toList.dropWhile isWs) = x.cps.toList.drop i.toNat) (h : (small (Txt.slice x (some i) (some j)) == Str.ofString "x") = true) :
    readV 16 wd (x.cps.toList.drop (i + 1).toNat) = octV wd x.cps.toList := by
  obtain ⟨c, r, e1, e2, e3⟩ := drop_at h0 h1
  rw [x_is, mark_test h0 hj e1, decide_eq_true_eq] at h
  unfold octV octAt
  rw [e, e1, e3]
  simp [h]
theorem octAt_b (h0 : 0 ≤ i) (hj : j = i + 1) (h1 : i < x.length) (e : offZero (x.cps.toList.dropWhile isWs) = x.cps.toList.drop i.toNat) (hx : (small (Txt.slice x (some i) (some j)) == Str.ofString "x") = false) (h : (small (Txt.slice x (some i) (some j)) == Str.ofString "b") = true) :
    readV 2 wd (x.cps.toList.drop (i + 1).toNat) = octV wd x.cps.toList := by
  obtain ⟨c, r, e1, e2, e3⟩ := drop_at h0 h1
  rw [b_is, mark_test h0 hj e1, decide_eq_true_eq] at h
  unfold octV octAt
  rw [e, e1, e3]
  simp [h]
theorem octAt_o (h0 : 0 ≤ i) (hj : j = i + 1) (h1 : i < x.length) (e : offZero (x.cps.toList.dropWhile isWs) = x.cps.toList.drop i.toNat) (hx : (small (Txt.slice x (some i) (some j)) == Str.ofString "x") = false) (hb : (small (Txt.slice x (some i) (some j)) == Str.ofString "b") = false) (h : (small (Txt.slice x (some i) (some j)) == Str.ofString "o") = true) :
    readV 8 wd (x.cps.toList.drop (i + 1).toNat) = octV wd x.cps.toList := by
  obtain ⟨c, r, e1, e2, e3⟩ := drop_at h0 h1
  rw [o_is, mark_test h0 hj e1, decide_eq_true_eq] at h
  unfold octV octAt
  rw [e, e1, e3]
  simp [h]
theorem octAt_n (h0 : 0 ≤ i) (hj : j = i + 1) (h1 : i < x.length) (e : offZero (x.cps.toList.dropWhile isWs) = x.cps.toList.drop i.toNat) (hx : (small (Txt.slice x (some i) (some j)) == Str.ofString "x") = false) (hb : (small (Txt.slice x (some i) (some j)) == Str.ofString "b") = false) (h : (small (Txt.slice x (some i) (some j)) == Str.ofString "o") = false) :
    readV 8 wd (x.cps.toList.drop i.toNat) = octV wd x.cps.toList := by
  obtain ⟨c, r, e1, e2, e3⟩ := drop_at h0 h1
  rw [x_is, mark_test h0 hj e1, decide_eq_false_iff_not] at hx
  rw [b_is, mark_test h0 hj e1, decide_eq_false_iff_not] at hb
  rw [o_is, mark_test h0 hj e1, decide_eq_false_iff_not] at h
  unfold octV octAt
  rw [e, e1]
  simp [hx, hb, h]
theorem octAt_out (h1 : ¬ i < x.length) (e : offZero (x.cps.toList.dropWhile isWs) = x.cps.toList.drop i.toNat) :
    readV 8 wd (x.cps.toList.drop i.toNat) = octV wd x.cps.toList := by
  unfold octV octAt
  rw [e, drop_out h1]
end
end
section
set_option maxHeartbeats 8000000 in
theorem great_ok (w : World) (mean : ExcName → Option Value) (mg mb : SV → Option Value) (x : Str) (t : Tok) (hx : x.length = 1) : FnOk w mean mg mb 60 1 [.str x t] (fun t => .str (great x) t) := by
  k_with_none
  w_top off
  obtain ⟨c, rfl⟩ := one_of hx
  dsimp only [FnOk, CbRet]
  k_fill
  intros
  rename_i hret
  have hf := small_find c
  have hb : Txt.find (Str.ofString "abcdefghijklmnopqrstuvwxyz") ⟨#[c]⟩ < 26 := by rw [hf]; split <;> omega
  refine wpAny_call ?_
  k_dflt cell_enter
  k_steps
  · refine ret_str hret (by assumption) (by assumption) ?_
    rename (List.isEmpty _ = true) => he
    rw [small_empty] at he
    rw [great_one, greatC, if_neg (by simp only [Bool.not_eq_true', decide_eq_false_iff_not] at he; exact he)]
  · exfalso
    rename (List.isEmpty _ = true) => he
    rename (List.isEmpty _ = false) => he2
    rw [he] at he2; cases he2
  · refine ret_str hret (by assumption) (by assumption) ?_
    rename (List.isEmpty _ = false) => he
    rw [small_empty] at he
    have hc : 97 ≤ c ∧ c ≤ 122 := by simpa using he
    rw [great_one, small_find, if_pos hc, great_item c hc, greatC, if_pos hc]
set_option maxHeartbeats 8000000 in
theorem small_ok (w : World) (mean : ExcName → Option Value) (mg mb : SV → Option Value) (x : Str) (t : Tok) (hx : x.length = 1) : FnOk w mean mg mb 67 1 [.str x t] (fun t => .str (small x) t) := by
  k_with_none
  obtain ⟨c, rfl⟩ := one_of hx
  dsimp only [FnOk, CbRet]
  k_fill
  intros
  rename_i hret
  have hf := great_find c
  have hb : Txt.find (Str.ofString "ABCDEFGHIJKLMNOPQRSTUVWXYZ") ⟨#[c]⟩ < 26 := by rw [hf]; split <;> omega
  refine wpAny_call ?_
  k_dflt cell_enter
  k_steps
  · refine ret_str hret (by assumption) (by assumption) ?_
    rename (List.isEmpty _ = true) => he
    rw [great_empty] at he
    rw [small_one, smallC, if_neg (by simp only [Bool.not_eq_true', decide_eq_false_iff_not] at he; exact he)]
  · exfalso
    rename (List.isEmpty _ = true) => he
    rename (List.isEmpty _ = false) => he2
    rw [he] at he2; cases he2
  · refine ret_str hret (by assumption) (by assumption) ?_
    rename (List.isEmpty _ = false) => he
    rw [great_empty] at he
    have hc : 65 ≤ c ∧ c ≤ 90 := by simpa using he
    rw [small_one, great_find, if_pos hc, small_item c hc, smallC, if_pos hc]
end
section
theorem flat_signs (f : Nat → Nat) (l : List Nat) : flat (l.map fun c => (⟨#[f c]⟩ : Str)) = ⟨(l.map f).toArray⟩ := by
  induction l with
  | nil => rfl
  | cons c r ih => rw [List.map_cons, flat_cons, ih]; exact PySem.Str.ext' (by rw [PySem.Str.cps_append]; simp)
theorem flat_great (x : Str) : flat (x.cps.toList.map fun c => (⟨#[greatC c]⟩ : Str)) = great x := by rw [flat_signs]; exact PySem.Str.ext' (Array.toList_inj.mp (by simp [great]))
theorem flat_small (x : Str) : flat (x.cps.toList.map fun c => (⟨#[smallC c]⟩ : Str)) = small x := by rw [flat_signs]; exact PySem.Str.ext' (Array.toList_inj.mp (by simp [small]))
set_option maxHeartbeats 8000000 in
theorem uc_ok (w : World) (mean : ExcName → Option Value) (mg mb : SV → Option Value) (x : Str) (t : Tok) (hx : x.length ≤ 4096) : FnOk w mean mg mb 72 2 [.str x t] (fun t => .str (great x) t) := by
  k_with_none
  w_top off
  k_with "call ref" => (k_here; (with_reducible show wpAny _ _ (call (Value.ref 60) [Value.str _ _]) _ _ _); k_dflt (refine' fn_use (great_ok _ _ _ _ _ _ (by first | assumption | exact rfl | omega)) (by k_asm) (by k_asm) (by k_asm) (by k_asm) (by k_asm) (by first | exact rfl | assumption) (by ktr_room) (by ktr_units) ?_; k_whole; intro t9 h9 tk9 F9 N9; (try k_sweep); (try dsimp only); (try k_fold)))
  k_with "call ref" => (k_here; (with_reducible show wpAny _ _ (call (Value.ref 67) [Value.str _ _]) _ _ _); k_dflt (refine' fn_use (small_ok _ _ _ _ _ _ (by first | assumption | exact rfl | omega | exact mark_len (by omega) (by omega) (by omega))) (by k_asm) (by k_asm) (by k_asm) (by k_asm) (by k_asm) (by first | exact rfl | assumption) (by ktr_room) (by ktr_units) ?_; k_whole; intro t9 h9 tk9 F9 N9; (try k_sweep); (try dsimp only); (try k_fold)))
  k_with "eval ListComp" => (k_here; k_dflt (refine ListComp_S (F₀ := by k_asm) (by with_unfolding_all rfl) (by decide) (by rfl) (by decide) (by rfl) ?_))
  k_with "CompEnd" => (refine LCg.CompEnd.intro (by assumption) (by assumption) _ (fun p hp => hp) (by assumption) True.intro ?_)
  dsimp only [FnOk, CbRet]
  k_fill
  intros
  rename_i hret
  have hz : x.cps.size ≤ sizeLine := Nat.le_trans hx (by rw [sizeLine_eq]; decide)
  refine wpAny_call ?_
  k_dflt cell_enter
  k_steps
  refine SrcS.intro (by rfl) (by k_asm) (by k_asm) (by assumption) ?_
  intro g'
  refine signs_rest (fun c => ⟨#[greatC c]⟩) (fun ys' c' t' I' oI' C' oC' D' m' h' tk' E' hc' hC' hx' F' N' off' ne' => ?_) (fun ys' hy' => ?_)
  · k_steps
    exact ⟨rfl, _, by rw [great_one]⟩
  · k_steps
    refine join_S (News.isList (by assumption) (by exact List.Mem.head _)) hy' ?_ ?_ ?_
    · intro a ha
      simp only [List.mem_map] at ha
      obtain ⟨c, _, rfl⟩ := ha
      exact Nat.le_of_ble_eq_true rfl
    · rw [List.length_map, Array.length_toList]; exact hx
    · intro t' k'
      k_steps
      exact ret_str hret (by assumption) (cb_drop (by assumption) fun p hp => List.mem_cons_of_mem _ hp) (flat_great x)
set_option maxHeartbeats 8000000 in
theorem lc_ok (w : World) (mean : ExcName → Option Value) (mg mb : SV → Option Value) (x : Str) (t : Tok) (hx : x.length ≤ 4096) : FnOk w mean mg mb 77 2 [.str x t] (fun t => .str (small x) t) := by
  k_with_none
  k_with "call ref" => (k_here; (with_reducible show wpAny _ _ (call (Value.ref 60) [Value.str _ _]) _ _ _); k_dflt (refine' fn_use (great_ok _ _ _ _ _ _ (by first | assumption | exact rfl | omega)) (by k_asm) (by k_asm) (by k_asm) (by k_asm) (by k_asm) (by first | exact rfl | assumption) (by ktr_room) (by ktr_units) ?_; k_whole; intro t9 h9 tk9 F9 N9; (try k_sweep); (try dsimp only); (try k_fold)))
  k_with "call ref" => (k_here; (with_reducible show wpAny _ _ (call (Value.ref 67) [Value.str _ _]) _ _ _); k_dflt (refine' fn_use (small_ok _ _ _ _ _ _ (by first | assumption | exact rfl | omega | exact mark_len (by omega) (by omega) (by omega))) (by k_asm) (by k_asm) (by k_asm) (by k_asm) (by k_asm) (by first | exact rfl | assumption) (by ktr_room) (by ktr_units) ?_; k_whole; intro t9 h9 tk9 F9 N9; (try k_sweep); (try dsimp only); (try k_fold)))
  k_with "eval ListComp" => (k_here; k_dflt (refine ListComp_S (F₀ := by k_asm) (by with_unfolding_all rfl) (by decide) (by rfl) (by decide) (by rfl) ?_))
  k_with "CompEnd" => (refine LCg.CompEnd.intro (by assumption) (by assumption) _ (fun p hp => hp) (by assumption) True.intro ?_)
  dsimp only [FnOk, CbRet]
  k_fill
  intros
  rename_i hret
  have hz : x.cps.size ≤ sizeLine := Nat.le_trans hx (by rw [sizeLine_eq]; decide)
  refine wpAny_call ?_
  k_dflt cell_enter
  k_steps
  refine SrcS.intro (by rfl) (by k_asm) (by k_asm) (by assumption) ?_
  intro g'
  refine signs_rest (fun c => ⟨#[smallC c]⟩) (fun ys' c' t' I' oI' C' oC' D' m' h' tk' E' hc' hC' hx' F' N' off' ne' => ?_) (fun ys' hy' => ?_)
  · k_steps
    exact ⟨rfl, _, by rw [small_one]⟩
  · k_steps
    refine join_S (News.isList (by assumption) (by exact List.Mem.head _)) hy' ?_ ?_ ?_
    · intro a ha
      simp only [List.mem_map] at ha
      obtain ⟨c, _, rfl⟩ := ha
      exact Nat.le_of_ble_eq_true rfl
    · rw [List.length_map, Array.length_toList]; exact hx
    · intro t' k'
      k_steps
      exact ret_str hret (by assumption) (cb_drop (by assumption) fun p hp => List.mem_cons_of_mem _ hp) (flat_small x)
end
section
set_option maxHeartbeats 8000000 in
theorem ucfirst_ok (w : World) (mean : ExcName → Option Value) (mg mb : SV → Option Value) (x : Str) (t : Tok) (hx : x.length ≤ 4096) : FnOk w mean mg mb 84 2 [.str x t] (fun t => .str (firstBy greatC x) t) := by
  k_with_none
  w_top off
  k_with "call ref" => (k_here; (with_reducible show wpAny _ _ (call (Value.ref 60) [Value.str _ _]) _ _ _); k_dflt (refine' fn_use (great_ok _ _ _ _ _ _ (by first | assumption | exact rfl | omega)) (by k_asm) (by k_asm) (by k_asm) (by k_asm) (by k_asm) (by first | exact rfl | assumption) (by ktr_room) (by ktr_units) ?_; k_whole; intro t9 h9 tk9 F9 N9; (try k_sweep); (try dsimp only); (try k_fold)))
  k_with "call ref" => (k_here; (with_reducible show wpAny _ _ (call (Value.ref 67) [Value.str _ _]) _ _ _); k_dflt (refine' fn_use (small_ok _ _ _ _ _ _ (by first | assumption | exact rfl | omega | exact mark_len (by omega) (by omega) (by omega))) (by k_asm) (by k_asm) (by k_asm) (by k_asm) (by k_asm) (by first | exact rfl | assumption) (by ktr_room) (by ktr_units) ?_; k_whole; intro t9 h9 tk9 F9 N9; (try k_sweep); (try dsimp only); (try k_fold)))
  k_with "binaryOp Add str str" => (k_here; (with_reducible show wpAny _ _ (binaryOp Operator.Add (Value.str _ _) (Value.str _ _)) _ _ _); (refine SBL.add (hsz := ?hsz) ?_); (case hsz => (simp only [great_len, small_len]; rw [sizeLine_eq]; omega)); intro _ _ _)
  dsimp only [FnOk, CbRet]
  k_fill
  intros
  rename_i hret
  refine wpAny_call ?_
  k_dflt cell_enter
  k_steps
  · rename ((_ == _) = true) => he
    rw [eq_nil_iff] at he
    subst he
    exact ret_str hret (by assumption) (by assumption) rfl
  · rename ((_ == _) = false) => he
    obtain ⟨c, r, rfl⟩ := (ne_nil_iff _).mp he
    exact ret_str hret (by assumption) (by assumption) (by rw [item_zero, great_one, tail_cons, cons_app, firstBy_cons])
set_option maxHeartbeats 8000000 in
theorem lcfirst_ok (w : World) (mean : ExcName → Option Value) (mg mb : SV → Option Value) (x : Str) (t : Tok) (hx : x.length ≤ 4096) : FnOk w mean mg mb 91 2 [.str x t] (fun t => .str (firstBy smallC x) t) := by
  k_with_none
  k_with "call ref" => (k_here; (with_reducible show wpAny _ _ (call (Value.ref 60) [Value.str _ _]) _ _ _); k_dflt (refine' fn_use (great_ok _ _ _ _ _ _ (by first | assumption | exact rfl | omega)) (by k_asm) (by k_asm) (by k_asm) (by k_asm) (by k_asm) (by first | exact rfl | assumption) (by ktr_room) (by ktr_units) ?_; k_whole; intro t9 h9 tk9 F9 N9; (try k_sweep); (try dsimp only); (try k_fold)))
  k_with "call ref" => (k_here; (with_reducible show wpAny _ _ (call (Value.ref 67) [Value.str _ _]) _ _ _); k_dflt (refine' fn_use (small_ok _ _ _ _ _ _ (by first | assumption | exact rfl | omega | exact mark_len (by omega) (by omega) (by omega))) (by k_asm) (by k_asm) (by k_asm) (by k_asm) (by k_asm) (by first | exact rfl | assumption) (by ktr_room) (by ktr_units) ?_; k_whole; intro t9 h9 tk9 F9 N9; (try k_sweep); (try dsimp only); (try k_fold)))
  k_with "binaryOp Add str str" => (k_here; (with_reducible show wpAny _ _ (binaryOp Operator.Add (Value.str _ _) (Value.str _ _)) _ _ _); (refine SBL.add (hsz := ?hsz) ?_); (case hsz => (simp only [great_len, small_len]; rw [sizeLine_eq]; omega)); intro _ _ _)
  dsimp only [FnOk, CbRet]
  k_fill
  intros
  rename_i hret
  refine wpAny_call ?_
  k_dflt cell_enter
  k_steps
  · rename ((_ == _) = true) => he
    rw [eq_nil_iff] at he
    subst he
    exact ret_str hret (by assumption) (by assumption) rfl
  · rename ((_ == _) = false) => he
    obtain ⟨c, r, rfl⟩ := (ne_nil_iff _).mp he
    exact ret_str hret (by assumption) (by assumption) (by rw [item_zero, small_one, tail_cons, cons_app, firstBy_cons])
set_option maxHeartbeats 8000000 in
theorem ord_ok (w : World) (mean : ExcName → Option Value) (mg mb : SV → Option Value) (x : Str) (t : Tok) (hx : x.length ≤ 4096) : FnOk w mean mg mb 105 1 [.str x t] (fun t => .int (ordOf x) t) := by
  k_with_none
  k_with "call ref" => (k_here; (with_reducible show wpAny _ _ (call (Value.ref 60) [Value.str _ _]) _ _ _); k_dflt (refine' fn_use (great_ok _ _ _ _ _ _ (by first | assumption | exact rfl | omega)) (by k_asm) (by k_asm) (by k_asm) (by k_asm) (by k_asm) (by first | exact rfl | assumption) (by ktr_room) (by ktr_units) ?_; k_whole; intro t9 h9 tk9 F9 N9; (try k_sweep); (try dsimp only); (try k_fold)))
  k_with "call ref" => (k_here; (with_reducible show wpAny _ _ (call (Value.ref 67) [Value.str _ _]) _ _ _); k_dflt (refine' fn_use (small_ok _ _ _ _ _ _ (by first | assumption | exact rfl | omega | exact mark_len (by omega) (by omega) (by omega))) (by k_asm) (by k_asm) (by k_asm) (by k_asm) (by k_asm) (by first | exact rfl | assumption) (by ktr_room) (by ktr_units) ?_; k_whole; intro t9 h9 tk9 F9 N9; (try k_sweep); (try dsimp only); (try k_fold)))
  k_with "binaryOp Add str str" => (k_here; (with_reducible show wpAny _ _ (binaryOp Operator.Add (Value.str _ _) (Value.str _ _)) _ _ _); (refine SBL.add (hsz := ?hsz) ?_); (case hsz => (simp only [great_len, small_len]; rw [sizeLine_eq]; omega)); intro _ _ _)
  dsimp only [FnOk, CbRet]
  k_fill
  intros
  rename_i hret
  refine wpAny_call ?_
  k_dflt cell_enter
  k_steps
  · rename ((_ == _) = true) => he
    rw [eq_nil_iff] at he
    subst he
    exact ret_int hret (by assumption) (by assumption) rfl
  · rename ((_ == _) = false) => he
    obtain ⟨c, r, rfl⟩ := (ne_nil_iff _).mp he
    exact ret_int hret (by assumption) (by assumption) (by rw [item_zero]; rfl)
set_option maxHeartbeats 8000000 in
theorem figure_ok (w : World) (mean : ExcName → Option Value) (mg mb : SV → Option Value) (x : Str) (t : Tok) (b : Int) (tb : Tok) (hx : x.length ≤ 1) (hb : 0 ≤ b ∧ b ≤ 16) : FnOk w mean mg mb 119 2 [.str x t, .int b tb] (fun t => .int (figW x b) t) := by
  k_with_none
  k_with "call ref" => (k_here; (with_reducible show wpAny _ _ (call (Value.ref 60) [Value.str _ _]) _ _ _); k_dflt (refine' fn_use (great_ok _ _ _ _ _ _ (by first | assumption | exact rfl | omega)) (by k_asm) (by k_asm) (by k_asm) (by k_asm) (by k_asm) (by first | exact rfl | assumption) (by ktr_room) (by ktr_units) ?_; k_whole; intro t9 h9 tk9 F9 N9; (try k_sweep); (try dsimp only); (try k_fold)))
  k_with "call ref" => (k_here; (with_reducible show wpAny _ _ (call (Value.ref 67) [Value.str _ _]) _ _ _); k_dflt (refine' fn_use (small_ok _ _ _ _ _ _ (by first | assumption | exact rfl | omega | exact mark_len (by omega) (by omega) (by omega))) (by k_asm) (by k_asm) (by k_asm) (by k_asm) (by k_asm) (by first | exact rfl | assumption) (by ktr_room) (by ktr_units) ?_; k_whole; intro t9 h9 tk9 F9 N9; (try k_sweep); (try dsimp only); (try k_fold)))
  k_with "binaryOp Add str str" => (k_here; (with_reducible show wpAny _ _ (binaryOp Operator.Add (Value.str _ _) (Value.str _ _)) _ _ _); (refine SBL.add (hsz := ?hsz) ?_); (case hsz => (simp only [great_len, small_len]; rw [sizeLine_eq]; omega)); intro _ _ _)
  by_cases h1 : x.length = 1
  · obtain ⟨c, rfl⟩ := one_of h1
    have hw := worthC_range c
    have hf : Txt.find (Str.ofString "0123456789abcdef") (small ⟨#[c]⟩) = worthC c := by rw [small_one]; exact base_find c
    dsimp only [FnOk, CbRet]
    k_fill
    intros
    rename_i hret
    refine wpAny_call ?_
    k_dflt cell_enter
    k_steps
    · refine ret_int hret (by assumption) (by assumption) ?_
      rename (b ≤ Txt.find _ _) => hc
      rw [hf] at hc
      exact (if_pos hc).symm
    · refine ret_int hret (by assumption) (by assumption) ?_
      rename (¬ b ≤ Txt.find _ _) => hc
      rw [hf] at hc ⊢
      exact (if_neg hc).symm
    · exfalso
      rename ((_ != _) = false) => hc
      rw [bne, (ne_nil_iff ⟨#[c]⟩).mpr ⟨c, [], rfl⟩] at hc
      cases hc
  · have e : x = ⟨#[]⟩ := by
      obtain ⟨⟨l⟩⟩ := x
      change l.length ≤ 1 at hx
      change ¬ l.length = 1 at h1
      have : l = [] := List.eq_nil_of_length_eq_zero (by omega)
      subst this; rfl
    subst e
    dsimp only [FnOk, CbRet]
    k_fill
    intros
    rename_i hret
    refine wpAny_call ?_
    k_dflt cell_enter
    k_steps
    exact ret_int hret (by assumption) (by assumption) rfl
theorem quote_start : Str.ofString "" = quoteI [] ∧ (Str.ofString "").length ≤ 2 * ([] : List Int).length := by decide +kernel
theorem quote_len {a : Str} {pre : List Int} {n : Nat} (e : a = quoteI pre) (h : a.length ≤ 2 * pre.length) (b : Str) (hb : b = quoteC n) : a ++ b = quoteI (pre ++ [(n : Int)]) ∧ (a ++ b).length ≤ 2 * (pre ++ [(n : Int)]).length := by
  subst hb
  refine ⟨by rw [quoteI_snoc, e], ?_⟩
  have := quoteC_len n
  rw [Str.length_append, List.length_append, List.length_singleton]
  omega
theorem quote_way1 {a : Str} {pre : List Int} {n : Nat} (e : a = quoteI pre) (h : a.length ≤ 2 * pre.length) (h1 : (Builtin.Str.occurrences names ⟨#[n]⟩ 0 names.length 1).isEmpty = true) (h2 : (n : Int) < 128) :
    a ++ Str.ofString "\\" ++ ⟨#[n]⟩ = quoteI (pre ++ [(n : Int)]) ∧ (a ++ Str.ofString "\\" ++ ⟨#[n]⟩).length ≤ 2 * (pre ++ [(n : Int)]).length := by
  have hq : quoteC n = ⟨#[92, n]⟩ := by
    rw [names_empty] at h1
    unfold quoteC
    rw [if_neg]
    intro hc
    rcases hc with hc | hc
    · rw [hc] at h1; cases h1
    · omega
  have hs : a ++ Str.ofString "\\" ++ ⟨#[n]⟩ = a ++ quoteC n := by
    rw [hq]
    refine Str.ext' (Array.toList_inj.mp ?_)
    simp only [Str.cps_append, Array.toList_append, List.append_assoc]
    rfl
  rw [hs]
  exact quote_len e h _ rfl
theorem quote_way2 {a : Str} {pre : List Int} {n : Nat} (e : a = quoteI pre) (h : a.length ≤ 2 * pre.length) (h1 : (Builtin.Str.occurrences names ⟨#[n]⟩ 0 names.length 1).isEmpty = true) (h2 : ¬ (n : Int) < 128) :
    a ++ ⟨#[n]⟩ = quoteI (pre ++ [(n : Int)]) ∧ (a ++ ⟨#[n]⟩).length ≤ 2 * (pre ++ [(n : Int)]).length :=
  quote_len e h _ (by unfold quoteC; rw [if_pos (Or.inr (by omega))])
theorem quote_way3 {a : Str} {pre : List Int} {n : Nat} (e : a = quoteI pre) (h : a.length ≤ 2 * pre.length) (h1 : (Builtin.Str.occurrences names ⟨#[n]⟩ 0 names.length 1).isEmpty = false) :
    a ++ ⟨#[n]⟩ = quoteI (pre ++ [(n : Int)]) ∧ (a ++ ⟨#[n]⟩).length ≤ 2 * (pre ++ [(n : Int)]).length :=
  quote_len e h _ (by rw [names_empty] at h1; unfold quoteC; rw [if_pos (Or.inl (by simpa using h1))])
set_option maxHeartbeats 8000000 in
theorem quote_ok (w : World) (mean : ExcName → Option Value) (mg mb : SV → Option Value) (x : Str) (t : Tok) (hx : x.length ≤ 4096) : FnOk w mean mg mb 98 1 [.str x t] (fun t => .str (quoteS x) t) := by
  k_with_none
  k_with "call ref" => (k_here; (with_reducible show wpAny _ _ (call (Value.ref 60) [Value.str _ _]) _ _ _); k_dflt (refine' fn_use (great_ok _ _ _ _ _ _ (by first | assumption | exact rfl | omega)) (by k_asm) (by k_asm) (by k_asm) (by k_asm) (by k_asm) (by first | exact rfl | assumption) (by ktr_room) (by ktr_units) ?_; k_whole; intro t9 h9 tk9 F9 N9; (try k_sweep); (try dsimp only); (try k_fold)))
  k_with "call ref" => (k_here; (with_reducible show wpAny _ _ (call (Value.ref 67) [Value.str _ _]) _ _ _); k_dflt (refine' fn_use (small_ok _ _ _ _ _ _ (by first | assumption | exact rfl | omega | exact mark_len (by omega) (by omega) (by omega))) (by k_asm) (by k_asm) (by k_asm) (by k_asm) (by k_asm) (by first | exact rfl | assumption) (by ktr_room) (by ktr_units) ?_; k_whole; intro t9 h9 tk9 F9 N9; (try k_sweep); (try dsimp only); (try k_fold)))
  k_with "binaryOp Add str str" => (k_here; (with_reducible show wpAny _ _ (binaryOp Operator.Add (Value.str _ _) (Value.str _ _)) _ _ _); (refine SBL.add (hsz := ?hsz) ?_); (case hsz => (simp only [great_len, small_len]; rw [sizeLine_eq]; omega)); intro _ _ _)
  dsimp only [FnOk, CbRet]
  k_fill
  intros
  rename_i hret
  refine wpAny_call ?_
  k_dflt cell_enter
  k_with "state" => first | exact quote_start | exact quote_way1 (by assumption) (by assumption) (by assumption) (by assumption) | exact quote_way2 (by assumption) (by assumption) (by assumption) (by assumption) | exact quote_way3 (by assumption) (by assumption) (by assumption)
  k_with "pyIter str" => k_state (fun pre a => a = quoteI pre ∧ a.length ≤ 2 * pre.length) "out"
  k_steps
  refine ret_str hret (by assumption) (by assumption) ?_
  rename (_ = quoteI _) => he
  rw [he, quoteI_codes]
end
section
set_option maxHeartbeats 8000000 in
theorem read_ok (w : World) (mean : ExcName → Option Value) (mg mb : SV → Option Value) (x : Str) (t : Tok) (a₀ : Int) (ta : Tok) (b : Int) (tb : Tok) (wd : Int) (tw : Tok) (hx : x.length ≤ 64) (ha : 0 ≤ a₀ ∧ a₀ ≤ x.length) (hb : 2 ≤ b ∧ b ≤ 16) (hw : 4 ≤ wd ∧ wd ≤ 64) : FnOk w mean mg mb 126 3 [.str x t, .int a₀ ta, .int b tb, .int wd tw] (fun t => .int (readV b wd.toNat (x.cps.toList.drop a₀.toNat)) t) := by
  k_with_none
  w_top off
  k_with "call ref" => (k_here; (with_reducible show wpAny _ _ (call (Value.ref 119) [Value.str _ _, Value.int _ _]) _ _ _); k_dflt (refine' fn_use (figure_ok _ _ _ _ _ _ _ _ (by first | assumption | exact rfl | omega | exact slice_le1 (by omega) (by omega)) (by first | assumption | exact rfl | omega)) (by k_asm) (by k_asm) (by k_asm) (by k_asm) (by k_asm) (by first | exact rfl | assumption) (by ktr_room) (by ktr_units) ?_; k_whole; intro t9 h9 tk9 F9 N9; (try k_sweep); (try dsimp only); (try k_fold)))
  k_with "subscriptTail Name Name str int" => ((rename 0 ≤ figW (Txt.slice _ _ _) _ => hfl); (rename ReadInv _ _ _ _ _ _ => hRI); (have hfl2 := figW_lt (by have := hRI.1; omega) (by omega) hfl); (refine item_str (by first | exact fitsSsize_of (N := 9223372036854775808) (by have := hRI.1; omega) (by omega) (Int.le_refl _)) (by have := hRI.1; omega) (by omega) ?_; intro _))
  dsimp only [FnOk, CbRet]
  k_fill
  intros
  rename_i hret
  have hb0 : 0 ≤ b ∧ b ≤ 16 := by omega
  refine wpAny_call ?_
  k_dflt cell_enter
  have hM := pow_pos2' wd.toNat
  k_with "state" => first | exact read_step' hb0.1 (by assumption) (by assumption) (by assumption) | exact read_skip' hb0.1 (by assumption) (by assumption) (by assumption) (by assumption) | exact (read_start ha (pow_pos2' _)).all
  k_with "exec While Compare cons nil" => k_while (fun _ i n => (0 ≤ i ∧ i ≤ (x.length : Int)) ∧ ReadInv x b (1 * 2 ^ wd.toNat - 1) a₀ i n) (fun _ i _ => (x.length - i).toNat) "at" "number"
  k_steps
  all_goals first
    | exact (read_no hb0.1 (by assumption) (by assumption) (by assumption) (by assumption) (by assumption)).elim
    | exact ret_int hret (by assumption) (by assumption) (readV_big (read_out (by assumption) (by assumption)) hw.1 (by assumption))
    | exact ret_int hret (by assumption) (by assumption) (readV_low (read_out (by assumption) (by assumption)) hw.1 (by assumption))
    | exact ret_int hret (by assumption) (by assumption) (readV_big (read_brk (by assumption) (by assumption) (by assumption) (by assumption)) hw.1 (by assumption))
    | exact ret_int hret (by assumption) (by assumption) (readV_low (read_brk (by assumption) (by assumption) (by assumption) (by assumption)) hw.1 (by assumption))
    | exact ret_int hret (by assumption) (by assumption) (readV_big (read_brk2 (by assumption) (by assumption) (by assumption) (by assumption)) hw.1 (by assumption))
    | exact ret_int hret (by assumption) (by assumption) (readV_low (read_brk2 (by assumption) (by assumption) (by assumption) (by assumption)) hw.1 (by assumption))

end
section
set_option maxHeartbeats 8000000 in
theorem hex_ok (w : World) (mean : ExcName → Option Value) (mg mb : SV → Option Value) (x : Str) (t : Tok) (wd : Int) (tw : Tok) (hx : x.length ≤ 64) (hw : 4 ≤ wd ∧ wd ≤ 64) : FnOk w mean mg mb 133 4 [.str x t, .int wd tw] (fun t => .int (hexV wd.toNat x.cps.toList) t) := by
  k_with_none
  w_top off
  k_with "call ref" => (k_here; (with_reducible show wpAny _ _ (call (Value.ref 67) [Value.str _ _]) _ _ _); k_dflt (refine' fn_use (small_ok _ _ _ _ _ _ (by first | assumption | exact rfl | omega | exact mark_len (by omega) (by omega) (by omega))) (by k_asm) (by k_asm) (by k_asm) (by k_asm) (by k_asm) (by first | exact rfl | assumption) (by ktr_room) (by ktr_units) ?_; k_whole; intro t9 h9 tk9 F9 N9; (try k_sweep); (try dsimp only); (try k_fold)))
  k_with "call ref" => (k_here; (with_reducible show wpAny _ _ (call (Value.ref 77) [Value.str _ _]) _ _ _); k_dflt (refine' fn_use (lc_ok _ _ _ _ _ _ (by first | assumption | exact rfl | omega | exact Nat.le_trans (Txt.slice_le _ _ _) (by omega))) (by k_asm) (by k_asm) (by k_asm) (by k_asm) (by k_asm) (by first | exact rfl | assumption) (by ktr_room) (by ktr_units) ?_; k_whole; intro t9 h9 tk9 F9 N9; (try k_sweep); (try dsimp only); (try k_fold)))
  k_with "call ref" => (k_here; (with_reducible show wpAny _ _ (call (Value.ref 126) [Value.str _ _, Value.int _ _, Value.int _ _, Value.int _ _]) _ _ _); k_dflt (refine' fn_use (read_ok _ _ _ _ _ _ _ _ _ _ _ _ (by first | assumption | exact rfl | omega) (by first | assumption | omega | exact ⟨by decide, hex_len2 (by assumption)⟩ | exact ⟨by decide, hex_len1 (by assumption)⟩ | exact ⟨by omega, zero_lt (by assumption) (by omega) (by assumption)⟩) (by decide) (by assumption)) (by k_asm) (by k_asm) (by k_asm) (by k_asm) (by k_asm) (by first | exact rfl | assumption) (by ktr_room) (by ktr_units) ?_; k_whole; intro t9 h9 tk9 F9 N9; (try k_sweep); (try dsimp only); (try k_fold)))
  dsimp only [FnOk, CbRet]
  k_fill
  intros
  rename_i hret
  refine wpAny_call ?_
  k_dflt cell_enter
  k_steps
  all_goals first
    | exact ret_int hret (by assumption) (by assumption) (hexV_2 (by assumption))
    | exact ret_int hret (by assumption) (by assumption) (hexV_1 (by assumption) (by assumption))
    | exact ret_int hret (by assumption) (by assumption) (hexV_0 (by assumption) (by assumption))
set_option maxHeartbeats 8000000 in
theorem oct_ok (w : World) (mean : ExcName → Option Value) (mg mb : SV → Option Value) (x : Str) (t : Tok) (wd : Int) (tw : Tok) (hx : x.length ≤ 64) (hw : 4 ≤ wd ∧ wd ≤ 64) : FnOk w mean mg mb 140 4 [.str x t, .int wd tw] (fun t => .int (octV wd.toNat x.cps.toList) t) := by
  k_with_none
  k_with "call ref" => (k_here; (with_reducible show wpAny _ _ (call (Value.ref 67) [Value.str _ _]) _ _ _); k_dflt (refine' fn_use (small_ok _ _ _ _ _ _ (by first | assumption | exact rfl | omega | exact mark_len (by omega) (by omega) (by omega))) (by k_asm) (by k_asm) (by k_asm) (by k_asm) (by k_asm) (by first | exact rfl | assumption) (by ktr_room) (by ktr_units) ?_; k_whole; intro t9 h9 tk9 F9 N9; (try k_sweep); (try dsimp only); (try k_fold)))
  k_with "call ref" => (k_here; (with_reducible show wpAny _ _ (call (Value.ref 77) [Value.str _ _]) _ _ _); k_dflt (refine' fn_use (lc_ok _ _ _ _ _ _ (by first | assumption | exact rfl | omega | exact Nat.le_trans (Txt.slice_le _ _ _) (by omega))) (by k_asm) (by k_asm) (by k_asm) (by k_asm) (by k_asm) (by first | exact rfl | assumption) (by ktr_room) (by ktr_units) ?_; k_whole; intro t9 h9 tk9 F9 N9; (try k_sweep); (try dsimp only); (try k_fold)))
  k_with "call ref" => (k_here; (with_reducible show wpAny _ _ (call (Value.ref 126) [Value.str _ _, Value.int _ _, Value.int _ _, Value.int _ _]) _ _ _); k_dflt (refine' fn_use (read_ok _ _ _ _ _ _ _ _ _ _ _ _ (by first | assumption | exact rfl | omega) (by first | assumption | omega | exact ⟨by decide, hex_len2 (by assumption)⟩ | exact ⟨by decide, hex_len1 (by assumption)⟩ | exact ⟨by omega, zero_lt (by assumption) (by omega) (by assumption)⟩) (by decide) (by assumption)) (by k_asm) (by k_asm) (by k_asm) (by k_asm) (by k_asm) (by first | exact rfl | assumption) (by ktr_room) (by ktr_units) ?_; k_whole; intro t9 h9 tk9 F9 N9; (try k_sweep); (try dsimp only); (try k_fold)))
  dsimp only [FnOk, CbRet]
  k_fill
  intros
  rename_i hret
  refine wpAny_call ?_
  k_dflt cell_enter
  k_with "state" => first | exact oct_step (by assumption) (by assumption) (by assumption) (by assumption) | exact oct_start x
  k_with "exec While BoolOp cons nil" => k_while (fun _ i => (0 ≤ i ∧ i ≤ (x.length : Int)) ∧ OctInv x i) (fun _ i => (x.length - i).toNat) "at"
  k_with "exec While BoolOp" => k_while (fun _ i => (0 ≤ i ∧ i ≤ (x.length : Int)) ∧ OctInv x i) (fun _ i => (x.length - i).toNat) "at"
  k_steps
  all_goals (have e0 := by first | exact oct_at (x := x) (by assumption) (by assumption) (by assumption) (by assumption) | exact oct_end (x := x) (by assumption) (by assumption))
  all_goals first
    | (exfalso; (have h := zero_lt (by assumption) rfl (by assumption)); omega)
    | ((have e := zero_yes (by assumption) rfl e0 (by assumption)); first
      | exact ret_int hret (by assumption) (by assumption) (octAt_x (by omega) rfl (by assumption) e (by assumption))
      | exact ret_int hret (by assumption) (by assumption) (octAt_b (by omega) rfl (by assumption) e (by assumption) (by assumption))
      | exact ret_int hret (by assumption) (by assumption) (octAt_o (by omega) rfl (by assumption) e (by assumption) (by assumption) (by assumption))
      | exact ret_int hret (by assumption) (by assumption) (octAt_n (by omega) rfl (by assumption) e (by assumption) (by assumption) (by assumption))
      | exact ret_int hret (by assumption) (by assumption) (octAt_out (by assumption) e))
    | ((have e := zero_no (by assumption) rfl e0 (by assumption)); first
      | exact ret_int hret (by assumption) (by assumption) (octAt_x (by omega) rfl (by assumption) e (by assumption))
      | exact ret_int hret (by assumption) (by assumption) (octAt_b (by omega) rfl (by assumption) e (by assumption) (by assumption))
      | exact ret_int hret (by assumption) (by assumption) (octAt_o (by omega) rfl (by assumption) e (by assumption) (by assumption) (by assumption))
      | exact ret_int hret (by assumption) (by assumption) (octAt_n (by omega) rfl (by assumption) e (by assumption) (by assumption) (by assumption))
      | exact ret_int hret (by assumption) (by assumption) (octAt_out (by assumption) e))
end
section
abbrev pairs : Str := Str.ofString "aAbBcCdDeEfFgGhHiIjJkKlLmMnNoOpPqQrRsStTuUvVwWxXyYzZ"
theorem pairs_find (c : Nat) : Txt.find pairs ⟨#[c]⟩ = if 97 ≤ c ∧ c ≤ 122 then 2 * ((c : Int) - 97) else if 65 ≤ c ∧ c ≤ 90 then 2 * ((c : Int) - 65) + 1 else -1 := by
  by_cases h : c < 128
  · exact (by decide +kernel : ∀ c : Fin 128, Txt.find pairs ⟨#[c.val]⟩ = if 97 ≤ c.val ∧ c.val ≤ 122 then 2 * ((c.val : Int) - 97) else if 65 ≤ c.val ∧ c.val ≤ 90 then 2 * ((c.val : Int) - 65) + 1 else -1) ⟨c, h⟩
  · rw [if_neg (by omega), if_neg (by omega)]
    refine find_none fun hm => ?_
    have := (by decide +kernel : ∀ c ∈ pairs.cps.toList, c < 128) c hm
    omega
theorem other_lt {c : Nat} (h0 : ¬ Txt.find pairs ⟨#[c]⟩ < 0) (h1 : (Txt.find pairs ⟨#[c]⟩).fmod 2 ≠ 1) : Txt.find pairs ⟨#[c]⟩ + 1 < 52 := by
  have hf := pairs_find c
  rw [Int.fmod_eq_emod_of_nonneg _ (by decide)] at h1
  rw [hf] at h0 h1 ⊢
  split at h0 <;> (try split at h0) <;> (repeat' split) <;> omega
theorem other_up {c : Nat} (h : 97 ≤ c ∧ c ≤ 122) : Txt.item pairs (2 * ((c : Int) - 97) + 1) = ⟨#[c - 32]⟩ :=
  (by decide +kernel : ∀ c : Fin 128, 97 ≤ c.val ∧ c.val ≤ 122 → Txt.item pairs (2 * ((c.val : Int) - 97) + 1) = ⟨#[c.val - 32]⟩) ⟨c, by omega⟩ h
theorem other_down {c : Nat} (h : 65 ≤ c ∧ c ≤ 90) : Txt.item pairs (2 * ((c : Int) - 65) + 1 - 1) = ⟨#[c + 32]⟩ :=
  (by decide +kernel : ∀ c : Fin 128, 65 ≤ c.val ∧ c.val ≤ 90 → Txt.item pairs (2 * ((c.val : Int) - 65) + 1 - 1) = ⟨#[c.val + 32]⟩) ⟨c, by omega⟩ h
/-- not found: no letter -/
theorem other_not {c : Nat} (h : Txt.find pairs ⟨#[c]⟩ < 0) : ¬ (97 ≤ c ∧ c ≤ 122) ∧ ¬ (65 ≤ c ∧ c ≤ 90) := by
  rw [pairs_find] at h
  split at h
  · omega
  · rename_i h1
    split at h
    · omega
    · rename_i h2; exact ⟨h1, h2⟩
theorem other_odd {c : Nat} (h0 : ¬ Txt.find pairs ⟨#[c]⟩ < 0) (h1 : (Txt.find pairs ⟨#[c]⟩).fmod 2 = 1) : 65 ≤ c ∧ c ≤ 90 := by
  rw [Int.fmod_eq_emod_of_nonneg _ (by decide)] at h1
  rw [pairs_find] at h0 h1
  split at h0
  · rename_i h; rw [if_pos h] at h1; omega
  · rename_i h
    rw [if_neg h] at h1
    split at h0
    · assumption
    · omega
theorem other_even {c : Nat} (h0 : ¬ Txt.find pairs ⟨#[c]⟩ < 0) (h1 : (Txt.find pairs ⟨#[c]⟩).fmod 2 ≠ 1) : 97 ≤ c ∧ c ≤ 122 := by
  rw [Int.fmod_eq_emod_of_nonneg _ (by decide)] at h1
  rw [pairs_find] at h0 h1
  split at h0
  · assumption
  · rename_i h
    rw [if_neg h] at h1
    split at h0
    · rename_i h2; rw [if_pos h2] at h1; omega
    · omega
theorem emod_two (z : Int) : z.fmod 2 = 0 ∨ z.fmod 2 = 1 := by
  rw [Int.fmod_eq_emod_of_nonneg _ (by decide)]; omega
set_option maxHeartbeats 8000000 in
theorem otherT_ok (w : World) (mean : ExcName → Option Value) (mg mb : SV → Option Value) (x : Str) (t : Tok) (hx : x.length = 1) : FnOk w mean mg mb 162 1 [.str x t, .bool true] (fun t => .str (great x) t) := by
  k_with_none
  w_top off
  k_with "subscriptTail Name BinOp str int" => (k_here; k_dflt ((refine KXi.item (n := 52) (by decide +kernel) (by omega) (other_lt (by assumption) (by assumption)) (by decide) ?_); intro kxiE))
  obtain ⟨c, rfl⟩ := one_of hx
  have hb : Txt.find pairs ⟨#[c]⟩ < 52 := by rw [pairs_find c]; (repeat' split) <;> omega
  dsimp only [FnOk, CbRet]
  k_fill
  intros
  rename_i hret
  refine wpAny_call ?_
  k_dflt cell_enter
  k_steps
  · exact ret_str hret (by assumption) (by assumption) (by have h := other_not (by assumption); rw [great_one, greatC, if_neg h.1])
  · exact ret_str hret (by assumption) (by assumption) (by have h := other_odd (by assumption) (by assumption); rw [great_one, greatC, if_neg (by omega)])
  · exact ret_str hret (by assumption) (by assumption) (by have h := other_even (by assumption) (by assumption); rw [great_one, greatC, if_pos h, pairs_find, if_pos h, other_up h])
theorem other_lt2 {c : Nat} (_ : ¬ Txt.find pairs ⟨#[c]⟩ < 0) : Txt.find pairs ⟨#[c]⟩ - 1 < 52 := by
  rw [pairs_find c]; (repeat' split) <;> omega
theorem other_even' {c : Nat} (h0 : ¬ Txt.find pairs ⟨#[c]⟩ < 0) (h1 : (Txt.find pairs ⟨#[c]⟩).fmod 2 = 0) : 97 ≤ c ∧ c ≤ 122 :=
  other_even h0 (by omega)
theorem other_odd' {c : Nat} (h0 : ¬ Txt.find pairs ⟨#[c]⟩ < 0) (h1 : (Txt.find pairs ⟨#[c]⟩).fmod 2 ≠ 0) : 65 ≤ c ∧ c ≤ 90 :=
  other_odd h0 ((emod_two _).resolve_left h1)
set_option maxHeartbeats 8000000 in
theorem otherF_ok (w : World) (mean : ExcName → Option Value) (mg mb : SV → Option Value) (x : Str) (t : Tok) (hx : x.length = 1) : FnOk w mean mg mb 162 1 [.str x t, .bool false] (fun t => .str (small x) t) := by
  k_with_none
  k_with "subscriptTail Name BinOp str int" => (k_here; k_dflt ((refine KXi.item (n := 52) (by decide +kernel) (by omega) (other_lt (by assumption) (by assumption)) (by decide) ?_); intro kxiE))
  k_with "subscriptTail Name BinOp str int" => (k_here; k_dflt ((refine KXi.item (n := 52) (by decide +kernel) (by omega) (other_lt2 (by assumption)) (by decide) ?_); intro kxiE))
  obtain ⟨c, rfl⟩ := one_of hx
  have hb : Txt.find pairs ⟨#[c]⟩ < 52 := by rw [pairs_find c]; (repeat' split) <;> omega
  dsimp only [FnOk, CbRet]
  k_fill
  intros
  rename_i hret
  refine wpAny_call ?_
  k_dflt cell_enter
  k_steps
  · exact ret_str hret (by assumption) (by assumption) (by have h := other_not (by assumption); rw [small_one, smallC, if_neg h.2])
  · exact ret_str hret (by assumption) (by assumption) (by have h := other_even' (by assumption) (by assumption); rw [small_one, smallC, if_neg (by omega)])
  · exact ret_str hret (by assumption) (by assumption) (by have h := other_odd' (by assumption) (by assumption); rw [small_one, smallC, if_pos h, pairs_find, if_neg (by omega), if_pos h, other_down h])
end
section
/-- what the law says a sign is worth -/
def lawC (c : Nat) : Int := if 48 ≤ c ∧ c ≤ 57 then (c : Int) - 48 else if 97 ≤ c ∧ c ≤ 102 then (c : Int) - 87 else if 65 ≤ c ∧ c ≤ 70 then (c : Int) - 55 else 99
abbrev lowFigs : Str := Str.ofString "0123456789abcdef"
abbrev upFigs : Str := Str.ofString "0123456789ABCDEF"
theorem low_item (n : Int) (h0 : 0 ≤ n) (h1 : n < 16) : Txt.item lowFigs n = ⟨#[if n < 10 then n.toNat + 48 else n.toNat + 87]⟩ := by
  obtain ⟨k, rfl⟩ := Int.eq_ofNat_of_zero_le h0
  have hk : k < 16 := by omega
  exact (by decide +kernel : ∀ k : Fin 16, Txt.item lowFigs (k.val : Int) = ⟨#[if (k.val : Int) < 10 then (k.val : Int).toNat + 48 else (k.val : Int).toNat + 87]⟩) ⟨k, hk⟩
theorem up_item (n : Int) (h0 : 0 ≤ n) (h1 : n < 16) : Txt.item upFigs n = ⟨#[if n < 10 then n.toNat + 48 else n.toNat + 55]⟩ := by
  obtain ⟨k, rfl⟩ := Int.eq_ofNat_of_zero_le h0
  have hk : k < 16 := by omega
  exact (by decide +kernel : ∀ k : Fin 16, Txt.item upFigs (k.val : Int) = ⟨#[if (k.val : Int) < 10 then (k.val : Int).toNat + 48 else (k.val : Int).toNat + 55]⟩) ⟨k, hk⟩
theorem law_yes1 {c : Nat} {n : Int} (h0 : 0 ≤ n) (h1 : n < 16) (h : ((⟨#[c]⟩ : Str) == Txt.item lowFigs n) = true) : n = lawC c := by
  rw [low_item n h0 h1, sign_eq, decide_eq_true_eq] at h
  unfold lawC
  split at h <;> (repeat' split) <;> omega
theorem law_yes2 {c : Nat} {n : Int} (h0 : 0 ≤ n) (h1 : n < 16) (h : ((⟨#[c]⟩ : Str) == Txt.item upFigs n) = true) : n = lawC c := by
  rw [up_item n h0 h1, sign_eq, decide_eq_true_eq] at h
  unfold lawC
  split at h <;> (repeat' split) <;> omega
def lawW (x : Str) : Int := match x.cps.toList with | [] => 99 | c :: _ => lawC c
theorem lawC_range (c : Nat) : (0 ≤ lawC c ∧ lawC c < 16) ∨ lawC c = 99 := by unfold lawC; (repeat' split) <;> omega
theorem law_none {c : Nat} (h : ∀ n ∈ rangeKs 0 16, n ≠ lawC c) : (99 : Int) = lawC c := by
  rcases lawC_range c with ⟨h0, h1⟩ | h1
  · exact absurd rfl (h (lawC c) (by
      obtain ⟨k, hk⟩ := Int.eq_ofNat_of_zero_le h0
      rw [hk]
      have hk' : k < 16 := by omega
      exact (by decide +kernel : ∀ k : Fin 16, (k.val : Int) ∈ rangeKs 0 16) ⟨k, hk'⟩))
  · exact h1.symm
theorem law_no {c : Nat} {n : Int} (h0 : 0 ≤ n) (h1 : n < 16) (h : ((⟨#[c]⟩ : Str) == Txt.item lowFigs n) = false) (h2 : ((⟨#[c]⟩ : Str) == Txt.item upFigs n) = false) : n ≠ lawC c := by
  rw [low_item n h0 h1, sign_eq, decide_eq_false_iff_not] at h
  rw [up_item n h0 h1, sign_eq, decide_eq_false_iff_not] at h2
  unfold lawC
  split at h <;> split at h2 <;> (repeat' split) <;> omega
set_option maxHeartbeats 8000000 in
theorem worth_ok (w : World) (mean : ExcName → Option Value) (mg mb : SV → Option Value) (x : Str) (t : Tok) (hx : x.length = 1) : FnOk w mean mg mb 169 1 [.str x t] (fun t => .int (lawW x) t) := by
  k_with_none
  w_top off
  k_with "pyIter ref" => (k_here; k_dflt (k_extra "loop"))
  k_with "exec For Name Call cons nil" => (k_here; (rename Fr _ _ _ _ => lF'); (with_unfolding_all refine' For_invVF lF' ?k1 ?k2 ?_; (case k1 => exact rfl); (case k2 => exact rfl); k_whole))
  k_with "InvEndN" => k_dflt (k_extra "loop end")
  obtain ⟨c, rfl⟩ := one_of hx
  dsimp only [FnOk, CbRet]
  k_fill
  intros
  rename_i hret
  refine wpAny_call ?_
  k_dflt cell_enter
  k_with "loop end" => (refine kst_end (c := ()) (by assumption) (by assumption) (fun p hp => List.mem_append_left _ hp) (fun p hp => List.mem_append_right _ hp) rfl True.intro (fun p hp => nomatch hp) ?_ ?_; (intro z h1 _ _; (try dsimp only); rw [if_neg h1]; rfl); (intro q hq; rcases List.mem_append.mp hq with hq | hq; exact (by assumption : ∀ n ∈ _, n ≠ lawC c) q hq; (rw [List.mem_singleton.mp hq]; exact law_no (by omega) (by omega) (by assumption) (by assumption))))
  k_with "loop" => ((rename Fr _ _ _ _ => lF); (rename News _ _ _ _ => lN); (rename IsRange _ _ _ _ _ _ _ _ => rgX); (refine kst_range (σ := Unit) (n := 16) (fun _ => _) (fun _ => []) (fun _ => True) [] (fun pre _ => ∀ n ∈ pre, n ≠ lawC c) () (by rfl) rgX (by decide) (by decide) lF lN True.intro (fun p hp => nomatch hp) (fun p hp => nomatch hp) (fun c' pre k t' u h tk own hk hlen hoff hf hp F' N' => ?_) (fun c' u h tk hf hp F' N' => ?_)); all_goals (try k_fold))
  k_steps
  · exact ret_int hret (by assumption) (cb_drop (by assumption) fun p hp => List.mem_append_left _ hp) (law_yes1 (by omega) (by omega) (by assumption))
  · exact ret_int hret (by assumption) (cb_drop (by assumption) fun p hp => List.mem_append_left _ hp) (law_yes2 (by omega) (by omega) (by assumption))
  · exact ret_int hret (by assumption) (by assumption) (law_none (by assumption))
end
section
/-- the figures as the law keeps them -/
noncomputable def lfigs (b : Int) : List Nat → List Int
  | [] => []
  | [c] => if b ≤ lawC c then [] else [lawC c]
  | c :: d :: r => if c = 95 ∧ lawC d < b then lfigs b (d :: r) else if b ≤ lawC c then [] else lawC c :: lfigs b (d :: r)
theorem lawC_low (b : Int) (hb : b ≤ 16) : b ≤ lawC 95 := by
  have : lawC 95 = 99 := by decide
  omega
def NumInv (x : PySem.Str) (b : Int) (i : Nat) (ks : List Int) : Prop := ks ++ lfigs b (x.cps.toList.drop i) = lfigs b x.cps.toList ∧ ks.length ≤ i ∧ ∀ d ∈ ks, 0 ≤ d ∧ d < 16
theorem num_start (x : PySem.Str) (b : Int) : NumInv x b 0 [] := ⟨rfl, Nat.le_refl _, fun _ h => nomatch h⟩
section
variable {x : PySem.Str} {b k : Int} {i : Nat} {ks : List Int}
theorem drop_nat (hk : k = 0 + (i : Int)) (h1 : i < x.length) : ∃ c r, x.cps.toList.drop i = c :: r ∧ Txt.item x k = ⟨#[c]⟩ ∧ x.cps.toList.drop (i + 1) = r := by
  obtain ⟨c, r, e1, e2, e3⟩ := drop_at (x := x) (i := k) (by omega) (by omega)
  have a : k.toNat = i := by omega
  have a' : (k + 1).toNat = i + 1 := by omega
  rw [a] at e1; rw [a'] at e3
  exact ⟨c, r, e1, e2, e3⟩
theorem lawW_one (c : Nat) : lawW ⟨#[c]⟩ = lawC c := rfl
theorem num_skip (hk : k = 0 + (i : Int)) (h1 : i < x.length) (hI : NumInv x b i ks) (hu : (Txt.item x k == Str.ofString "_") = true) (h2 : k + 1 < (x.length : Int)) (hs : lawW (Txt.item x (k + 1)) < b) : NumInv x b (i + 1) ks := by
  obtain ⟨c, r, e1, e2, e3⟩ := drop_nat hk h1
  obtain ⟨d, r', f1, f2, f3⟩ := drop_nat (x := x) (k := k + 1) (i := i + 1) (by omega) (by omega)
  rw [e2, low_is, sign_eq, decide_eq_true_eq] at hu
  subst hu
  rw [f2, lawW_one] at hs
  obtain ⟨a1, a2, a3⟩ := hI
  refine ⟨?_, by omega, a3⟩
  have er : r = d :: r' := by rw [← e3, f1]
  rw [← a1, e1, e3, er, lfigs, if_pos ⟨rfl, hs⟩]
/-- a sign that is no low line before a figure -/
def Plain (x : PySem.Str) (b k : Int) : Prop := (Txt.item x k == Str.ofString "_") = false ∨ ¬ k + 1 < (x.length : Int) ∨ ¬ lawW (Txt.item x (k + 1)) < b
theorem lfigs_plain (hk : k = 0 + (i : Int)) (h1 : i < x.length) (hp : Plain x b k) : ∃ c r, x.cps.toList.drop i = c :: r ∧ Txt.item x k = ⟨#[c]⟩ ∧ x.cps.toList.drop (i + 1) = r ∧ lfigs b (c :: r) = if b ≤ lawC c then [] else lawC c :: lfigs b r := by
  obtain ⟨c, r, e1, e2, e3⟩ := drop_nat hk h1
  refine ⟨c, r, e1, e2, e3, ?_⟩
  cases r with
  | nil => rfl
  | cons d r =>
    rw [lfigs, if_neg]
    rintro ⟨hc, hd⟩
    obtain ⟨d', r', f1, f2, f3⟩ := drop_nat (x := x) (k := k + 1) (i := i + 1) (by omega) (by
      have := congrArg List.length e3
      simp only [List.length_drop, List.length_cons, Array.length_toList] at this
      simp only [PySem.Str.length]; omega)
    have ed : d = d' := by rw [e3] at f1; cases f1; rfl
    subst ed
    rcases hp with hp | hp | hp
    · rw [e2, low_is, sign_eq, decide_eq_false_iff_not] at hp; exact hp hc
    · have := congrArg List.length e3
      simp only [List.length_drop, List.length_cons, Array.length_toList] at this
      simp only [PySem.Str.length] at hp
      omega
    · rw [f2, lawW_one] at hp; exact hp hd
theorem num_keep (hb : b ≤ 16) (hk : k = 0 + (i : Int)) (h1 : i < x.length) (hI : NumInv x b i ks) (hp : Plain x b k) (hs : ¬ b ≤ lawW (Txt.item x k)) : NumInv x b (i + 1) (ks ++ [lawW (Txt.item x k)]) := by
  obtain ⟨c, r, e1, e2, e3, e4⟩ := lfigs_plain hk h1 hp
  rw [e2, lawW_one] at hs ⊢
  obtain ⟨a1, a2, a3⟩ := hI
  refine ⟨?_, by rw [List.length_append, List.length_singleton]; omega, ?_⟩
  · rw [← a1, e1, e4, if_neg hs, e3, List.append_assoc]; rfl
  · intro d hd
    rcases List.mem_append.mp hd with hd | hd
    · exact a3 d hd
    · rw [List.mem_singleton.mp hd]
      have := lawC_range c
      omega
theorem num_brk (hk : k = 0 + (i : Int)) (h1 : i < x.length) (hI : NumInv x b i ks) (hp : Plain x b k) (hs : b ≤ lawW (Txt.item x k)) : ks = lfigs b x.cps.toList := by
  obtain ⟨c, r, e1, e2, e3, e4⟩ := lfigs_plain hk h1 hp
  rw [e2, lawW_one] at hs
  rw [← hI.1, e1, e4, if_pos hs, List.append_nil]
theorem num_out (hI : NumInv x b x.length ks) : ks = lfigs b x.cps.toList := by
  rw [← hI.1, List.drop_of_length_le (by simp [PySem.Str.length])]
  simp [lfigs]
end
/-- the sum by places -/
noncomputable def placeSum (b : Int) (ks : List Int) : Int := (List.map (fun k' : Int => ks.getD (-1 - k' + (ks.length : Int)).toNat 0 * b ^ k'.toNat) (rangeKs 0 ((ks.length : Int) - 0).toNat)).sum
noncomputable def lawN (wd : Nat) (t : Int) : Int := if 2 ^ wd ≤ t then 2 ^ wd - 1 else t
noncomputable def lawV (b : Int) (wd : Nat) (l : List Nat) : Int :=
  if 2 ^ wd ≤ 2 * lawN wd (placeSum b (lfigs b l)) then lawN wd (placeSum b (lfigs b l)) - 2 ^ wd else lawN wd (placeSum b (lfigs b l))
section
variable {b : Int} {wd : Nat} {ks : List Int} {l : List Nat}
theorem lawV_1 (e : ks = lfigs b l) (h1 : 2 ^ wd ≤ placeSum b ks) (h2 : (2 : Int) ^ wd ≤ 2 * (2 ^ wd - 1)) : 2 ^ wd - 1 - 2 ^ wd = lawV b wd l := by
  subst e; unfold lawV lawN; rw [if_pos h1, if_pos h2]
theorem lawV_2 (e : ks = lfigs b l) (h1 : 2 ^ wd ≤ placeSum b ks) (h2 : ¬ (2 : Int) ^ wd ≤ 2 * (2 ^ wd - 1)) : 2 ^ wd - 1 = lawV b wd l := by
  subst e; unfold lawV lawN; rw [if_pos h1, if_neg h2]
theorem lawV_3 (e : ks = lfigs b l) (h1 : ¬ 2 ^ wd ≤ placeSum b ks) (h2 : (2 : Int) ^ wd ≤ 2 * placeSum b ks) : placeSum b ks - 2 ^ wd = lawV b wd l := by
  subst e; unfold lawV lawN; rw [if_neg h1, if_pos h2]
theorem lawV_4 (e : ks = lfigs b l) (h1 : ¬ 2 ^ wd ≤ placeSum b ks) (h2 : ¬ (2 : Int) ^ wd ≤ 2 * placeSum b ks) : placeSum b ks = lawV b wd l := by
  subst e; unfold lawV lawN; rw [if_neg h1, if_neg h2]
end
end
section
theorem all_ne {d a : Nat} {l : List (Ad × Obj)} (h : ∀ p ∈ l, p.1 < d) (hd : d ≤ a) : ∀ p ∈ l, p.1 ≠ a := fun p hp => Nat.ne_of_lt (Nat.lt_of_lt_of_le (h p hp) hd)
theorem allLt_out {d : Ad} : ∀ {l : List (Ad × Obj)}, AllLt d l → ∀ p ∈ l, p.1 < d
  | [], _, _, h => nomatch h
  | _ :: _, x, p, h => by
    rcases List.mem_cons.mp h with rfl | h
    · exact x.1
    · exact allLt_out x.2 p h
theorem off_list {a : Ad} {l own : List (Ad × Obj)} {p q : Ad × Obj} {o : Obj} {A B : Prop} (h1 : A ∧ B ∧ AllLt a l) (h2 : OwnOff own (((a, o) :: p :: q :: l).map (·.1))) : ∀ p ∈ l ++ own, p.1 ≠ a := by
  intro p hp
  rcases List.mem_append.mp hp with hp | hp
  · exact Nat.ne_of_lt (allLt_out h1.2.2 p hp)
  · exact h2 p hp a (List.mem_cons_self)
theorem tail4 {l own : List (Ad × Obj)} {p a b c d : Ad × Obj} (h : p ∈ l) : p ∈ a :: b :: c :: d :: (l ++ own) :=
  List.mem_cons_of_mem _ (List.mem_cons_of_mem _ (List.mem_cons_of_mem _ (List.mem_cons_of_mem _ (List.mem_append_left _ h))))
theorem led3 {l own : List (Ad × Obj)} {p a b c : Ad × Obj} (h : p ∈ a :: b :: c :: l) : p ∈ a :: b :: c :: (l ++ own) := by
  have : a :: b :: c :: (l ++ own) = (a :: b :: c :: l) ++ own := rfl
  rw [this]; exact List.mem_append_left _ h
theorem own3 {l own : List (Ad × Obj)} {p a b c : Ad × Obj} (h : p ∈ own) : p ∈ a :: b :: c :: (l ++ own) := by
  have : a :: b :: c :: (l ++ own) = (a :: b :: c :: l) ++ own := rfl
  rw [this]; exact List.mem_append_right _ h
theorem list_snoc (ys : List Value) (v : Value) : listOf (ys.toArray.push v) (ys.length + 1) = listOf (ys ++ [v]).toArray (ys ++ [v]).length := by
  rw [List.length_append, List.length_singleton, List.push_toArray]
/-- a for over a range by what holds between the turns; what comes behind it is walked once, for the break too -/
theorem range_loop {prog : Program} {w : World} {A : Around} {E : Value → Shared → Prop} {s : Shared} {env : Env} {h₀ : Heap} {x : Str} {body : List Stmt} {Q : Flow → Shared → Prop} {σ : Type} {r : Ad} {a₀ b₀ : Int} {t₀ u₀ v₀ : Tok} {n : Nat} {m₀ : Str → Option Value}
    (Led : σ → List (Ad × Obj)) (P : List Int → σ → Prop) (Good : σ → Prop) (c₀ : σ)
    (hh : A.handled = none) (hr : IsRange s.heap r a₀ b₀ 1 t₀ u₀ v₀) (hsmall : Builtin.Range.small a₀ b₀ 1 = true) (hn : Builtin.Range.rangeSize a₀ b₀ 1 = (n : Int)) (F : Fr h₀ env.locals s.heap m₀) (N : News h₀ env.locals s.heap (Led c₀)) (hp : P [] c₀)
    (hG : ∀ c, P (rangeKs a₀ n) c → Good c)
    (after : ∀ (c : σ) (u : Str → Option Value) h tk own, Good c → Fr h₀ env.locals h (fun y => if y = x then u y else m₀ y) → News h₀ env.locals h (Led c ++ own) → Q .next { s with heap := h, toks := tk })
    (turn : (∀ (c : σ) (u : Str → Option Value) h tk own, Good c → Fr h₀ env.locals h (fun y => if y = x then u y else m₀ y) → News h₀ env.locals h (Led c ++ own) → Q .next { s with heap := h, toks := tk }) →
      ∀ (c : σ) (pre : List Int) (k : Int) t h tk own, k = a₀ + (pre.length : Int) → pre.length < n → OwnOff own ((Led c₀).map (·.1)) → P pre c →
      Fr h₀ env.locals h (fun y => if y = x then some (.int k t) else m₀ y) → News h₀ env.locals h (Led c ++ own) →
      wpAny (model prog w) A (execs body env) (InvPostN h₀ env.locals (KstS Led (fun _ => []) (fun _ => True) x [] m₀ P (pre ++ [k])) own ((Led c₀).map (·.1)) { s with heap := h, toks := tk } Q) E { s with heap := h, toks := tk }) :
    wpAny (model prog w) A (pyIter (.ref r)) (fun it s₂ => LoopAtV prog w A h₀ env x body Q E it s₂) E s :=
  kst_range Led (fun _ => []) (fun _ => True) [] P c₀ hh hr hsmall hn F N True.intro (fun p hp => nomatch hp) hp
    (fun c pre k t _ h tk own hk hl ho _ hp F N => turn after c pre k t h tk own hk hl ho hp F N)
    (fun c u h tk _ hp F N => after c u h tk [] (hG c hp) F (by simpa using N))
set_option maxHeartbeats 8000000 in
theorem number_ok (w : World) (mean : ExcName → Option Value) (mg mb : SV → Option Value) (x : Str) (t : Tok) (b : Int) (tb : Tok) (wd : Int) (tw : Tok) (hx : x.length ≤ 64) (hb : 2 ≤ b ∧ b ≤ 16) (hw : 4 ≤ wd ∧ wd ≤ 64) : FnOk w mean mg mb 174 2 [.str x t, .int b tb, .int wd tw] (fun t => .int (lawV b wd.toNat x.cps.toList) t) := by
  k_with_none
  w_top off
  k_with "k_all" => exact all_ne (by assumption) (by omega)
  k_with "call ref" => (k_here; (with_reducible show wpAny _ _ (call (Value.ref 169) [Value.str _ _]) _ _ _); k_dflt (refine' fn_use (worth_ok _ _ _ _ _ _ (by first | assumption | exact rfl | omega)) (by k_asm) (by k_asm) (by k_asm) (by k_asm) (by k_asm) (by first | exact rfl | assumption) (by ktr_room) (by ktr_units) ?_; k_whole; intro t9 h9 tk9 F9 N9; (try k_sweep); (try dsimp only); (try k_fold)))
  k_with "k_all" => assumption
  k_with "InvEndN" => k_dflt (k_extra "loop end")
  k_with "InvPostN" => k_dflt (k_extra "brk")
  k_with "binaryOp Mult int int" => (k_here; k_dflt (refine PyProof.Rows.mul_int (hm := IntMulOk.of_left ?hb) ?_; (case hb => k_extra "bits")))
  k_with "call builtin:len" => (k_here; (with_reducible show wpAny _ _ (call (Value.builtin "len") [Value.ref _]) _ _ _); k_dflt (refine' PyProof.Rows.len_list (News.isList ?N ?m) ?f ?_; (case N => k_asm); (case m => k_mem); (case f => (simp only [List.size_toArray]; omega))))
  k_with "binaryOp Pow int int" => (k_here; k_dflt (refine pow_int_small (by omega) (by omega) (by omega) ?_))
  dsimp only [FnOk, CbRet]
  k_fill
  intros
  rename_i hret
  refine wpAny_call ?_
  k_dflt (refine' code_defC ?k1 ?k2 ?k3 ?k4 ?k5 ?kA ?kF ?kK ?k6 ?k7 ?k8 ?k9 ?kB ?kD ?_ ?c2 ?c3 ?c4; (case kA => exact rfl); (case kF => exact rfl); (case kK => assumption); (case k1 => k_asm); (case k2 => k_asm); (case k3 => k_asm); (case k4 => k_asm); (case k5 => k_asm); (case k6 => k_is); (case k7 => k_is); (case k8 => ktr_room); (case k9 => exact BindsTo.of_eq rfl); (case kB => exact rfl); (case kD => decide +kernel); (case c2 => exact rfl); (case c3 => exact rfl); (case c4 => exact rfl); k_whole; intro g' L' h' tk' cells' FG' F' N' Y' B' X' T' l1; (try k_lt l1); k_cells Y'; (try simp only [List.cons_append, List.nil_append] at N'); (try dsimp only); (try k_lift B'); (try k_fold))
  repeat ((fail_if_success (with_reducible show wpAny _ _ (pyIter _) _ _ _)); (first | walk1 | (dsimp only; walk1)))
  (rename Fr _ _ _ _ => lF); (rename IsRange _ _ _ _ _ _ _ _ => rgX); (rename News _ _ _ ((_, listOf _ _) :: _) => lN)
  refine range_loop (σ := List Value) (n := x.length) (fun ys => (_, listOf ys.toArray ys.length) :: _ :: _ :: _) (fun pre ys => ∃ ks, IntsAre ys ks ∧ NumInv x b pre.length ks) (fun ys => ∃ ks, IntsAre ys ks ∧ ks = lfigs b x.cps.toList ∧ ks.length ≤ 64 ∧ ∀ d ∈ ks, 0 ≤ d ∧ d < 16) [] (by rfl) rgX ?rsm ?rsz lF lN ⟨[], .nil, num_start x b⟩ ?rg (fun ys u h tk own hp F' N' => ?_) (fun after ys pre k t' h tk own hk hlen hoff hp F' N' => ?_)
  case rsm => exact PySem.small_one (by omega) (by omega) (by omega) (by omega)
  case rsz => exact rangeSize_nat _ _
  case rg =>
    rintro ys ⟨ks, hks, hI⟩
    rw [rangeKs_length] at hI
    exact ⟨ks, hks, num_out hI, by have := hI.2.1; omega, hI.2.2⟩
  · obtain ⟨ks, hks, hke, hkl, hkb⟩ := hp
    simp only [List.cons_append] at N'
    have hl := hks.length
    have hgd : ∀ i, Builtin.Int.intBits (ks.getD i 0) ≤ 64 := fun i => by
      have h : 0 ≤ ks.getD i 0 ∧ ks.getD i 0 < 16 := by
        rw [List.getD_eq_getElem?_getD]
        cases hi : ks[i]? with
        | none => exact ⟨by decide, by decide⟩
        | some d => exact hkb d (List.mem_of_getElem? hi)
      exact intBits_le_64 (by omega) (by omega)
    k_with "bits" => exact hgd _
    k_steps
    all_goals first
      | exact ret_int hret (by assumption) (cb_drop (by assumption) fun p hp => tail4 hp) (lawV_1 hke (by assumption) (by assumption))
      | exact ret_int hret (by assumption) (cb_drop (by assumption) fun p hp => tail4 hp) (lawV_2 hke (by assumption) (by assumption))
      | exact ret_int hret (by assumption) (cb_drop (by assumption) fun p hp => tail4 hp) (lawV_3 hke (by assumption) (by assumption))
      | exact ret_int hret (by assumption) (cb_drop (by assumption) fun p hp => tail4 hp) (lawV_4 hke (by assumption) (by assumption))
  · k_fold
    obtain ⟨ks, hks, hI⟩ := hp
    simp only [List.cons_append] at N'
    have hz := off_list (by assumption) hoff
    have hkr : 0 ≤ k ∧ k < (x.length : Int) := by omega
    have hl := hks.length
    have hkl : ks.length ≤ 64 := by have := hI.2.1; omega
    have hsz : ys.toArray.size ≤ sizeLine := by rw [List.size_toArray, hl, sizeLine_eq]; omega
    k_with "brk" => exact after ys (fun _ => some (.int k t')) _ _ own ⟨ks, hks, num_brk (by assumption) (by assumption) hI (by first | exact Or.inl (by assumption) | exact Or.inr (Or.inl (by assumption)) | exact Or.inr (Or.inr (by assumption))) (by assumption), hkl, hI.2.2⟩ (by assumption) (by assumption)
    k_with "loop end" => (first
      | (refine kst_end (c := ys) (by assumption) (by assumption) (fun p hp => List.mem_append_left _ hp) (fun p hp => List.mem_append_right _ hp) rfl True.intro (fun p hp => nomatch hp) ?_ ?_; (intro z h1 _ _; (try dsimp only); rw [if_neg h1]); exact ⟨ks, hks, by rw [List.length_append, List.length_singleton]; exact num_skip (by assumption) (by assumption) hI (by assumption) (by assumption) (by assumption)⟩)
      | ((rename News _ _ _ ((_, listOf (Array.push _ _) _) :: _) => nE); (rw [list_snoc] at nE); (refine kst_end (c := ys ++ [_]) (by assumption) nE (fun p hp => led3 hp) (fun p hp => own3 hp) rfl True.intro (fun p hp => nomatch hp) ?_ ?_); (intro z h1 _ _; (try dsimp only); rw [if_neg h1]); exact ⟨ks ++ [_], hks.append (.cons _ _ .nil), by rw [List.length_append, List.length_singleton]; exact num_keep hb.2 (by assumption) (by assumption) hI (by first | exact Or.inl (by assumption) | exact Or.inr (Or.inl (by assumption)) | exact Or.inr (Or.inr (by assumption))) (by assumption)⟩))
    k_steps
end
section
abbrev Tx := PySem.Str
def marks4 : List (List Nat) := [[48, 120], [48, 88], [120], [88]]
/-- the first of the marks that the text opens with -/
noncomputable def opens (ms : List (List Nat)) (l : List Nat) : Option (List Nat) := ms.find? fun m => decide (l.take m.length = m)
noncomputable def lhexV (wd : Nat) (l : List Nat) : Int := match opens marks4 l with
  | some m => lawV 16 wd (l.drop m.length)
  | none => lawV 16 wd l
def NotYet (ms : List (List Nat)) (l : List Nat) (i : Nat) : Prop := ∀ m ∈ ms.take i, l.take m.length ≠ m
theorem notYet_zero (ms : List (List Nat)) (l : List Nat) : NotYet ms l 0 := fun m h => by simp at h
theorem notYet_succ {ms : List (List Nat)} {l m : List Nat} {i : Nat} (h : NotYet ms l i) (hm : ms[i]? = some m) (hn : l.take m.length ≠ m) : NotYet ms l (i + 1) := by
  intro m' h'
  rw [List.take_add_one, hm] at h'
  rcases List.mem_append.mp h' with h' | h'
  · exact h m' h'
  · simp at h'; subst h'; exact hn
theorem opens_some {ms : List (List Nat)} {l m : List Nat} {i : Nat} (h : NotYet ms l i) (hm : ms[i]? = some m) (hy : l.take m.length = m) : opens ms l = some m := by
  unfold opens
  rw [List.find?_eq_some_iff_getElem]
  obtain ⟨hi, rfl⟩ := List.getElem?_eq_some_iff.mp hm
  refine ⟨decide_eq_true hy, i, hi, rfl, fun j hj => ?_⟩
  have := h ms[j] (by rw [List.mem_take_iff_getElem]; exact ⟨j, by omega, rfl⟩)
  simpa using this
theorem opens_none {ms : List (List Nat)} {l : List Nat} (h : NotYet ms l ms.length) : opens ms l = none := by
  unfold opens
  rw [List.find?_eq_none]
  intro m hm
  have := h m (by rw [List.take_length]; exact hm)
  simpa using this
theorem mark_eq (x mk : Tx) : (Txt.slice x none (some (mk.length : Int)) == mk) = decide (x.cps.toList.take mk.cps.toList.length = mk.cps.toList) := by
  have e : mk.cps.toList.length = mk.length := by simp [PySem.Str.length]
  rw [sl_ns x (by omega), str_eq_iff, e, Int.toNat_natCast]
theorem after_mark (x mk : Tx) : (Txt.slice x (some (mk.length : Int)) none).cps.toList = x.cps.toList.drop mk.cps.toList.length := by
  have e : mk.cps.toList.length = mk.length := by simp [PySem.Str.length]
  rw [sl_sn x (by omega), e, Int.toNat_natCast]
section
variable {x mk : Tx} {wd i : Nat}
theorem lhex_yes (h : NotYet marks4 x.cps.toList i) (hm : marks4[i]? = some mk.cps.toList) (hy : (Txt.slice x none (some (mk.length : Int)) == mk) = true) : lawV 16 wd (Txt.slice x (some (mk.length : Int)) none).cps.toList = lhexV wd x.cps.toList := by
  rw [mark_eq, decide_eq_true_eq] at hy
  unfold lhexV
  rw [opens_some h hm hy, after_mark]
theorem lhex_no {ms : List (List Nat)} (h : NotYet ms x.cps.toList i) (hm : ms[i]? = some mk.cps.toList) (hy : (Txt.slice x none (some (mk.length : Int)) == mk) = false) : NotYet ms x.cps.toList (i + 1) := by
  rw [mark_eq, decide_eq_false_iff_not] at hy
  exact notYet_succ h hm hy
theorem lhex_out (h : NotYet marks4 x.cps.toList 4) : lawV 16 wd x.cps.toList = lhexV wd x.cps.toList := by
  unfold lhexV
  rw [opens_none h]
end
theorem marks_at {t0 t1 t2 t3 : Tok} {i : Nat} {v : Value} (h : [Value.str (Str.ofString "0x") t0, Value.str (Str.ofString "0X") t1, Value.str (Str.ofString "x") t2, Value.str (Str.ofString "X") t3][i]? = some v) :
    ∃ mk tk, v = .str mk tk ∧ marks4[i]? = some mk.cps.toList ∧ mk.length ≤ 2 := by
  match i, h with
  | 0, h => cases h; exact ⟨_, _, rfl, by decide +kernel, by decide +kernel⟩
  | 1, h => cases h; exact ⟨_, _, rfl, by decide +kernel, by decide +kernel⟩
  | 2, h => cases h; exact ⟨_, _, rfl, by decide +kernel, by decide +kernel⟩
  | 3, h => cases h; exact ⟨_, _, rfl, by decide +kernel, by decide +kernel⟩
  | n + 4, h => cases h

/-! the octal reading of the law -/
def isWs3 (c : Nat) : Bool := [32, 9, 10].contains c
def marks12 : List (List Nat × Int) := [([120], 16), ([48, 120], 16), ([88], 16), ([48, 88], 16), ([98], 2), ([48, 98], 2), ([66], 2), ([48, 66], 2), ([111], 8), ([48, 111], 8), ([79], 8), ([48, 79], 8)]
noncomputable def opensB (ms : List (List Nat × Int)) (l : List Nat) : Option (List Nat × Int) := ms.find? fun m => decide (l.take m.1.length = m.1)
noncomputable def loctAt (wd : Nat) (l : List Nat) : Int := match opensB marks12 l with
  | some m => lawV m.2 wd (l.drop m.1.length)
  | none => lawV 8 wd l
noncomputable def loctV (wd : Nat) (l : List Nat) : Int := loctAt wd (l.dropWhile isWs3)
def NotYetB (ms : List (List Nat × Int)) (l : List Nat) (i : Nat) : Prop := ∀ m ∈ ms.take i, l.take m.1.length ≠ m.1
theorem notYetB_zero (ms : List (List Nat × Int)) (l : List Nat) : NotYetB ms l 0 := fun m h => by simp at h
theorem notYetB_succ {ms : List (List Nat × Int)} {l : List Nat} {m : List Nat × Int} {i : Nat} (h : NotYetB ms l i) (hm : ms[i]? = some m) (hn : l.take m.1.length ≠ m.1) : NotYetB ms l (i + 1) := by
  intro m' h'
  rw [List.take_add_one, hm] at h'
  rcases List.mem_append.mp h' with h' | h'
  · exact h m' h'
  · simp at h'; subst h'; exact hn
theorem opensB_some {ms : List (List Nat × Int)} {l : List Nat} {m : List Nat × Int} {i : Nat} (h : NotYetB ms l i) (hm : ms[i]? = some m) (hy : l.take m.1.length = m.1) : opensB ms l = some m := by
  unfold opensB
  rw [List.find?_eq_some_iff_getElem]
  obtain ⟨hi, rfl⟩ := List.getElem?_eq_some_iff.mp hm
  refine ⟨decide_eq_true hy, i, hi, rfl, fun j hj => ?_⟩
  have := h ms[j] (by rw [List.mem_take_iff_getElem]; exact ⟨j, by omega, rfl⟩)
  simpa using this
theorem opensB_none {ms : List (List Nat × Int)} {l : List Nat} (h : NotYetB ms l ms.length) : opensB ms l = none := by
  unfold opensB
  rw [List.find?_eq_none]
  intro m hm
  have := h m (by rw [List.take_length]; exact hm)
  simpa using this
section
variable {x mk : Tx} {wd i : Nat} {b : Int}
theorem loct_yes (h : NotYetB marks12 x.cps.toList i) (hm : marks12[i]? = some (mk.cps.toList, b)) (hy : (Txt.slice x none (some (mk.length : Int)) == mk) = true) : lawV b wd (Txt.slice x (some (mk.length : Int)) none).cps.toList = loctAt wd x.cps.toList := by
  rw [mark_eq, decide_eq_true_eq] at hy
  unfold loctAt
  rw [opensB_some h hm hy, after_mark]
theorem loct_no (h : NotYetB marks12 x.cps.toList i) (hm : marks12[i]? = some (mk.cps.toList, b)) (hy : (Txt.slice x none (some (mk.length : Int)) == mk) = false) : NotYetB marks12 x.cps.toList (i + 1) := by
  rw [mark_eq, decide_eq_false_iff_not] at hy
  exact notYetB_succ h hm hy
theorem loct_out (h : NotYetB marks12 x.cps.toList 12) : lawV 8 wd x.cps.toList = loctAt wd x.cps.toList := by
  unfold loctAt
  rw [opensB_none h]
end
theorem ws3_any (y : Tx) : ([Str.ofString " ", Str.ofString "\t", Str.ofString "\n"].any fun s => s == Txt.slice y none (some 1)) = match y.cps.toList with | [] => false | c :: _ => isWs3 c := by
  rw [sl_ns y (by decide)]
  show ((Str.ofString " " == _) || ((Str.ofString "\t" == _) || ((Str.ofString "\n" == _) || false))) = _
  have e : ∀ (a : Nat) (s : Tx) (_ : s = ⟨#[a]⟩) (l : List Nat), (s == ⟨(l.take (1 : Int).toNat).toArray⟩) = match l with | [] => false | c :: _ => decide (c = a) := by
    intro a s hs l
    subst hs
    cases l with
    | nil => rfl
    | cons c r =>
      show ((⟨#[a]⟩ : Tx) == ⟨#[c]⟩) = _
      rw [sign_eq]
      by_cases h : a = c
      · subst h; simp
      · have h' : c ≠ a := fun h2 => h h2.symm
        simp [h, h']
  rw [e 32 _ (by decide +kernel), e 9 _ (by decide +kernel), e 10 _ (by decide +kernel)]
  cases y.cps.toList with
  | nil => rfl
  | cons c r => simp [isWs3]
theorem ws3_yes {y : Tx} (h : ([Str.ofString " ", Str.ofString "\t", Str.ofString "\n"].any fun s => s == Txt.slice y none (some 1)) = true) : ∃ c r, y.cps.toList = c :: r ∧ isWs3 c = true ∧ (Txt.slice y (some 1) none).cps.toList = r := by
  rw [ws3_any] at h
  cases e : y.cps.toList with
  | nil => rw [e] at h; cases h
  | cons c r =>
    rw [e] at h
    refine ⟨c, r, rfl, h, ?_⟩
    rw [sl_sn y (by decide), e]
    rfl
theorem ws3_step {x y : Tx} (h : ([Str.ofString " ", Str.ofString "\t", Str.ofString "\n"].any fun s => s == Txt.slice y none (some 1)) = true) (e : y.cps.toList.dropWhile isWs3 = x.cps.toList.dropWhile isWs3) (hl : y.length ≤ 64) :
    (Txt.slice y (some 1) none).cps.toList.dropWhile isWs3 = x.cps.toList.dropWhile isWs3 ∧ (Txt.slice y (some 1) none).length ≤ 64 := by
  obtain ⟨c, r, e1, e2, e3⟩ := ws3_yes h
  refine ⟨?_, Nat.le_trans (Txt.slice_le _ _ _) hl⟩
  rw [e3, ← e, e1, List.dropWhile_cons_of_pos e2]
theorem ws3_less {y : Tx} (h : ([Str.ofString " ", Str.ofString "\t", Str.ofString "\n"].any fun s => s == Txt.slice y none (some 1)) = true) : (Txt.slice y (some 1) none).length < y.length := by
  obtain ⟨c, r, e1, e2, e3⟩ := ws3_yes h
  have a : (Txt.slice y (some 1) none).length = r.length := by rw [← e3]; simp [PySem.Str.length]
  have b : y.length = (c :: r).length := by rw [← e1]; simp [PySem.Str.length]
  rw [a, b, List.length_cons]; exact Nat.lt_succ_self _
theorem ws3_out {x y : Tx} (h : ([Str.ofString " ", Str.ofString "\t", Str.ofString "\n"].any fun s => s == Txt.slice y none (some 1)) = false) (e : y.cps.toList.dropWhile isWs3 = x.cps.toList.dropWhile isWs3) : y.cps.toList = x.cps.toList.dropWhile isWs3 := by
  rw [ws3_any] at h
  rw [← e]
  cases e1 : y.cps.toList with
  | nil => rfl
  | cons c r =>
    rw [e1] at h
    have h' : isWs3 c = false := h
    rw [List.dropWhile_cons_of_neg (by rw [h']; exact Bool.false_ne_true)]
end
section
section
variable {x y mk : Tx} {wd i : Nat} {b : Int}
theorem loct_yes' (hy : y.cps.toList = x.cps.toList.dropWhile isWs3) (h : NotYetB marks12 (x.cps.toList.dropWhile isWs3) i) (hm : marks12[i]? = some (mk.cps.toList, b)) (h1 : (Txt.slice y none (some (mk.length : Int)) == mk) = true) :
    lawV b wd (Txt.slice y (some (mk.length : Int)) none).cps.toList = loctV wd x.cps.toList := by
  rw [← hy] at h
  rw [loct_yes h hm h1, loctV, hy]
theorem loct_no' (hy : y.cps.toList = x.cps.toList.dropWhile isWs3) (h : NotYetB marks12 (x.cps.toList.dropWhile isWs3) i) (hm : marks12[i]? = some (mk.cps.toList, b)) (h1 : (Txt.slice y none (some (mk.length : Int)) == mk) = false) :
    NotYetB marks12 (x.cps.toList.dropWhile isWs3) (i + 1) := by
  rw [← hy] at h ⊢
  exact loct_no h hm h1
theorem loct_out' (hy : y.cps.toList = x.cps.toList.dropWhile isWs3) (h : NotYetB marks12 (x.cps.toList.dropWhile isWs3) 12) : lawV 8 wd y.cps.toList = loctV wd x.cps.toList := by
  rw [← hy] at h
  rw [loct_out h, loctV, hy]
end
theorem zero_app (mk : Tx) : (Str.ofString "0" ++ mk).cps.toList = 48 :: mk.cps.toList := by
  rw [PySem.Str.cps_append, Array.toList_append]
  have : (Str.ofString "0").cps.toList = [48] := by decide +kernel
  rw [this]; rfl
theorem inner_at {mk : Tx} {t1 t2 : Tok} {i j : Nat} {b : Int} {v : Value} (h : [Value.str mk t1, Value.str (Str.ofString "0" ++ mk) t2][j]? = some v) (h1 : marks12[2 * i]? = some (mk.cps.toList, b)) (h2 : marks12[2 * i + 1]? = some (48 :: mk.cps.toList, b)) (hl : mk.length = 1) :
    ∃ whole tk, v = .str whole tk ∧ marks12[2 * i + j]? = some (whole.cps.toList, b) ∧ whole.length ≤ 2 := by
  match j, h with
  | 0, h => cases h; exact ⟨_, _, rfl, h1, by omega⟩
  | 1, h => cases h; exact ⟨_, _, rfl, by rw [h2, zero_app], by rw [PySem.Str.length_append, hl]; decide +kernel⟩
  | n + 2, h => cases h
theorem outer_at {h : Heap} {D0 D1 D2 D3 D4 D5 : PySem.Addr} {a0 a1 a2 a3 a4 a5 b0 b1 b2 b3 b4 b5 : Tok} {i : Nat} {v : Value} (hv : [Value.ref D0, Value.ref D1, Value.ref D2, Value.ref D3, Value.ref D4, Value.ref D5][i]? = some v)
    (T0 : IsTup h D0 #[.str (Str.ofString "x") a0, .int 16 b0]) (T1 : IsTup h D1 #[.str (Str.ofString "X") a1, .int 16 b1]) (T2 : IsTup h D2 #[.str (Str.ofString "b") a2, .int 2 b2]) (T3 : IsTup h D3 #[.str (Str.ofString "B") a3, .int 2 b3])
    (T4 : IsTup h D4 #[.str (Str.ofString "o") a4, .int 8 b4]) (T5 : IsTup h D5 #[.str (Str.ofString "O") a5, .int 8 b5]) :
    ∃ D mk tk b tb, v = .ref D ∧ IsTup h D #[.str mk tk, .int b tb] ∧ marks12[2 * i]? = some (mk.cps.toList, b) ∧ marks12[2 * i + 1]? = some (48 :: mk.cps.toList, b) ∧ mk.length = 1 ∧ (2 ≤ b ∧ b ≤ 16) := by
  match i, hv with
  | 0, hv => cases hv; exact ⟨_, _, _, _, _, rfl, T0, by decide +kernel, by decide +kernel, by decide +kernel, by decide⟩
  | 1, hv => cases hv; exact ⟨_, _, _, _, _, rfl, T1, by decide +kernel, by decide +kernel, by decide +kernel, by decide⟩
  | 2, hv => cases hv; exact ⟨_, _, _, _, _, rfl, T2, by decide +kernel, by decide +kernel, by decide +kernel, by decide⟩
  | 3, hv => cases hv; exact ⟨_, _, _, _, _, rfl, T3, by decide +kernel, by decide +kernel, by decide +kernel, by decide⟩
  | 4, hv => cases hv; exact ⟨_, _, _, _, _, rfl, T4, by decide +kernel, by decide +kernel, by decide +kernel, by decide⟩
  | 5, hv => cases hv; exact ⟨_, _, _, _, _, rfl, T5, by decide +kernel, by decide +kernel, by decide +kernel, by decide⟩
  | n + 6, hv => cases hv
end
section
open PySem.Spec PySem.Calls
/-- the end of a turn over a made tuple: the names that are not stored stand, the ledger stands, the turns' word holds -/
def TupEnd (h₀ : Heap) (L : PySem.Addr) (stored : List PySem.Str) (m₀ : PySem.Str → Option Value) (P : Prop) (led : List (PySem.Addr × Obj)) (s : Shared) (s₂ : Shared) : Prop :=
  ∃ h' tk m', s₂ = { s with heap := h', toks := tk } ∧ Fr h₀ L h' m' ∧ News h₀ L h' led ∧ (∀ z, stored.contains z = false → m' z = m₀ z) ∧ P
def TupPost (h₀ : Heap) (L : PySem.Addr) (stored : List PySem.Str) (m₀ : PySem.Str → Option Value) (P : Prop) (led : List (PySem.Addr × Obj)) (s : Shared) (Q : Flow → Shared → Prop) (f : Flow) (s₂ : Shared) : Prop :=
  match f with
  | .ret v => Q (.ret v) s₂
  | .brk => Q .next s₂
  | _ => TupEnd h₀ L stored m₀ P led s s₂
theorem TupEnd.intro {h₀ : Heap} {L : PySem.Addr} {stored : List PySem.Str} {m₀ m' : PySem.Str → Option Value} {P : Prop} {led all : List (PySem.Addr × Obj)} {s : Shared} {h' : Heap} {tk : Nat}
    (F : Fr h₀ L h' m') (N : News h₀ L h' all) (hs : ∀ p ∈ led, p ∈ all) (hr : ∀ z, stored.contains z = false → m' z = m₀ z) (hp : P) : TupEnd h₀ L stored m₀ P led s { s with heap := h', toks := tk } :=
  ⟨h', tk, m', rfl, F, fun p hp => N p (hs p hp), hr, hp⟩
theorem fr_stored {h₀ h : Heap} {L : PySem.Addr} {stored : List PySem.Str} {m m₀ : PySem.Str → Option Value} (F : Fr h₀ L h m) (hr : ∀ z, stored.contains z = false → m z = m₀ z) :
    Fr h₀ L h (fun z => if stored.contains z then m z else m₀ z) := by
  have e : (fun z => if stored.contains z then m z else m₀ z) = m := by
    funext z
    cases hz : stored.contains z with
    | true => simp
    | false => simp [hr z hz]
  rw [e]; exact F
section
variable {prog : Program} {w : World} {A : Around} {E : Value → Shared → Prop} {s : Shared} {env : Env} {h₀ : Heap} {target : Expr} {body : List Stmt} {Q : Flow → Shared → Prop}
theorem tup_turns {ax : PySem.Addr} {lo : Obj} {vs : List Value} {n : Nat} {m₀ : PySem.Str → Option Value} {news : List (PySem.Addr × Obj)} (stored : List PySem.Str) (P : Nat → Prop)
    (hh : A.handled = none) (F : Fr h₀ env.locals s.heap m₀) (N : News h₀ env.locals s.heap news) (hm : (ax, lo) ∈ news) (hc : lo.cls = .type "tuple") (hd : lo.data = .seq vs.toArray n) (hp : P 0)
    (turn : ∀ i v (u : PySem.Str → Option Value) I o h tk, vs[i]? = some v → P i → (∀ p ∈ news, p.1 < I) → Fr h₀ env.locals h (fun z => if stored.contains z then u z else m₀ z) → News h₀ env.locals h ((I, o) :: news) →
      wpAny (model prog w) A (assign target env v) (fun _ s₂ => wpAny (model prog w) A (execs body env) (TupPost h₀ env.locals stored m₀ (P (i + 1)) ((I, o) :: news) { s with heap := h, toks := tk } Q) E s₂) E { s with heap := h, toks := tk })
    (done : ∀ (u : PySem.Str → Option Value) h tk, P vs.length → Fr h₀ env.locals h (fun z => if stored.contains z then u z else m₀ z) → News h₀ env.locals h news → Q .next { s with heap := h, toks := tk }) :
    wpAny (model prog w) A (pyIter (.ref ax)) (fun it s₂ => TurnsAt prog w A h₀ env target body Q E it s₂) E s := by
  refine iter_tupTurns hh F N hm hc hd fun I hI => ?_
  have key : ∀ (r : List Value) (i : Nat) (m : PySem.Str → Option Value), vs.drop i = r → i ≤ vs.length → P i → (∀ z, stored.contains z = false → m z = m₀ z) →
      ItemsRest prog w A E h₀ env target body Q s [(I, "tuple_iterator")] [(ax, lo)] (r.map .val) m news := by
    intro r
    induction r with
    | nil =>
      intro i m hi hle hP hr
      have : i = vs.length := Nat.le_antisymm hle (List.drop_eq_nil_iff.mp hi)
      subst this
      exact ItemsRest.zero fun h tk F' N' => done m h tk hP (fr_stored F' hr) N'
    | cons v r ih =>
      intro i m hi hle hP hr
      have hv : vs[i]? = some v := by
        have := congrArg (·[0]?) hi
        simpa [List.getElem?_drop] using this
      have hlt : i < vs.length := (List.getElem?_eq_some_iff.mp hv).1
      refine ItemsRest.val fun h tk F' => ?_
      refine AllObj.cons fun o _ => AllObj.nil fun N' => ?_
      refine wpAny_mono (turn i v m I o h tk hv hP hI (fr_stored F' hr) N') (fun _ s₂ p => wpAny_mono p (fun f s₃ q => ?_) fun _ _ e => e) fun _ _ e => e
      cases f with
      | ret v => exact q
      | brk => exact q
      | next =>
        obtain ⟨h', tk', m', rfl, F₂, N₂, hr₂, hP₂⟩ := q
        exact ⟨h', tk', m', news, rfl, F₂, N₂, fun p hp q hq => by rw [List.mem_singleton.mp hq]; exact Nat.ne_of_lt (hI p hp), ⟨⟨hm, trivial⟩, ih (i + 1) m' (by rw [← List.drop_drop, hi]; rfl) hlt hP₂ hr₂⟩⟩
      | cont =>
        obtain ⟨h', tk', m', rfl, F₂, N₂, hr₂, hP₂⟩ := q
        exact ⟨h', tk', m', news, rfl, F₂, N₂, fun p hp q hq => by rw [List.mem_singleton.mp hq]; exact Nat.ne_of_lt (hI p hp), ⟨⟨hm, trivial⟩, ih (i + 1) m' (by rw [← List.drop_drop, hi]; rfl) hlt hP₂ hr₂⟩⟩
  exact key vs 0 m₀ rfl (Nat.zero_le _) hp fun _ _ => rfl
end
end
section
set_option maxHeartbeats 8000000 in
theorem lhex_ok (w : World) (mean : ExcName → Option Value) (mg mb : SV → Option Value) (x : Str) (t : Tok) (wd : Int) (tw : Tok) (hx : x.length ≤ 64) (hw : 4 ≤ wd ∧ wd ≤ 64) : FnOk w mean mg mb 181 3 [.str x t, .int wd tw] (fun t => .int (lhexV wd.toNat x.cps.toList) t) := by
  k_with_none
  w_top off
  k_with "call ref" => (k_here; (with_reducible show wpAny _ _ (call (Value.ref 174) [Value.str _ _, Value.int _ _, Value.int _ _]) _ _ _); k_dflt (refine' fn_use (number_ok _ _ _ _ _ _ _ _ _ _ (by first | assumption | exact rfl | omega | exact Nat.le_trans (Txt.slice_le _ _ _) (by omega)) (by first | decide | assumption) (by first | assumption | exact rfl | omega)) (by k_asm) (by k_asm) (by k_asm) (by k_asm) (by k_asm) (by first | exact rfl | assumption) (by ktr_room) (by ktr_units) ?_; k_whole; intro t9 h9 tk9 F9 N9; (try k_sweep); (try dsimp only); (try k_fold)))
  k_with "pyIter ref" => (k_here; k_dflt (k_extra "turns"))
  k_with "TupPost" => (dsimp only [TupPost])
  k_with "TupEnd" => k_dflt (k_extra "turn end")
  dsimp only [FnOk, CbRet]
  k_fill
  intros
  rename_i hret
  refine wpAny_call ?_
  k_dflt cell_enter
  k_with "turns" => ((rename Fr _ _ _ _ => lF); (rename News _ _ _ ((_, _) :: _) => lN); refine tup_turns [Str.ofString "mark"] (fun i => NotYet marks4 x.cps.toList i) (by rfl) lF lN (List.Mem.head _) rfl rfl (notYet_zero _ _) (fun i v u I o h tk hv hP hI F' N' => ?_) (fun u h tk hP F' N' => ?_); all_goals (try (obtain ⟨mk, tk', hv', hmk, hml⟩ := marks_at hv; subst hv'; clear hv)); all_goals (try k_fold))
  k_with "turn end" => (refine TupEnd.intro (by assumption) (by assumption) (fun p hp => hp) ?_ (lhex_no hP hmk (by assumption)); (intro z hz; (simp only [List.contains_cons, List.contains_nil, Bool.or_false, beq_eq_false_iff_ne, ne_eq] at hz); simp [hz]))
  k_steps
  · exact ret_int hret (by assumption) (cb_drop (by assumption) fun p hp => List.mem_cons_of_mem _ (List.mem_cons_of_mem _ hp)) (lhex_yes hP hmk (by assumption))
  · exact ret_int hret (by assumption) (cb_drop (by assumption) fun p hp => List.mem_cons_of_mem _ hp) (lhex_out hP)
end
section
set_option maxHeartbeats 8000000 in
theorem loct_ok (w : World) (mean : ExcName → Option Value) (mg mb : SV → Option Value) (x : Str) (t : Tok) (wd : Int) (tw : Tok) (hx : x.length ≤ 64) (hw : 4 ≤ wd ∧ wd ≤ 64) : FnOk w mean mg mb 188 3 [.str x t, .int wd tw] (fun t => .int (loctV wd.toNat x.cps.toList) t) := by
  k_with_none
  w_top off
  k_with "call ref" => (k_here; (with_reducible show wpAny _ _ (call (Value.ref 174) [Value.str _ _, Value.int _ _, Value.int _ _]) _ _ _); k_dflt (refine' fn_use (number_ok _ _ _ _ _ _ _ _ _ _ (by first | assumption | exact rfl | omega | exact Nat.le_trans (Txt.slice_le _ _ _) (by omega)) (by first | decide | assumption) (by first | assumption | exact rfl | omega)) (by k_asm) (by k_asm) (by k_asm) (by k_asm) (by k_asm) (by first | exact rfl | assumption) (by ktr_room) (by ktr_units) ?_; k_whole; intro t9 h9 tk9 F9 N9; (try k_sweep); (try dsimp only); (try k_fold)))
  k_with "pyIter ref" => (k_here; k_dflt (k_extra "turns"))
  k_with "exec For Tuple Tuple cons nil" => (k_here; (with_reducible refine' For_turns ?F ?_ ?hs ?hE); (case F => k_dflt k_asm); (case hs => k_dflt (intro _; rfl)); (case hE => k_dflt passes_own))
  k_with "TupPost" => (dsimp only [TupPost])
  k_with "TupEnd" => k_dflt (k_extra "turn end")
  dsimp only [FnOk, CbRet]
  k_fill
  intros
  rename_i hret
  refine wpAny_call ?_
  k_dflt cell_enter
  k_with "measure" => exact ws3_less (by assumption)
  k_with "state" => first | exact ⟨rfl, hx⟩ | exact ws3_step (by assumption) (by assumption) (by assumption)
  k_with "exec While Compare cons nil" => k_while (fun _ y => y.cps.toList.dropWhile isWs3 = x.cps.toList.dropWhile isWs3 ∧ y.length ≤ 64) (fun _ y => y.length) "text"
  k_with "turn end" => (refine TupEnd.intro (by assumption) (by assumption) (fun p hp => List.mem_cons_of_mem _ hp) ?_ (by assumption); (intro z hz; (simp only [List.contains_cons, List.contains_nil, Bool.or_false, Bool.or_eq_false_iff, beq_eq_false_iff_ne, ne_eq] at hz); simp [hz]))
  k_with "turn end" => (refine TupEnd.intro (by assumption) (by assumption) (fun p hp => hp) ?_ (loct_no' hy (by assumption) (by assumption) (by assumption)); (intro z hz; (simp only [List.contains_cons, List.contains_nil, Bool.or_false, Bool.or_eq_false_iff, beq_eq_false_iff_ne, ne_eq] at hz); simp [hz]))
  k_with "turns" => ((rename Fr _ _ _ _ => lF); (rename News _ _ _ ((_, _) :: _) => lN); (refine tup_turns (vs := [_, _]) [Str.ofString "whole"] (fun j => NotYetB marks12 (x.cps.toList.dropWhile isWs3) (2 * i + j)) (by rfl) lF lN (List.Mem.head _) rfl rfl hP (fun j v u' I' o' h' tk' hv hP' hI' F' N' => ?_) (fun u' h' tk' hP' F' N' => ?_)); all_goals (try (obtain ⟨whole, tk', hv', hm, hml⟩ := inner_at hv hm1 hm2 hl1; subst hv'; clear hv)); all_goals (try k_fold))
  k_with "turns" => ((have hy := ws3_out (by assumption) (by assumption)); (rename Fr _ _ _ _ => lF); (rename News _ _ _ ((_, _) :: _) => lN); (refine tup_turns (vs := [_, _, _, _, _, _]) [Str.ofString "mark", Str.ofString "base", Str.ofString "whole"] (fun i => NotYetB marks12 (x.cps.toList.dropWhile isWs3) (2 * i)) (by rfl) lF lN (List.Mem.head _) rfl rfl (notYetB_zero _ _) (fun i v u I o h tk hv hP hI F' N' => ?_) (fun u h tk hP F' N' => ?_)); all_goals (try (obtain ⟨D, mk, tk', b, tb, hv', hT, hm1, hm2, hl1, hb⟩ := outer_at hv (News.isTup N' (by k_mem)) (News.isTup N' (by k_mem)) (News.isTup N' (by k_mem)) (News.isTup N' (by k_mem)) (News.isTup N' (by k_mem)) (News.isTup N' (by k_mem)); subst hv'; clear hv)); all_goals (try k_fold))
  k_steps
  all_goals (try dsimp only)
  · exact ret_int hret (by assumption) (cb_drop (by assumption) fun p hp => by repeat (first | exact hp | apply List.mem_cons_of_mem)) (loct_yes' hy hP' hm (by assumption))
  · exact ret_int hret (by assumption) (cb_drop (by assumption) fun p hp => by repeat (first | exact hp | apply List.mem_cons_of_mem)) (loct_out' hy hP)
end
section
open PySem.Spec PySem.Calls
section
variable {prog : Program} {w : World} {A : Around} {E : Value → Shared → Prop} {h : Heap} {g : Array GenState} {d : Drawn} {t : Nat} {os : OsState}
variable {nm q : PySem.Str} {C N : PySem.Addr} {bs bm : List Value} {hdct : Bool} {sn : List PySem.Str} {sub : List Value} {ab : Bool} {col : Option Bool} {dd : Option PySem.Addr} {k0 k1 k2 k3 k5 : Option Value} {Bn newId inN : String} {bmN : List Value}
/-- what a class made on an exception class of the text asks of its row of bases -/
structure XRow (Bn : String) (bm : List Value) : Prop where
  b : bm.contains (.type Bn) = true
  a : bm.contains (.type "AttributeError") = false
  n : bm.contains (.type "NameError") = false
theorem xc_check {M : Model} (Fn : ExcBaseFacts Bn newId inN bmN) (H : XRow Bn bm) {rest : List Value} {Q : Unit → Shared → Prop} (hC : h.get? C = some (excClassObj nm q C N bs bm hdct sn sub ab col dd k0 k1 k2 k3 k5 newId))
    (hq : Q () ⟨h, g, d, t, os⟩) : wpAny M A (checkBuiltinCall newId ⟨.ref C :: rest, []⟩) Q E ⟨h, g, d, t, os⟩ := by
  have hcont : (Value.ref C :: bm).contains (.type Bn) = true := by rw [List.contains_cons, H.b, Bool.or_true]
  have hstar := Fn.noStar
  simp only [checkBuiltinCall, Fn.newKind, Fn.newSplit, Fn.newRow]
  repeat (first | refine wpAny_loadPart_at hC ?_ | (refine wpAny_isSubtype_exc hC ?_; rw [hcont]) | refine wpAny_staticBase_exc hC ?_ | refine wpAny_madeBy_exc hC ?_ | simp only [bne_self_eq_false, Bool.false_eq_true, if_false] | wp_step)
  exact hq
theorem xc_new {R : Result → Shared → Prop} (Fn : ExcBaseFacts Bn newId inN bmN) (H : XRow Bn bm) {rest : List Value} (hC : h.get? C = some (excClassObj nm q C N bs bm hdct sn sub ab col dd k0 k1 k2 k3 k5 newId))
    (hq : R (.ok (.ret (.ref (h.objs.size + 1)))) ⟨(h.push { cls := .type "tuple", data := .seq rest.toArray }).push
      { cls := .ref C, data := .fields #[.ref h.objs.size, .none, .none, .none, .bool false, .none] }, g, d, t, os⟩) (hrest : rest.length ≤ sizeLine) :
    codeAny (model prog w) A (.builtin newId ⟨.ref C :: rest, []⟩) R ⟨h, g, d, t, os⟩ := by
  have hends := Fn.ends
  have hcB : (Value.ref C :: bm).contains (.type Bn) = true := by rw [List.contains_cons, H.b, Bool.or_true]
  have hcA : (Value.ref C :: bm).contains (.type "AttributeError") = false := by rw [List.contains_cons, H.a]; rfl
  have hcN : (Value.ref C :: bm).contains (.type "NameError") = false := by rw [List.contains_cons, H.n]; rfl
  refine codeAny_builtinAt Fn.entry ?_
  unfold Builtin.«BaseException.__new__»
  refine PySem.wpAt_bind ?_
  show PySem.wpAt _ _ _ (stack >>= _) _ _ _
  refine PySem.wpAt_bind (PySem.wpAt_stack fun p below => PySem.wpAt_of_wpAny ?_)
  wp_walk
  refine PySem.wpAt_of_wpAny ?_
  rw [Fn.owner]
  repeat (first | with_reducible refine wpAny_madeHere_exc Fn.canon hC ?_ | with_reducible refine wpAny_loadPart_at hC ?_ | (with_reducible refine wpAny_isSubtype_exc hC ?_; first | rw [hcB] | rw [hcA] | rw [hcN]) | wp_step)
  show R _ _
  rw [Heap.size_push]
  exact hq
theorem xc_type_call (Fn : ExcBaseFacts Bn newId inN bmN) (H : XRow Bn bm) {rest : List Value} {fI : PySem.Addr} {oI : Obj} {Q : Fin → Shared → Prop}
    (hC : h.get? C = some (excClassObj nm q C N bs bm hdct sn sub ab col dd k0 k1 k2 k3 k5 newId)) (hi : ∀ h' : Heap, (∀ b o, h.get? b = some o → h'.get? b = some o) → Looks (model prog w) h' (typeLookup (.ref C) "__init__") (some (.ref fI)))
    (hfI : h.get? fI = some oI) (hfc : oI.cls = .type "function")
    (hq : ∀ h' e, Heap.MadeExcOf h h' e (.ref C) rest →
      wpAny (model prog w) A (call (.ref fI) (.ref e :: rest)) (fun r s' => r = .none ∧ Q (.done (.ret (.ref e))) s') E ⟨h', g, d, t, os⟩) (hrest : rest.length ≤ sizeLine) :
    wpAny (model prog w) A (Builtin.«type.__call__» ⟨.ref C :: rest, []⟩) Q E ⟨h, g, d, t, os⟩ := by
  repeat (first | with_reducible refine wpAny_loadPart_at hC ?_ | with_reducible refine wpAny_madeBy_exc hC ?_ | wp_step)
  refine codeAny_call_builtin_code (Code.quiet_builtin _ Fn.quiet) (xc_check Fn H hC ?_)
  refine xc_new Fn H hC ?_ hrest
  show wpAny _ _ _ _ _ _
  have k : ∀ b o, h.get? b = some o → ((h.push { cls := .type "tuple", data := .seq rest.toArray }).push { cls := .ref C, data := .fields #[.ref h.objs.size, .none, .none, .none, .bool false, .none] }).get? b = some o :=
    fun b o e => Heap.get?_push_of_some _ (Heap.get?_push_of_some _ e)
  have hC₁ := k _ _ hC
  have hget : ((h.push { cls := .type "tuple", data := .seq rest.toArray }).push
      { cls := .ref C, data := .fields #[.ref h.objs.size, .none, .none, .none, .bool false, .none] }).get? (h.objs.size + 1) = some
      { cls := .ref C, data := .fields #[.ref h.objs.size, .none, .none, .none, .bool false, .none] } := by heap_get
  have hcC : (Value.ref C :: bm).contains (.ref C) = true := by simp
  unfold isInstance
  repeat (first | with_reducible refine wpAny_loadPart_at hget ?_ | (with_reducible refine wpAny_isSubtype_exc hC₁ ?_; rw [hcC]) | wp_step)
  show wpAny _ _ (typeLookup (.ref C) _) _ _ _
  refine (hi _ k).at ?_
  refine wpAny_holding (wpAny_bind ?_)
  unfold bindSpecial
  refine wpAny_bind (wpAny_typeOf (T := "function") ⟨_, k _ _ hfI, hfc⟩ ?_)
  rw [if_pos (by decide)]
  refine wpAny_pure (wpAny_bind (wpAny_mono (hq _ (h.objs.size + 1) ⟨fun b o hb => k b o hb, Heap.get?_none_of_le (Nat.le_succ _), h.objs.size, hget, Heap.get?_none_of_le (Nat.le_refl _), ?_⟩) (fun r s' hr => ?_) fun _ _ x => x))
  · exact Heap.get?_push_of_some _ (Heap.get?_push_at rfl rfl)
  · obtain ⟨rfl, hQ⟩ := hr
    wp_walk
    exact hQ
theorem xc_call (Fn : ExcBaseFacts Bn newId inN bmN) (H : XRow Bn bm) {rest : List Value} {fI : PySem.Addr} {oI : Obj} {Q : Value → Shared → Prop}
    (hC : h.get? C = some (excClassObj nm q C N bs bm hdct sn sub ab col dd k0 k1 k2 k3 k5 newId)) (hi : ∀ h' : Heap, (∀ b o, h.get? b = some o → h'.get? b = some o) → Looks (model prog w) h' (typeLookup (.ref C) "__init__") (some (.ref fI)))
    (hfI : h.get? fI = some oI) (hfc : oI.cls = .type "function")
    (hq : ∀ h' e, Heap.MadeExcOf h h' e (.ref C) rest →
      wpAny (model prog w) (A.under (.builtin "type.__call__" ⟨.ref C :: rest, []⟩)) (call (.ref fI) (.ref e :: rest)) (fun r s' => r = .none ∧ Q (.ref e) s') E ⟨h', g, d, t, os⟩) (hrest : rest.length ≤ sizeLine) :
    wpAny (model prog w) A (call (.ref C) rest) Q E ⟨h, g, d, t, os⟩ := by
  have f1 := tc_lookup
  have f2 := tc_bind (.ref C)
  have hT : (⟨h, g, d, t, os⟩ : Shared).TypeIs (.ref C) "type" := ⟨_, hC, rfl⟩
  refine wpAny_call (codeAny_of_tree ?_)
  show wpAny _ _ (callAny (.ref C) _) _ _ _
  repeat (any_goals (first | assumption | with_reducible refine wpAny_loadPart_at hC ?_ | wp_step))
  refine ⟨rfl, ?_⟩
  exact codeAny_call_builtin_at (Code.quiet_builtin _ (by decide +kernel)) entry_typeCall (wpAny_check_type_call_sub hC (xc_type_call Fn H hC hi hfI hfc hq hrest))
/-- the class's own check and what it keeps behind a call of the base's __init__ -/
theorem xc_check_init {M : Model} {B nid initId : String} {bmB : List Value} (F : ExcBaseFacts B nid initId bmB) (H : XRow B bm) {e : PySem.Addr} {oe : Obj} {rest : List Value} {Q : Unit → Shared → Prop}
    (hC : h.get? C = some (excClassObj nm q C N bs bm hdct sn sub ab col dd k0 k1 k2 k3 k5 newId)) (he : h.get? e = some oe) (hcls : oe.cls = .ref C) (hq : Q () ⟨h, g, d, t, os⟩) :
    wpAny M A (checkBuiltinCall initId ⟨.ref e :: rest, []⟩) Q E ⟨h, g, d, t, os⟩ := by
  have hcB : (Value.ref C :: bm).contains (.type B) = true := by rw [List.contains_cons, H.b, Bool.or_true]
  have hshort := F.noStar
  simp only [checkBuiltinCall, F.initKind, F.initSplit, F.initRow]
  repeat (first | (with_reducible refine wpAny_loadPart_at he ?_; rw [hcls]) | with_reducible refine wpAny_loadPart_at hC ?_ | (with_reducible refine wpAny_isSubtype_exc hC ?_; rw [hcB]) | wp_step)
  refine wpAny_onRaise ?_
  rw [show ∀ (a b : String) (n : Nat), Bind.check ⟨.positional, "*", B, .self, [⟨"args", .varPos, false⟩]⟩ a b n (List.map (fun x => x.fst) ({ pos := Value.ref e :: rest } : Args).kw) = pure () from
    fun a b n => check_star_args _ _ _ _ _ _]
  exact wpAny_pure hq
theorem xc_init {B nid initId : String} {bmB : List Value} (F : ExcBaseFacts B nid initId bmB) (H : XRow B bm) {e t0 : PySem.Addr} {dc : Option PySem.Addr} {sl : Array (Option Value)} {rest : List Value} {Q : Value → Shared → Prop}
    (hC : h.get? C = some (excClassObj nm q C N bs bm hdct sn sub ab col dd k0 k1 k2 k3 k5 newId)) (he : h.get? e = some { cls := .ref C, dict := dc, data := .fields #[.ref t0, .none, .none, .none, .bool false, .none], slots := sl })
    (hq : ∀ h' t1, (∀ b o, b ≠ e → h.get? b = some o → h'.get? b = some o) → h.objs.size ≤ t1 → h'.get? t1 = some { cls := .type "tuple", data := .seq rest.toArray } →
      h'.get? e = some { cls := .ref C, dict := dc, data := .fields #[.ref t1, .none, .none, .none, .bool false, .none], slots := sl } → Q .none ⟨h', g, d, t, os⟩) (hrest : rest.length ≤ sizeLine) :
    wpAny (model prog w) A (call (.builtin initId) (.ref e :: rest)) Q E ⟨h, g, d, t, os⟩ := by
  refine wpAny_call (codeAny_call_builtin F.init.plain F.initEntry (xc_check_init F H hC he rfl ?_))
  wp_walk
  refine hq _ h.objs.size (fun b o hn hb => ?_) (Nat.le_refl _) ?_ ?_
  · rw [Heap.get?_update_other _ _ (Ne.symm hn)]
    exact Heap.get?_push_of_some _ hb
  · rw [Heap.get?_update_other _ _ (Nat.ne_of_lt (Heap.lt_size he))]
    exact Heap.get?_push_at rfl rfl
  · rw [Heap.get?_update_self _ (Heap.get?_push_of_some _ he) rfl]
    rfl
theorem xs_check {M : Model} {x : PySem.Addr} {o : Obj} {nameV v : Value} {Q : Unit → Shared → Prop} (hC : h.get? C = some (excClassObj nm q C N bs bm true sn sub ab col dd k0 k1 k2 k3 k5 newId)) (hob : bm.contains (.type "object") = true)
    (hx : h.get? x = some o) (hc : o.cls = .ref C) (hq : Q () ⟨h, g, d, t, os⟩) : wpAny M A (checkBuiltinCall "object.__setattr__" ⟨[.ref x, nameV, v], []⟩) Q E ⟨h, g, d, t, os⟩ := by
  have SF := PySem.F.store_object
  have hcB : (Value.ref C :: bm).contains (.type "object") = true := by rw [List.contains_cons, hob, Bool.or_true]
  have ha := SF.args (.ref x) nameV v
  simp only [checkBuiltinCall, SF.kind, SF.split]
  refine wpAny_bind ?_
  unfold isInstance
  repeat (first | (with_reducible refine wpAny_loadPart_at hx ?_; rw [hc]) | (with_reducible refine wpAny_isSubtype_exc hC ?_; rw [hcB]) | wp_step)
  exact hq
theorem xs_set {x : PySem.Addr} {mA : PySem.Str → Option Value} {name : PySem.Str} {v : Value} {Q : Unit → Shared → Prop} {ns : List PySem.Str}
    (hC : h.get? C = some (excClassObj nm q C N bs bm true sn sub ab col dd k0 k1 k2 k3 k5 newId)) (hpass : ∀ self, refuseLoop self "__setattr__" bm = pure ()) (hob : bm.contains (.type "object") = true)
    (hsa : Looks (model prog w) h (typeLookup (.ref C) "__setattr__") (some (.builtin "object.__setattr__"))) (hl : Looks (model prog w) h (typeLookup (.ref C) name) none) (I : h.Inst x C mA)
    (hq : ∀ h' tk', h'.Inst x C (fun y => if y = name then some v else mA y) →
      (∀ b o, b ≠ x → (∀ o₀ dx, h.get? x = some o₀ → o₀.dict = some dx → b ≠ dx) → h.get? b = some o → h'.get? b = some o) →
      (∀ o₀, h.get? x = some o₀ → ∃ o₁, h'.get? x = some o₁ ∧ o₁.cls = o₀.cls ∧ o₁.data = o₀.data ∧ o₁.slots = o₀.slots ∧ (∀ dx, o₀.dict = some dx → o₁.dict = some dx) ∧ (o₀.dict = none → o₁.dict = some h.objs.size)) → Q () ⟨h', g, d, tk', os⟩) (hw : Within mA ns) (hsz : ns.length + 1 ≤ sizeLine) :
    wpAny (model prog w) A (setAttr (.ref x) name v) Q E ⟨h, g, d, t, os⟩ := by
  obtain ⟨o, hx, hc, hnc, hd⟩ := I
  have SF := PySem.F.store_object
  have f3 := SF.slot.bind (.ref x)
  have hcB : (Value.ref C :: bm).contains (.type "object") = true := by rw [List.contains_cons, hob, Bool.or_true]
  unfold setAttr callSpecial? specialOf
  repeat (any_goals (first | assumption | (with_reducible refine wpAny_loadPart_at hx ?_; rw [hc]) | with_reducible refine hsa.at ?_ | wp_step))
  refine codeAny_mono (R := fun r s' => match r with | .ok (.ret _) => Q () s' | .ok _ => False | .error e => E e s') ?_ fun r s' z => ?_
  · refine codeAny_call_builtin SF.slot.plain SF.entry (xs_check hC hob hx hc ?_)
    show wpAny _ _ (Builtin.«object.__setattr__» ⟨[.ref x, .str name t, v], []⟩) _ _ _
    rw [osa_eq, refuse_eq]
    repeat (first | (rw [refuseLoop_ref, hpass]) | (with_reducible refine wpAny_loadPart_at hx ?_; rw [hc]) | with_reducible refine wpAny_mroOf_exc hC ?_ | with_reducible refine hl.at ?_ | wp_step)
    rcases hd with ⟨hdn, hmA⟩ | ⟨dx, hdx, hne, hns⟩
    · rw [hdn, if_neg (by simp [typeHasDict])]
      have hx₁ : (h.push { cls := .type "dict", data := .dict #[] }).get? x = some o := Heap.get?_push_of_some _ hx
      have hxs : x ≠ h.objs.size := Nat.ne_of_lt (Heap.lt_size hx)
      split
      · rename_i hcd
        cases hcd
      split
      · rename_i c hcd
        exact absurd hcd (hnc c)
      · refine wpAny_bind (wpAny_alloc' ?_)
        refine wpAny_bind (wpAny_update' hx₁ ?_)
        refine wpAny_pure ?_
        have hgd : ((h.push { cls := .type "dict", data := .dict #[] }).update x fun o => { cls := o.cls, dict := some h.objs.size, data := o.data, slots := o.slots }).get? h.objs.size = some { cls := .type "dict", data := .dict #[] } :=
          (Heap.get?_update_ne _ _ _ _ hxs.symm).trans (Heap.get?_push_at rfl rfl)
        have hnd : ((h.push { cls := .type "dict", data := .dict #[] }).update x fun o => { cls := o.cls, dict := some h.objs.size, data := o.data, slots := o.slots }).Ns h.objs.size (fun _ => none) :=
          ⟨_, #[], _, hgd, rfl, fun e he => absurd he (by simp), fun _ => rfl⟩
        show wpAny _ _ (Builtin.ObjectAttr.storeInDict h.objs.size (.str name t) name v) _ _ _
        unfold Builtin.ObjectAttr.storeInDict Builtin.ObjectAttr.newKeyGuard
        refine wpAny_bind (wpAny_pure (wpAny_bind (wpAny_nsSet1 (Heap.Ns1.of_empty hnd) fun h' hn' hs => ?_)))
        obtain ⟨oD, esD, epD, hoD, hdD, hcD⟩ := hn'.count (Within.cons name v Within.nil)
        refine wpAny_bind (wpAny_lookBehind hoD (by rw [hdD]; exact pastItsLine_dict (Nat.le_trans hcD (by rw [List.length_cons, List.length_nil, sizeLine_eq]; omega))) ?_)
        wp_walk
        have hx' : h'.get? x = some { cls := o.cls, dict := some h.objs.size, data := o.data, slots := o.slots } := by
          refine (hs.2 x hxs).trans (Heap.get?_update_self _ hx₁ ?_)
          have hfr := (Heap.get?_some_iff.mp hx).2
          obtain ⟨oc, od, odt, osl⟩ := o
          cases odt <;> first | rfl | exact hfr
        refine hq h' _ ⟨_, hx', hc, hnc, .inr ⟨h.objs.size, rfl, hxs.symm, ?_⟩⟩ (fun b ob hbx _ hb => ?_) (fun o₀ h₀ => ?_)
        · obtain ⟨o', es, ep, e1, e2, e3, eu, e4⟩ := hn'
          exact ⟨o', es, ep, e1, e2, e3, eu, fun y => by rw [e4 y]; by_cases hy : y = name <;> simp [hy, hmA]⟩
        · exact (hs.2 b (Nat.ne_of_lt (Heap.lt_size hb))).trans ((Heap.get?_update_ne _ _ _ _ hbx).trans (Heap.get?_push_of_some _ hb))
        · obtain rfl : o = o₀ := Option.some.inj (hx.symm.trans h₀)
          exact ⟨_, hx', rfl, rfl, rfl, (fun dx e => by rw [hdn] at e; cases e), fun _ => rfl⟩
    · rw [hdx]
      refine wpAny_pure ?_
      show wpAny _ _ (Builtin.ObjectAttr.storeInDict dx (.str name t) name v) _ _ _
      unfold Builtin.ObjectAttr.storeInDict Builtin.ObjectAttr.newKeyGuard
      refine wpAny_bind (wpAny_pure (wpAny_bind (wpAny_nsSet1 hns fun h' hn' hs => ?_)))
      obtain ⟨oD, esD, epD, hoD, hdD, hcD⟩ := hn'.count (Within.cons name v hw)
      refine wpAny_bind (wpAny_lookBehind hoD (by rw [hdD]; exact pastItsLine_dict (Nat.le_trans hcD (by rw [List.length_cons]; exact Nat.le_succ_of_le hsz))) ?_)
      wp_walk
      refine hq h' _ ⟨o, (hs.2 x hne.symm).trans hx, hc, hnc, .inr ⟨dx, hdx, hne, hn'⟩⟩ (fun b ob _ hbd hb => ?_) (fun o₀ h₀ => ⟨o₀, (hs.2 x hne.symm).trans h₀, rfl, rfl, rfl, (fun _ e => e), fun e => by rw [hx] at h₀; cases h₀; rw [hdx] at e; cases e⟩)
      exact (hs.2 b (hbd o dx hx hdx)).trans hb
  · rcases r with e | (v | _ | _ | _) <;> first | exact z | (repeat (any_goals (first | assumption | wp_step)))
end
end
section
abbrev tupO (vs : Array Value) : Obj := { cls := .type "tuple", data := .seq vs }
abbrev excO (t : Ad) (dd : Option Ad) : Obj := { cls := .ref 51, dict := dd, data := .fields #[.ref t, .none, .none, .none, .bool false, .none] }
abbrev dieRow : List Value := [.ref 31, .type "Exception", .type "BaseException", .type "object"]
theorem die_init_is (w : World) (h : Heap) : (hd.heap_39 w.params).In h → Looks (model PySem.Challenge.rw_nz0178_01.row.prog w) h (typeLookup (.ref 51) "__init__") (some (.ref 48)) := by
  k_fill
  exact fun X => looks_findIn X (by k_is)
theorem die_obj (w : World) (h : Heap) (X : (hd.heap_39 w.params).In h) : ∃ nm q bs sn sub ab col dd k0 k1 k2 k3 k5, h.get? 51 = some (excClassObj nm q 51 50 bs dieRow true sn sub ab col dd k0 k1 k2 k3 k5 "Exception.__new__") := by
  exact ⟨_, _, _, _, _, _, _, _, _, _, _, _, _, X 51 _ (by k_is)⟩
theorem die_row : XRow "Exception" dieRow := ⟨by decide +kernel, by decide +kernel, by decide +kernel⟩
theorem die_passes (self : Value) : refuseLoop self "__setattr__" dieRow = pure () := by
  rw [refuseLoop_ref]; exact PySem.F.store_Exception.passes self
theorem die_store_is (w : World) (h : Heap) (X : (hd.heap_39 w.params).In h) : Looks (model PySem.Challenge.rw_nz0178_01.row.prog w) h (typeLookup (.ref 51) "__setattr__") (some (.builtin "object.__setattr__")) := by
  exact looks_findIn X (by k_is)
theorem die_no_text (w : World) (h : Heap) (X : (hd.heap_39 w.params).In h) : Looks (model PySem.Challenge.rw_nz0178_01.row.prog w) h (typeLookup (.ref 51) "text") none := by
  exact looks_findIn X (by k_is)
theorem die_no_value (w : World) (h : Heap) (X : (hd.heap_39 w.params).In h) : Looks (model PySem.Challenge.rw_nz0178_01.row.prog w) h (typeLookup (.ref 51) "value") none := by
  exact looks_findIn X (by k_is)
theorem die_fn (w : World) (h : Heap) (X : (hd.heap_39 w.params).In h) : ∃ o, h.get? 48 = some o ∧ o.cls = .type "function" := by
  exact ⟨_, X 48 _ (by k_is), rfl⟩
section
variable {w : World} {A : Around} {E : Value → Shared → Prop} {s : Shared} {h₀ : Heap} {L e t0 : Ad} {dc : Option Ad} {m : Str → Option Value} {news : List (Ad × Obj)}
/-- the rest of the ledger stands where one object turns -/
theorem fr_but {h h' : Heap} (F : Fr h₀ L h m) (he : e ≠ L) (h0 : h₀.get? e = none) (keep : ∀ b o, b ≠ e → h.get? b = some o → h'.get? b = some o) : Fr h₀ L h' m := by
  obtain ⟨o, es, ep, hL, r⟩ := F.ns
  refine ⟨⟨o, es, ep, keep _ _ (Ne.symm he) hL, r⟩, fun b o q => keep b o (fun z => ?_) (F.keep b o q), F.above⟩
  rw [z, h0] at q; cases q
theorem new_at {h : Heap} (F : Fr h₀ L h m) {b : Ad} (hb : h.objs.size ≤ b) : b ≠ L ∧ h₀.get? b = none := by
  have hL := F.ns.lt
  refine ⟨Ne.symm (Nat.ne_of_lt (Nat.lt_of_lt_of_le hL hb)), Heap.get?_none_of_le (Nat.le_trans F.above (Nat.le_trans (Nat.le_of_lt hL) hb))⟩
theorem init_K {rest : List Value} {Q : Value → Shared → Prop} (F : Fr h₀ L s.heap m) (X : (hd.heap_39 w.params).In h₀) (N : News h₀ L s.heap ((e, excO t0 dc) :: news)) (hne : ∀ p ∈ news, p.1 ≠ e) (hrest : rest.length ≤ sizeLine)
    (k : ∀ h' t1, Fr h₀ L h' m → News h₀ L h' ((e, excO t1 dc) :: (t1, tupO rest.toArray) :: news) → (∀ p ∈ ((t1, tupO rest.toArray) :: news : List (Ad × Obj)), p.1 ≠ e) → (∀ p ∈ news, p.1 ≠ t1) → Q .none { s with heap := h' }) :
    wpAny (model PySem.Challenge.rw_nz0178_01.row.prog w) A (call (.builtin "Exception.__init__") (.ref e :: rest)) Q E s := by
  obtain ⟨hp, g, d, tk, os⟩ := s
  obtain ⟨_, _, _, _, _, _, _, _, _, _, _, _, _, hC⟩ := die_obj w hp (X.keeps F.keep)
  have hE := N _ (List.Mem.head _)
  refine xc_init PySem.F.excBase_Exception die_row hC hE.1 (fun h' t1 keep ht hT he => ?_) hrest
  have nt := new_at F ht
  have te : t1 ≠ e := Ne.symm (Nat.ne_of_lt (Nat.lt_of_lt_of_le (Heap.lt_size hE.1) ht))
  refine k h' t1 (fr_but F hE.2.1 hE.2.2 keep) (fun p hp => ?_) (fun p hp => ?_) (fun p hp => ?_)
  · rcases List.mem_cons.mp hp with rfl | hp
    · exact ⟨he, hE.2⟩
    rcases List.mem_cons.mp hp with rfl | hp
    · exact ⟨hT, nt⟩
    · have z := N p (List.Mem.tail _ hp)
      exact ⟨keep _ _ (hne p hp) z.1, z.2⟩
  · rcases List.mem_cons.mp hp with rfl | hp
    · exact te
    · exact hne p hp
  · exact Nat.ne_of_lt (Nat.lt_of_lt_of_le (Heap.lt_size (N p (List.Mem.tail _ hp)).1) ht)
/-- the object is a dict that holds just this -/
def DictOk (oD : Obj) (mA : Str → Option Value) : Prop := ∀ (h : Heap) (D : Ad), h.get? D = some oD → h.Ns1 D mA
theorem DictOk.of {h : Heap} {D : Ad} {mA : Str → Option Value} (x : h.Ns1 D mA) : ∃ oD, h.get? D = some oD ∧ DictOk oD mA := by
  obtain ⟨o, es, ep, e1, r⟩ := x
  exact ⟨o, e1, fun h' D' q => ⟨o, es, ep, q, r⟩⟩
theorem store_first {name : Str} {v : Value} {Q : Unit → Shared → Prop} (F : Fr h₀ L s.heap m) (X : (hd.heap_39 w.params).In h₀) (N : News h₀ L s.heap ((e, excO t0 none) :: news)) (hne : ∀ p ∈ news, p.1 ≠ e)
    (hl : ∀ h : Heap, (hd.heap_39 w.params).In h → Looks (model PySem.Challenge.rw_nz0178_01.row.prog w) h (typeLookup (.ref 51) name) none)
    (k : ∀ h' tk' D oD, Fr h₀ L h' m → News h₀ L h' ((e, excO t0 (some D)) :: (D, oD) :: news) → (∀ p ∈ ((D, oD) :: news : List (Ad × Obj)), p.1 ≠ e) → (∀ p ∈ news, p.1 ≠ D) → DictOk oD (fun y => if y = name then some v else none) → Q () { s with heap := h', toks := tk' }) :
    wpAny (model PySem.Challenge.rw_nz0178_01.row.prog w) A (setAttr (.ref e) name v) Q E s := by
  obtain ⟨hp, g, d, tk, os⟩ := s
  obtain ⟨_, _, _, _, _, _, _, _, _, _, _, _, _, hC⟩ := die_obj w hp (X.keeps F.keep)
  have hE := N _ (List.Mem.head _)
  refine xs_set (mA := fun _ => none) (ns := []) hC die_passes (by decide +kernel) (die_store_is w hp (X.keeps F.keep)) (hl hp (X.keeps F.keep)) ⟨_, hE.1, rfl, (fun c z => by cases z), .inl ⟨rfl, fun _ => rfl⟩⟩ (fun h' tk' I keep same => ?_) Within.nil (by rw [sizeLine_eq]; decide)
  obtain ⟨o₁, h1, c1, c2, c3, -, c4⟩ := same _ hE.1
  obtain ⟨o, ho, -, -, hdo⟩ := I
  rw [h1] at ho
  cases ho
  have hD := c4 rfl
  have e1 : o₁ = excO t0 (some hp.objs.size) := by
    obtain ⟨_, _, _, _⟩ := o₁
    dsimp only at c1 c2 c3 hD
    subst c1 c2 c3 hD
    rfl
  subst e1
  rcases hdo with ⟨z, -⟩ | ⟨D, z, nD, ns⟩
  · cases z
  cases z
  obtain ⟨oD, gD, dk⟩ := DictOk.of ns
  have kp : ∀ b o, b ≠ e → hp.get? b = some o → h'.get? b = some o := fun b o nb q => keep b o nb (fun o₀ dx q1 q2 => by rw [hE.1] at q1; cases q1; cases q2) q
  have nt := new_at F (Nat.le_refl hp.objs.size)
  refine k h' tk' hp.objs.size oD (fr_but F hE.2.1 hE.2.2 kp) (fun p hp' => ?_) (fun p hp' => ?_) (fun p hp' => ?_) dk
  · rcases List.mem_cons.mp hp' with rfl | hp'
    · exact ⟨h1, hE.2⟩
    rcases List.mem_cons.mp hp' with rfl | hp'
    · exact ⟨gD, nt⟩
    · have z := N p (List.Mem.tail _ hp')
      exact ⟨kp _ _ (hne p hp') z.1, z.2⟩
  · rcases List.mem_cons.mp hp' with rfl | hp'
    · exact nD
    · exact hne p hp'
  · exact Nat.ne_of_lt (Heap.lt_size (N p (List.Mem.tail _ hp')).1)
theorem store_more {name nm : Str} {v u : Value} {Q : Unit → Shared → Prop} {D : Ad} {oD : Obj} (F : Fr h₀ L s.heap m) (X : (hd.heap_39 w.params).In h₀) (N : News h₀ L s.heap ((e, excO t0 (some D)) :: (D, oD) :: news)) (hne : ∀ p ∈ ((D, oD) :: news : List (Ad × Obj)), p.1 ≠ e) (hnd : ∀ p ∈ news, p.1 ≠ D) (dk : DictOk oD (fun y => if y = nm then some u else none))
    (hl : ∀ h : Heap, (hd.heap_39 w.params).In h → Looks (model PySem.Challenge.rw_nz0178_01.row.prog w) h (typeLookup (.ref 51) name) none)
    (k : ∀ h' tk' oD', Fr h₀ L h' m → News h₀ L h' ((e, excO t0 (some D)) :: (D, oD') :: news) → Q () { s with heap := h', toks := tk' }) :
    wpAny (model PySem.Challenge.rw_nz0178_01.row.prog w) A (setAttr (.ref e) name v) Q E s := by
  obtain ⟨hp, g, d, tk, os⟩ := s
  obtain ⟨_, _, _, _, _, _, _, _, _, _, _, _, _, hC⟩ := die_obj w hp (X.keeps F.keep)
  have hE := N _ (List.Mem.head _)
  have hDD := N _ (List.Mem.tail _ (List.Mem.head _))
  have nDe : D ≠ e := hne _ (List.Mem.head _)
  refine xs_set (ns := [nm]) hC die_passes (by decide +kernel) (die_store_is w hp (X.keeps F.keep)) (hl hp (X.keeps F.keep)) ⟨_, hE.1, rfl, (fun c z => by cases z), .inr ⟨D, rfl, nDe, dk _ _ hDD.1⟩⟩ (fun h' tk' I keep same => ?_) (Within.cons nm u Within.nil) (by rw [sizeLine_eq]; show 1 + 1 ≤ _; decide)
  obtain ⟨o₁, h1, c1, c2, c3, c4, -⟩ := same _ hE.1
  obtain ⟨o, ho, -, -, hdo⟩ := I
  rw [h1] at ho
  cases ho
  have hD := c4 D rfl
  have e1 : o₁ = excO t0 (some D) := by
    obtain ⟨_, _, _, _⟩ := o₁
    dsimp only at c1 c2 c3 hD
    subst c1 c2 c3 hD
    rfl
  subst e1
  rcases hdo with ⟨z, -⟩ | ⟨D', z, nD, ns⟩
  · cases z
  cases z
  obtain ⟨oD', gD, dk'⟩ := DictOk.of ns
  have kp : ∀ b o, b ≠ e → b ≠ D → hp.get? b = some o → h'.get? b = some o := fun b o nb nb' q => keep b o nb (fun o₀ dx q1 q2 => by rw [hE.1] at q1; cases q1; cases q2; exact nb') q
  have F' : Fr h₀ L h' m := by
    obtain ⟨o, es, ep, hL, r⟩ := F.ns
    refine ⟨⟨o, es, ep, kp _ _ (Ne.symm hE.2.1) (Ne.symm hDD.2.1) hL, r⟩, fun b o q => kp b o (fun z => ?_) (fun z => ?_) (F.keep b o q), F.above⟩
    · rw [z, hE.2.2] at q; cases q
    · rw [z, hDD.2.2] at q; cases q
  refine k h' tk' oD' F' (fun p hp' => ?_)
  rcases List.mem_cons.mp hp' with rfl | hp'
  · exact ⟨h1, hE.2⟩
  rcases List.mem_cons.mp hp' with rfl | hp'
  · exact ⟨gD, hDD.2⟩
  · have z := N p (List.Mem.tail _ (List.Mem.tail _ hp'))
    exact ⟨kp _ _ (hne p (List.Mem.tail _ hp')) (hnd p hp') z.1, z.2⟩
end
abbrev InitSig (w : World) (mean : ExcName → Option Value) (mg mb : SV → Option Value) (f : Ad) (dd : Nat) (R : (Q : Value → Shared → Prop) → (h₀ : Heap) → (L : Ad) → (m : Str → Option Value) → (news : List (Ad × Obj)) → (s : Shared) → (e : Ad) → Prop) (v : Value) : Prop :=
  ∀ (dp un : Nat) (gd : Option (List Code)) (cn : Str) (cs : Scope) (a : Ad) (ccd : Value) (cl : List (Str × Ad)) (outer : List Env) (A₀ : Around) (base h₀ : Heap) (L : Ad) (m : Str → Option Value) (news : List (Ad × Obj)) (s : Shared) (Q E : Value → Shared → Prop) (e t0 : Ad),
    Below A₀ base outer h₀ → Fr h₀ L s.heap m → (hd.heap_39 w.params).In h₀ → News h₀ L s.heap ((e, excO t0 none) :: news) → (∀ p ∈ news, p.1 ≠ e) → Top theView Loo mean mg mb h₀ → cs.kind = .function →
    dp + dd < recursionLimit → un + 8 * dd < cLine → R Q h₀ L m news s e →
      wpAny (model PySem.Challenge.rw_nz0178_01.row.prog w) (ktrTop dp un gd cn cs L a ccd cl outer) (call (.ref f) [.ref e, v]) Q E s
abbrev PerlRet (x : Str) (tx : Tok) (Q : Value → Shared → Prop) (h₀ : Heap) (L : Ad) (m : Str → Option Value) (news : List (Ad × Obj)) (s : Shared) (e : Ad) : Prop :=
  ∀ h' tk' t1 D oD, Fr h₀ L h' m → News h₀ L h' ((e, excO t1 (some D)) :: (D, oD) :: (t1, tupO [.str x tx].toArray) :: news) → (∀ p ∈ ((D, oD) :: (t1, tupO [.str x tx].toArray) :: news : List (Ad × Obj)), p.1 ≠ e) → (∀ p ∈ ((t1, tupO [.str x tx].toArray) :: news : List (Ad × Obj)), p.1 ≠ D) →
    (∀ p ∈ news, p.1 ≠ t1) → DictOk oD (fun y => if y = Str.ofString "text" then some (.str x tx) else none) → Q .none { s with heap := h', toks := tk' }
set_option maxHeartbeats 8000000 in
theorem perl_init (w : World) (mean : ExcName → Option Value) (mg mb : SV → Option Value) (x : Str) (tx : Tok) : InitSig w mean mg mb 28 1 (PerlRet x tx) (.str x tx) := by
  k_with_none
  w_top off
  dsimp only [InitSig, PerlRet]
  k_fill
  intros
  rename_i hret
  refine wpAny_call ?_
  k_dflt cell_enter
  k_steps
  refine' method_type ?F ?X ?m (by decide +kernel) ?e ?h ?_
  case F => k_asm
  case X => k_asm
  case m => kernel_rfl
  case e => k_dflt k_is
  case h => k_handed
  k_steps
  k_dflt (refine' init_K ?F ?X ?N ?hne ?hr ?_; (case F => k_asm); (case X => k_asm); (case N => k_asm); (case hne => assumption); (case hr => (rw [sizeLine_eq]; show 1 ≤ _; decide)); intro h9 t9 F9 N9 n9 q9)
  k_steps
  k_dflt (refine' store_first ?F ?X ?N ?hne ?hl ?_; (case F => k_asm); (case X => k_asm); (case N => k_asm); (case hne => assumption); (case hl => exact die_no_text w); intro h8 tk8 D8 oD8 F8 N8 n8 q8 d8)
  k_steps
  exact hret _ _ _ _ _ (by assumption) (by assumption) (by assumption) (by assumption) (by assumption) (by assumption)
abbrev DieRet (Q : Value → Shared → Prop) (h₀ : Heap) (L : Ad) (m : Str → Option Value) (news : List (Ad × Obj)) (s : Shared) (e : Ad) : Prop :=
  ∀ h' tk' t1 D oD vs, Fr h₀ L h' m → News h₀ L h' ((e, excO t1 (some D)) :: (D, oD) :: (t1, tupO vs) :: news) → t1 ≠ e → (∀ p ∈ news, p.1 ≠ t1) → Q .none { s with heap := h', toks := tk' }
set_option maxHeartbeats 8000000 in
theorem die_init (w : World) (mean : ExcName → Option Value) (mg mb : SV → Option Value) (v : Value) : InitSig w mean mg mb 48 2 DieRet v := by
  k_with_none
  dsimp only [InitSig, DieRet]
  k_fill
  intros
  rename_i hret
  refine wpAny_call ?_
  k_dflt cell_enter
  k_steps
  k_dflt (refine' perl_init _ _ _ _ _ _ _ _ _ _ _ _ _ _ _ _ _ _ _ _ _ _ _ _ _ _ ?kB ?kF ?kX ?kN ?kne ?kT ?ks ?kd ?ku ?_; (case kB => k_asm); (case kF => k_asm); (case kX => k_asm); (case kN => k_asm); (case kne => assumption); (case kT => k_asm); (case ks => first | exact rfl | assumption); (case kd => ktr_room); (case ku => ktr_units); k_whole; intro h9 tk9 t9 D9 oD9 F9 N9 n9 q9 p9 d9; (try dsimp only); (try k_fold))
  k_steps
  k_dflt (refine' store_more ?F ?X ?N ?hne ?hnd ?dk ?hl ?_; (case F => k_asm); (case X => k_asm); (case N => k_asm); (case hne => assumption); (case hnd => assumption); (case dk => assumption); (case hl => exact die_no_value w); intro h8 tk8 oD8 F8 N8)
  k_steps
  exact hret _ _ _ _ _ _ (by assumption) (by assumption) (n9 _ (List.Mem.tail _ (List.Mem.head _))) p9
/-- the maker's own frame and ledger, and the exception with its args, where the class has been called -/
structure Flew (g : Heap) (L : Ad) (h' : Heap) (e t : Ad) (oe : Obj) (vs : Array Value) (news : List (Ad × Obj)) : Prop where
  fr : ∃ m, Fr g L h' m
  led : News g L h' ((e, oe) :: (t, tupO vs) :: news)
  cls : oe.cls = .ref 51
  data : oe.data = .fields #[.ref t, .none, .none, .none, .bool false, .none]
  te : t ≠ e
  offE : ∀ p ∈ news, p.1 ≠ e
  offT : ∀ p ∈ news, p.1 ≠ t
set_option maxHeartbeats 8000000 in
theorem die_K (w : World) (mean : ExcName → Option Value) (mg mb : SV → Option Value) (dp un : Nat) (gd : Option (List Code)) (cn : Str) (cs : Scope) (a : Ad) (ccd : Value) (cl : List (Str × Ad)) (outer : List Env) (A₀ : Around) (base h₀ : Heap) (L : Ad) (m : Str → Option Value) (news : List (Ad × Obj)) (s : Shared) (Q E : Value → Shared → Prop) (v : Value) :
    Below A₀ base outer h₀ → Fr h₀ L s.heap m → (hd.heap_39 w.params).In h₀ → News h₀ L s.heap news → Top theView Loo mean mg mb h₀ → cs.kind = .function →
    dp + 8 < recursionLimit → un + 40 < cLine →
    (∀ h' e t oe vs tk, Flew h₀ L h' e t oe vs news → Fr h₀ L h' m → News h₀ L h' ((e, oe) :: (t, tupO vs) :: news) → Q (.ref e) { s with heap := h', toks := tk }) →
      wpAny (model PySem.Challenge.rw_nz0178_01.row.prog w) (ktrTop dp un gd cn cs L a ccd cl outer) (call (.ref 51) [v]) Q E s := by
  k_with_none
  intro B F X N T hk hd hu hret
  obtain ⟨hp, g, d, tk, os⟩ := s
  obtain ⟨_, _, _, _, _, _, _, _, _, _, _, _, _, hC⟩ := die_obj w hp (X.keeps F.keep)
  obtain ⟨o48, h48, c48⟩ := die_fn w hp (X.keeps F.keep)
  refine xc_call PySem.F.excBase_Exception die_row hC (fun h' k => (die_init_is w h' ((X.keeps F.keep).keeps k))) h48 c48 (fun h' e M => ?_) (by rw [sizeLine_eq]; show 1 ≤ _; decide)
  obtain ⟨kp, eE, t0, gE, eT, gT⟩ := M
  have up : ∀ b, hp.get? b = none → h₀.get? b = none := fun b q => by
    cases r : h₀.get? b with
    | none => rfl
    | some o => have := F.keep b o r; rw [q] at this; cases this
  have eL : e ≠ L := fun z => by
    obtain ⟨o, es, ep, hL, r⟩ := F.ns
    rw [z, hL] at eE; cases eE
  have hne : ∀ p ∈ news, p.1 ≠ e := fun p hp' z => by
    have := (N p hp').1
    rw [z, eE] at this; cases this
  have N1 : News h₀ L h' ((e, excO t0 none) :: news) := fun p hp' => by
    rcases List.mem_cons.mp hp' with rfl | hp'
    · exact ⟨gE, eL, up _ eE⟩
    · exact ⟨kp _ _ (N p hp').1, (N p hp').2⟩
  refine die_init w mean mg mb v _ _ _ _ _ _ _ _ _ _ _ _ _ _ _ _ _ _ _ _ B (F.keeps kp) X N1 hne T hk ?kd ?ku ?_
  case kd =>
    have hw : (Code.builtin "type.__call__" ⟨[Value.ref 51, v], []⟩).weight ≤ 4 := Nat.le_of_ble_eq_true (by kernel_rfl)
    show dp + (Code.builtin "type.__call__" ⟨[Value.ref 51, v], []⟩).weight + 2 < _
    exact Nat.lt_of_le_of_lt (by omega) hd
  case ku =>
    have hw : (Code.builtin "type.__call__" ⟨[Value.ref 51, v], []⟩).cUnits ≤ 4 := Nat.le_of_ble_eq_true (by kernel_rfl)
    show un + (Code.builtin "type.__call__" ⟨[Value.ref 51, v], []⟩).cUnits + 8 * 2 < _
    exact Nat.lt_of_le_of_lt (by omega) hu
  intro h1 tk1 t1 D oD vs F1 N2 te offT
  have N3 : News h₀ L h1 ((e, excO t1 (some D)) :: (t1, tupO vs) :: news) := fun p hp' => N2 p (by
    rcases List.mem_cons.mp hp' with rfl | hp'
    · exact List.Mem.head _
    · exact List.Mem.tail _ (List.Mem.tail _ hp'))
  exact ⟨rfl, hret h1 e t1 _ vs tk1 ⟨⟨m, F1⟩, N3, rfl, rfl, te, hne, offT⟩ F1 N3⟩
end
section
open PySem.Spec PySem.Calls
section
variable {M : Model} {A : Around} {E : Value → Shared → Prop} {s' : Shared} {base g h : Heap} {outer : List Env} {L a e t : Ad} {m : Str → Option Value} {name : Str} {scope : Scope} {cd : Value} {Q : Unit → Shared → Prop} {news : List (Ad × Obj)}
/-- the def's frame is left by the exception made in it -/
theorem leave_die {oe : Obj} {vs : Array Value} (K : Below A base outer g) (DD : Flew g L s'.heap e t oe vs news)
    (hQ : ∀ h', RaisedS base g outer e (.ref 51) t vs.toList news h' → g.UpToSlots h' → Q () { s' with heap := h' }) (hk : scope.kind = .function := by rfl) :
    wpAny M (A.deeper (envOf name scope L a cd)) (leaving (envOf name scope L a cd) (.ref e)) Q E s' := by
  obtain ⟨⟨m, F⟩, N, dc, dd, te, offE, offT⟩ := DD
  have P := K.push (name := name) (a := a) (cd := cd) F hk
  have hE := N _ (List.Mem.head _)
  have hT := N _ (List.Mem.tail _ (List.Mem.head _))
  have low : ∀ b, g.get? b = none → base.get? b = none := fun b q => by
    cases r : base.get? b with
    | none => rfl
    | some o => have := K.stays b o r; rw [q] at this; cases this
  let hs := e :: t :: (envOf name scope L a cd :: outer).filterMap (·.frame)
  have inl : ∀ env ∈ (envOf name scope L a cd :: outer), ∀ b, env.frame = some b → b ∈ hs := fun env he b hb => List.mem_cons_of_mem _ (List.mem_cons_of_mem _ (List.mem_filterMap.mpr ⟨env, he, hb⟩))
  have st : base.StaysIn (hideAll s'.heap hs) := fun b o q => hideAll_get _ (P.stays b o q) fun hm => by
    rcases List.mem_cons.mp hm with z | hm
    · rw [z, low _ hE.2.2] at q; cases q
    rcases List.mem_cons.mp hm with z | hm
    · rw [z, low _ hT.2.2] at q; cases q
    rw [(P.frames.mem hm).1] at q; cases q
  have gL : g.get? L = none := kts_self F
  have sg : ∀ b o, g.get? b = some o → b ∉ outer.filterMap (·.frame) → (hideAll s'.heap hs).get? b = some o := fun b o q nm => hideAll_get _ (F.keep b o q) fun hm => by
    rcases List.mem_cons.mp hm with z | hm
    · rw [z, hE.2.2] at q; cases q
    rcases List.mem_cons.mp hm with z | hm
    · rw [z, hT.2.2] at q; cases q
    rcases kts_mem hm with z | z
    · rw [z, gL] at q; cases q
    · exact nm z
  have hl : ∀ q ∈ news, (hideAll s'.heap hs).get? q.1 = some q.2 ∧ g.get? q.1 = none ∧ base.get? q.1 = none := fun q hq => by
    have Nq := N q (List.Mem.tail _ (List.Mem.tail _ hq))
    refine ⟨hideAll_get _ Nq.1 fun hm => ?_, Nq.2.2, low _ Nq.2.2⟩
    rcases List.mem_cons.mp hm with z | hm
    · exact offE q hq z
    rcases List.mem_cons.mp hm with z | hm
    · exact offT q hq z
    rcases kts_mem hm with z | z
    · exact Nq.2.1 z
    · obtain ⟨o, ho, _⟩ := (K.frames.mem z).2
      rw [Nq.2.2] at ho; cases ho
  have hide : (hideAll s'.heap hs).get? e = none := hideAll_none _ (List.Mem.head _)
  have hidt : (hideAll s'.heap hs).get? t = none := hideAll_none _ (List.Mem.tail _ (List.Mem.head _))
  refine wpAny_leaving_firstW (base := hideAll s'.heap hs) (a0 := .ref t) P.stack ((funFrames_hide P.frames inl).of_keeps fun b o hb _ => ⟨o, hb, rfl⟩) rfl hE.1 (fun b o hb => of_hideAll _ hb) hide dd rfl rfl fun h' hL => ?_
  obtain ⟨k1, ⟨_, _, k2⟩, k3, k4⟩ := hL
  rw [dc] at k3
  exact hQ h' ⟨⟨_, st, sg, hl, ⟨k1, hide, k2, k3⟩, hidt⟩, Heap.TupAt.of_slots ⟨_, 0, hT.1, rfl, by simp⟩ k4⟩ ((Heap.UpToSlots.of_keeps F.keep).trans k4)
end

section
variable {prog : Program} {w : World} {A₀ A : Around} {s : Shared} {base h₀ : Heap} {L : Ad} {m : Str → Option Value} {env : Env} {news : List (Ad × Obj)} {K : Frag} {p : Program} {loose : List Str} {mean : ExcName → Option Value} {mg mb : Str → Option Value}
  {R : Result → Shared → Prop} {name qual : Str} {params : Arguments} {body : List Stmt} {scope : Scope} {dV kV doc pm cdv ct oc : Value} {an od : Option Ad} {osl : Array (Option Value)} {f : Ad} {args : Args} {binds : List (Str × Value)}
/-- the caller's own frame comes back, its slots turned or not -/
theorem back_raise {g g' h : Heap} {L' : Ad} {m' : Str → Option Value} (F₀ : h₀.objs.size ≤ L) (n₀ : h₀.get? L = none) (FG : Fr h₀ L g m) (st : h₀.StaysIn g) (T : KtsTurn [L] g g') (F' : Fr g' L' h m') (N' : News g' L' h news) : Fr h₀ L h m ∧ News h₀ L h news := by
  obtain ⟨oL, es, ep, hL, hLd, hLk, hLf⟩ := FG.ns
  obtain ⟨sl, hs⟩ := T.up hL
  refine ⟨⟨⟨_, es, ep, F'.keep _ _ hs, hLd, hLk, hLf⟩, fun b o q => F'.keep b o (T.other b o (st b o q) fun z => ?_), F₀⟩, fun q hq => ⟨(N' q hq).1, fun z => ?_, ?_⟩⟩
  · rw [List.mem_singleton.mp z, n₀] at q; cases q
  · have := (N' q hq).2.2; rw [z, hs] at this; cases this
  · cases r : h₀.get? q.1 with
    | none => rfl
    | some o =>
      obtain ⟨sl', hs'⟩ := T.up (st _ _ r)
      have := (N' q hq).2.2
      rw [hs'] at this; cases this
theorem enter_raise (B : Below A₀ base [] h₀) (F : Fr h₀ L s.heap m) (X₀ : K.In h₀) (N : News h₀ L s.heap news) (T : Top p loose mean mg mb h₀) (hA : A.frames = some [env]) (hf : env.frame = some L) (hke : env.scope.kind = .function)
    (ho : K.lookup f = some ⟨oc, od, .func (fnOf name qual params body scope dV kV doc pm an cdv ct), osl⟩) (hcd : codeIn K cdv qual = true) (hroom : A.depth < recursionLimit)
    (hbind : BindsTo s (fnOf name qual params body scope dV kV doc pm an cdv ct) args binds) (hloc : ∀ y ∈ binds, scope.names.lookup y.1 = some .local)
    (h : ∀ g L' h₁, Fr h₀ L g m → Fr g L' h₁ (fun y => binds.reverse.lookup y) → News g L' h₁ news → Below A base [env] g → K.In g → Top p loose mean mg mb g → KtsDicts ([env].filterMap (·.frame)) g →
      wpAny (model prog w) (A.deeper (envOf qual scope L' f cdv)) (execs body (envOf qual scope L' f cdv))
        (fun fl s' => LeaveS0 ([env].filterMap (·.frame)) h₀ L m g R (match fl with | .ret v => v | _ => .none) s')
        (fun e s' => wpAny (model prog w) (A.deeper (envOf qual scope L' f cdv)) (leaving (envOf qual scope L' f cdv) e) (fun _ s'' => R (.error e) s'') (fun e' s'' => R (.error e') s'') s')
        { s with heap := h₁, toks := s.toks + binds.length })
    (hco : scope.isCoroutine = false) (hgen : scope.isGenerator = false) (hk : scope.kind = .function)
    (hcell : ∀ x ∈ scope.names, x.2 ≠ .cell) : codeAny (model prog w) A (.call (.ref f) args) R s := by
  obtain ⟨FG, BG, st, _⟩ := groundX (R := R) B F N hA hf hke
  have X := X₀.keeps F.keep
  have efs : [env].filterMap (·.frame) = [L] := by simp [hf]
  refine codeAny_call_def (fd := fnOf name qual params body scope dV kV doc pm an cdv ct) (body := body) (binds := binds) hroom (X _ _ ho) rfl (T.nolimit.keeps F.keep) (codeRec_of X hcd) rfl hbind hcell hloc (fun h₁ hns hk₁ => ?_) hco hgen hk
  refine wpAny_mono (h _ s.heap.objs.size h₁ FG ⟨hns, fun b o e => hk₁ b o (of_hideAll _ e), Nat.le_of_eq (hideAll_size _ _)⟩
    (fun p hp => ⟨hk₁ _ _ (N p hp).1, Nat.ne_of_lt (Heap.lt_size (N p hp).1), hideAll_none _ (List.mem_map_of_mem hp)⟩) BG (X₀.keeps st) (T.keeps st) (fun b hb => ?_)) (fun fl s' hl => ?_) fun _ _ y => y
  · rw [efs, List.mem_singleton] at hb
    subst hb
    obtain ⟨oL, es, ep, hL, hLd, _, _⟩ := FG.ns
    exact ⟨oL, es, ep, hL, hLd⟩
  · obtain ⟨g', L', m', news', T', F', N', k⟩ := hl
    rw [efs] at T'
    obtain ⟨F₂, N₂⟩ := back_raise F.above (kts_self F) FG st T' F' N'
    exact k F₂ N₂
end
def DieRaised (K : Frag) (E : Value → Shared → Prop) (v : Value) (s₁ : Shared) : Prop :=
  ∃ e o t, v = .ref e ∧ K.In s₁.heap ∧ s₁.heap.get? e = some o ∧ o.cls = .ref 51 ∧ o.data = .fields #[.ref t, .none, .none, .none, .bool false, .none] ∧ E (.ref e) s₁
theorem DieRaised.intro {K : Frag} {E : Value → Shared → Prop} {news : List (Ad × Obj)} {h₀ : Heap} {L e t : Ad} {oe : Obj} {vs : Array Value} {m : Str → Option Value} {s₁ : Shared} (DD : Flew h₀ L s₁.heap e t oe vs news) (F : Fr h₀ L s₁.heap m) (X : K.In h₀) (k : E (.ref e) s₁) : DieRaised K E (.ref e) s₁ :=
  ⟨e, oe, t, rfl, X.keeps F.keep, (DD.led _ (List.Mem.head _)).1, DD.cls, DD.data, k⟩
theorem Raise_die {h₀ : Heap} {M : Model} {A : Around} {E : Value → Shared → Prop} {s : Shared} {env : Env} {K : Frag} {x : Expr} {pos : Pos} {Q : Flow → Shared → Prop} (X₀ : K.In h₀) (hh : A.handled = none) (hK : ktsIn K 51 "BaseException" = true)
    (h : wpAny M A (eval x env) (DieRaised K E) E s) : wpAny M A (exec (.Raise (some x) none pos) env) Q E s := by
  show wpAny M A (do standAt pos; raiseStmt env (some (do let v ← eval x env; standAt pos; pure v)) none) Q E s
  refine wpAny_bind (wpAny_standAt ?_)
  unfold raiseStmt
  dsimp only
  refine wpAny_bind (wpAny_bind (wpAny_mono h (fun v s₁ h₁ => wpAny_bind (wpAny_standAt (wpAny_pure ?_))) fun _ _ x => x))
  obtain ⟨e, o, t, rfl, X, he, hcls, hd, hE⟩ := h₁
  obtain ⟨nm, q', N, bs, bm, hdct, sn, sub, ab, col, dd, k0, k1, k2, k3, k5, newId, hC, hbase, _⟩ := kts_cls X hK
  have hcB : (Value.ref 51 :: bm).contains (.type "BaseException") = true := by rw [List.contains_cons, hbase, Bool.or_true]
  obtain ⟨c, dct, dt, sl⟩ := o
  dsimp only at hcls hd
  subst hcls hd
  obtain ⟨hp, g, d, tk, os⟩ := s₁
  repeat (first | with_reducible refine wpAny_loadPart_at he ?_ | with_reducible refine wpAny_loadPart_at hC ?_ | (with_reducible refine wpAny_isSubtype_exc hC ?_; rw [hcB]) | wp_step)
  exact wpAny_raiseNew_none hh hE
end
section
def signV (n : Int) (t : Tok) : Value := if n > 1114111 then .none else .str ⟨#[if n < 0 then 65533 else n.toNat]⟩ t
theorem signV_neg {n : Int} (t : Tok) (h : n < 0) : signV n t = .str (Str.ofString "\uFFFD") t := by
  unfold signV
  rw [if_neg (by omega), if_pos h]
  congr 1
theorem signV_high {n : Int} (t : Tok) (h : 1114111 < n) : signV n t = .none := if_pos h
theorem signV_mid {n : Int} (t : Tok) (h : ¬ n < 0) (h' : ¬ 1114111 < n) : signV n t = .str ⟨#[n.toNat]⟩ t := by
  unfold signV
  rw [if_neg h', if_neg h]
theorem ret_val {h₀ h' : Heap} {L : Ad} {m : Str → Option Value} {news : List (Ad × Obj)} {s : Shared} {Q : Value → Shared → Prop} {R : Tok → Value} {v : Value} {tk' : Nat} (t : Tok)
    (hret : ∀ (t : Tok) (h' : Heap) (tk' : Nat), Fr h₀ L h' m → News h₀ L h' news → Q (R t) { s with heap := h', toks := tk' }) (F : Fr h₀ L h' m) (N : News h₀ L h' news) (e : R t = v) : Q v { s with heap := h', toks := tk' } := by
  subst e; exact hret t h' tk' F N
set_option maxHeartbeats 8000000 in
theorem sign_ok (w : World) (mean : ExcName → Option Value) (mg mb : SV → Option Value) (n : Int) (t : Tok) (cn : Str) (cs : Scope) (a : Ad) (ccd : Value) (cl : List (Str × Ad)) (h₀ : Heap) (L : Ad) (m : Str → Option Value) (news : List (Ad × Obj)) (s : Shared) (Q E : Value → Shared → Prop) :
    Below callerA h₀ [] h₀ → Fr h₀ L s.heap m → (hd.heap_39 w.params).In h₀ → News h₀ L s.heap news → Top theView Loo mean mg mb h₀ → cs.kind = .function →
    CbRet h₀ L m news s Q (fun t => signV n t) → wpAny (model PySem.Challenge.rw_nz0178_01.row.prog w) (callerA.deeper (envX cn cs L a ccd cl)) (call (.ref 195) [.int n t]) Q E s := by
  k_with_none
  w_top off
  k_with "call ref" => (k_here; (with_reducible show wpAny _ _ (call (Value.ref 112) [Value.int _ _]) _ _ _); (refine wpAny_call ?_); k_dflt (refine' code_def ?k1 ?k2 ?k3 ?k4 ?k5 ?kA ?kF ?kK ?k6 ?k7 ?k8 ?k9 ?kB ?_ ?c2 ?c3 ?c4 ?c5; (case kA => exact rfl); (case kF => exact rfl); (case kK => first | exact rfl | assumption); (case k1 => k_asm); (case k2 => k_asm); (case k3 => k_asm); (case k4 => k_asm); (case k5 => k_asm); (case k6 => k_is); (case k7 => k_is); (case k8 => ktr_room); (case k9 => exact BindsTo.of_eq rfl); (case c5 => decide); (case kB => exact locs rfl); (case c2 => exact rfl); (case c3 => exact rfl); (case c4 => exact rfl); k_whole; intro g' L' h' FG' F' N' B' X' T'; (try dsimp only); (try k_lift B'); (try k_fold)))
  k_with "call ref" => (k_here; (with_reducible show wpAny _ _ (call (Value.ref 51) [Value.str _ _]) _ _ _); k_dflt (refine' die_K _ _ _ _ _ _ _ _ _ _ _ _ _ _ _ _ _ _ _ _ _ _ _ ?kB ?kF ?kX ?kN ?kT ?ks ?kd ?ku ?_; (case kB => k_asm); (case kF => k_asm); (case kX => k_asm); (case kN => k_asm); (case kT => k_asm); (case ks => first | exact rfl | assumption); (case kd => first | ktr_room | k_room); (case ku => first | ktr_units | k_units); k_whole; intro h' e' t' oe' vs' tk' D' F' N'; (try k_sweep)))
  k_with "exec Raise some none" => (k_here; k_dflt (refine' Raise_die ?hX ?hh ?hq ?_; (case hX => assumption); (case hh => exact rfl); (case hq => kts_isx)))
  k_with "DieRaised" => k_dflt (refine' DieRaised.intro ?kD ?kF ?kX ?_; (case kD => assumption); (case kF => k_asm); (case kX => k_asm))
  k_with "leaving ref" => (k_here; k_dflt (refine' leave_die ?k1 ?k0 ?_; (case k0 => assumption); (case k1 => assumption); k_whole; intro h' S' U'; (try dsimp only at S' U' ⊢)))
  dsimp only [CbRet]
  k_fill
  intro B F X N T hk hret
  refine wpAny_call ?_
  refine' enter_raise B F X N T ?kA ?kf ?kk ?k6 ?k7 ?k8 ?k9 ?kB ?_ ?c2 ?c3 ?c4 ?c5
  case kA => exact rfl
  case kf => exact rfl
  case kk => exact hk
  case k6 => k_is
  case k7 => k_is
  case k8 => k_room
  case k9 => exact BindsTo.of_eq rfl
  case kB => exact locs rfl
  case c2 => exact rfl
  case c3 => exact rfl
  case c4 => exact rfl
  case c5 => decide
  k_whole
  intro g' L' h' FG' F' N' B' X' T' D'
  (try dsimp only)
  (try k_lift B')
  (try k_fold)
  k_steps
  · exact ret_val _ hret (by assumption) (by first | assumption | exact cb_drop (by assumption) fun p hp => by repeat (first | exact hp | apply List.mem_cons_of_mem)) (signV_neg _ (by assumption))
  · exact ret_val 0 hret (by assumption) (by first | assumption | exact cb_drop (by assumption) fun p hp => by repeat (first | exact hp | apply List.mem_cons_of_mem)) (signV_high _ (by assumption))
  · exact ret_val _ hret (by assumption) (by first | assumption | exact cb_drop (by assumption) fun p hp => by repeat (first | exact hp | apply List.mem_cons_of_mem)) (signV_mid _ (by assumption) (by assumption))
end
section
/-- what a draw asks of the heap: the pen's list, the script's list below it -/
abbrev DrawOk (w : World) (mean : ExcName → Option Value) (mg mb : SV → Option Value) : Prop :=
  ∀ (dp un : Nat) (gd : Option (List Code)) (cn : Str) (cs : Scope) (a : Ad) (ccd : Value) (cl : List (Str × Ad)) (outer : List Env) (A₀ : Around) (base h₀ : Heap) (L : Ad) (m : Str → Option Value) (rest : List (Ad × Obj)) (s : Shared) (D l : Ad) (k : Int) (tk : Tok) (ws : List Value) (ns : List Int) (Q E : Value → Shared → Prop),
    Below A₀ base outer h₀ → Fr h₀ L s.heap m → (hd.heap_39 w.params).In h₀ → News h₀ L s.heap ((D, listOf #[.ref l, .int k tk] 0) :: (l, listOf ws.toArray 0) :: rest) → (∀ p ∈ ((l, listOf ws.toArray 0) :: rest : List (Ad × Obj)), p.1 ≠ D) → IntsAre ws ns → 8 ≤ ns.length → ns.length ≤ 64 → 0 ≤ k → k ≤ 64 → Top theView Loo mean mg mb h₀ → cs.kind = .function →
    dp + 1 < recursionLimit → un + 8 < cLine →
    (∀ v t t2 h' tk', Fr h₀ L h' m → News h₀ L h' ((D, listOf #[.ref l, .int (k + 1) t2] 0) :: (l, listOf ws.toArray 0) :: rest) → Q (.int v t) { s with heap := h', toks := tk' }) →
      wpAny (model PySem.Challenge.rw_nz0178_01.row.prog w) (ktrTop dp un gd cn cs L a ccd cl outer) (call (.ref 155) [.ref D]) Q E s
theorem sz_eq {ws : List Value} {ns : List Int} (h : IntsAre ws ns) : ws.toArray.size = ns.length := by rw [List.size_toArray, h.length]
set_option maxHeartbeats 8000000 in
theorem draw_ok (w : World) (mean : ExcName → Option Value) (mg mb : SV → Option Value) : DrawOk w mean mg mb := by
  k_with_none
  w_top off
  k_with "k_all" => assumption
  k_with "call builtin:len" => (k_here; (with_reducible show wpAny _ _ (call (Value.builtin "len") [Value.ref _]) _ _ _); k_dflt (refine' PyProof.Rows.len_list (News.isList ?N ?m) ?f ?_; (case N => k_asm); (case m => k_mem); (case f => (simp only [List.size_toArray]; omega))))
  dsimp only [DrawOk]
  k_fill
  intros
  rename_i hI hn1 hn2 hk1 hk2 hT hcs hdp hun hret
  have hlen := hI.length
  have hsz := sz_eq hI
  refine wpAny_call ?_
  k_dflt cell_enter
  k_steps
  exact hret _ _ _ _ _ (by assumption) (by assumption)
end
section
/-! both readings of figures are one -/
theorem fig_law (c : Nat) {b : Int} (hb : 0 ≤ b ∧ b ≤ 16) : (0 ≤ figC c b ↔ lawC c < b) ∧ (0 ≤ figC c b → figC c b = lawC c) := by
  unfold figC worthC lawC
  by_cases h1 : 48 ≤ c ∧ c ≤ 57
  · simp only [if_pos h1]; split <;> omega
  · by_cases h2 : 97 ≤ c ∧ c ≤ 102
    · simp only [if_neg h1, if_pos h2]; split <;> omega
    · by_cases h3 : 65 ≤ c ∧ c ≤ 70
      · simp only [if_neg h1, if_neg h2, if_pos h3]; split <;> omega
      · simp only [if_neg h1, if_neg h2, if_neg h3]; split <;> omega
theorem figs_law {b : Int} (hb : 0 ≤ b ∧ b ≤ 16) : ∀ l : List Nat, figs b l = lfigs b l
  | [] => rfl
  | [c] => by
    have h := fig_law c hb
    rw [figs, lfigs]
    by_cases h1 : figC c b < 0
    · rw [if_pos h1, if_pos (by omega)]
    · rw [if_neg h1, if_neg (by omega), h.2 (by omega)]
  | c :: d :: r => by
    have h := fig_law c hb
    have h2 := fig_law d hb
    have ih1 := figs_law hb r
    have ih2 := figs_law hb (d :: r)
    rw [figs, lfigs]
    by_cases h1 : c = 95 ∧ 0 ≤ figC d b
    · rw [if_pos h1, if_pos ⟨h1.1, h2.1.mp h1.2⟩, ← ih2]
      have hd : d ≠ 95 := fun e => by
        have := h1.2
        rw [e, figC_low b hb.1] at this; omega
      have e : figs b (d :: r) = figC d b :: figs b r := by
        cases r with
        | nil =>
          have z : figs b [d] = if figC d b < 0 then [] else [figC d b] := by rw [figs]
          rw [z, if_neg (by omega)]; rfl
        | cons e r' => rw [figs, if_neg (fun h => hd h.1), if_neg (by omega)]
      rw [e]
    · rw [if_neg h1, if_neg (c := c = 95 ∧ lawC d < b) (fun h' => h1 ⟨h'.1, h2.1.mpr h'.2⟩)]
      by_cases h3 : figC c b < 0
      · rw [if_pos h3, if_pos (by omega)]
      · rw [if_neg h3, if_neg (by omega), h.2 (by omega), ih2]
theorem lfigs_range {b : Int} : ∀ l : List Nat, ∀ d ∈ lfigs b l, 0 ≤ d
  | [], _, h => nomatch h
  | [c], d, h => by
    rw [lfigs] at h
    split at h
    · cases h
    · rw [List.mem_singleton.mp h]; have := lawC_range c; omega
  | c :: e :: r, d, h => by
    rw [lfigs] at h
    split at h
    · exact lfigs_range (e :: r) d h
    · split at h
      · cases h
      · rcases List.mem_cons.mp h with h | h
        · rw [h]; have := lawC_range c; omega
        · exact lfigs_range (e :: r) d h
/-- Horner's number -/
noncomputable def horner (b n : Int) (ds : List Int) : Int := ds.foldl (fun n d => n * b + d) n
theorem horner_ge {b : Int} (hb : 1 ≤ b) : ∀ (ds : List Int) (n : Int), 0 ≤ n → (∀ d ∈ ds, 0 ≤ d) → n ≤ horner b n ds
  | [], _, _, _ => Int.le_refl _
  | d :: ds, n, hn, h => by
    have hd := h d List.mem_cons_self
    have h1 : n * 1 ≤ n * b := Int.mul_le_mul_of_nonneg_left hb hn
    have ih := horner_ge hb ds (n * b + d) (by omega) fun d' h' => h d' (List.mem_cons_of_mem _ h')
    show n ≤ horner b (n * b + d) ds
    omega
theorem sat_top {b M : Int} (hb : 1 ≤ b) (hM : 0 ≤ M) : ∀ (ds : List Int), (∀ d ∈ ds, 0 ≤ d) → sat b M M ds = M
  | [], _ => rfl
  | d :: ds, h => by
    have hd := h d List.mem_cons_self
    have h1 : M * 1 ≤ M * b := Int.mul_le_mul_of_nonneg_left hb hM
    show sat b M (min (M * b + d) M) ds = M
    have e : min (M * b + d) M = M := by omega
    rw [e, sat_top hb hM ds fun d' h' => h d' (List.mem_cons_of_mem _ h')]
theorem sat_horner {b M : Int} (hb : 1 ≤ b) (hM : 0 ≤ M) : ∀ (ds : List Int) (n : Int), 0 ≤ n → n ≤ M → (∀ d ∈ ds, 0 ≤ d) → sat b M n ds = min (horner b n ds) M
  | [], n, _, h, _ => by show n = min n M; omega
  | d :: ds, n, hn, hm, h => by
    have hd := h d List.mem_cons_self
    have ht : ∀ d' ∈ ds, 0 ≤ d' := fun d' h' => h d' (List.mem_cons_of_mem _ h')
    have h1 : 0 ≤ n * b := Int.mul_nonneg hn (by omega)
    show sat b M (min (n * b + d) M) ds = min (horner b (n * b + d) ds) M
    by_cases hc : n * b + d ≤ M
    · rw [Int.min_eq_left hc, sat_horner hb hM ds _ (by omega) hc ht]
    · rw [Int.min_eq_right (by omega), sat_top hb hM ds ht]
      have := horner_ge hb ds (n * b + d) (by omega) ht
      omega
/-- the sum by places, from the front -/
noncomputable def posSum (b : Int) : List Int → Int
  | [] => 0
  | d :: ds => d * b ^ ds.length + posSum b ds
theorem horner_pos (b : Int) : ∀ (ds : List Int) (n : Int), horner b n ds = n * b ^ ds.length + posSum b ds
  | [], n => by show n = n * b ^ 0 + 0; simp
  | d :: ds, n => by
    show horner b (n * b + d) ds = n * b ^ (ds.length + 1) + (d * b ^ ds.length + posSum b ds)
    rw [horner_pos b ds, Int.add_mul, Int.pow_succ', Int.mul_assoc, Int.add_assoc]
theorem rangeKs_eq (n : Nat) : rangeKs 0 n = (List.range n).map fun (i : Nat) => (i : Int) := by
  unfold rangeKs
  simp
theorem placeSum_eq (b : Int) (ks : List Int) : placeSum b ks = ((List.range ks.length).map fun k => ks.getD (ks.length - 1 - k) 0 * b ^ k).sum := by
  unfold placeSum
  have e : ((ks.length : Int) - 0).toNat = ks.length := by omega
  rw [e, rangeKs_eq, List.map_map]
  congr 1
  refine List.map_congr_left fun k hk => ?_
  have hk' := List.mem_range.mp hk
  show ks.getD (-1 - (k : Int) + (ks.length : Int)).toNat 0 * b ^ (k : Int).toNat = _
  have e1 : (-1 - (k : Int) + (ks.length : Int)).toNat = ks.length - 1 - k := by omega
  rw [e1, Int.toNat_natCast]
theorem posSum_eq (b : Int) : ∀ ks : List Int, ((List.range ks.length).map fun k => ks.getD (ks.length - 1 - k) 0 * b ^ k).sum = posSum b ks
  | [] => rfl
  | d :: ds => by
    rw [List.length_cons, List.range_succ, List.map_append, List.sum_append]
    have e1 : ((List.range ds.length).map fun k => (d :: ds).getD (ds.length + 1 - 1 - k) 0 * b ^ k) = (List.range ds.length).map fun k => ds.getD (ds.length - 1 - k) 0 * b ^ k := by
      refine List.map_congr_left fun k hk => ?_
      have hk' := List.mem_range.mp hk
      have e : ds.length + 1 - 1 - k = (ds.length - 1 - k) + 1 := by omega
      rw [e, List.getD_cons_succ]
    rw [e1, posSum_eq b ds]
    simp [posSum, Int.add_comm]
theorem signed_law {wd : Nat} (hw : 1 ≤ wd) (t : Int) : signed wd (min t (2 ^ wd - 1)) = if 2 ^ wd ≤ 2 * lawN wd t then lawN wd t - 2 ^ wd else lawN wd t := by
  obtain ⟨k, rfl⟩ : ∃ k, wd = k + 1 := ⟨wd - 1, by omega⟩
  have e : lawN (k + 1) t = min t (2 ^ (k + 1) - 1) := by unfold lawN; split <;> omega
  rw [e]
  unfold signed
  generalize min t (2 ^ (k + 1) - 1) = n
  have e1 : k + 1 - 1 = k := rfl
  rw [e1, Int.pow_succ]
  generalize (2 : Int) ^ k = p
  by_cases h : p ≤ n
  · rw [if_pos h, if_pos (by omega)]
  · rw [if_neg h, if_neg (by omega)]
theorem read_law {b : Int} {wd : Nat} (hb : 2 ≤ b ∧ b ≤ 16) (hw : 1 ≤ wd) (l : List Nat) : readV b wd l = lawV b wd l := by
  unfold readV lawV
  have hp := pow_pos2 wd
  rw [figs_law (by omega), sat_horner (by omega) hp _ _ (Int.le_refl 0) hp (lfigs_range l), signed_law hw, horner_pos, placeSum_eq, posSum_eq]
  simp
/-! marks -/
theorem sm_x (c : Nat) : smallC c = 120 ↔ c = 120 ∨ c = 88 := by unfold smallC; split <;> omega
theorem sm_b (c : Nat) : smallC c = 98 ↔ c = 98 ∨ c = 66 := by unfold smallC; split <;> omega
theorem sm_o (c : Nat) : smallC c = 111 ↔ c = 111 ∨ c = 79 := by unfold smallC; split <;> omega
theorem sm_0 (c : Nat) : smallC c = 48 ↔ c = 48 := by unfold smallC; split <;> omega
theorem hex_law {wd : Nat} (hw : 1 ≤ wd) (l : List Nat) : hexV wd l = lhexV wd l := by
  have R : ∀ l, readV 16 wd l = lawV 16 wd l := read_law (by decide) hw
  unfold hexV lhexV
  rw [R]
  match l with
  | [] => rfl
  | [c] =>
    unfold hexTail opens marks4
    by_cases h1 : c = 120
    · subst h1; rfl
    by_cases h2 : c = 88
    · subst h2; rfl
    have h3 : ¬ smallC c = 120 := by rw [sm_x]; omega
    simp [h1, h2, h3]
  | c :: d :: r =>
    unfold hexTail opens marks4
    by_cases h1 : c = 120
    · subst h1; simp [smallC]
    by_cases h2 : c = 88
    · subst h2; simp [smallC]
    have h3 : ¬ smallC c = 120 := by rw [sm_x]; omega
    by_cases h0 : c = 48
    · subst h0
      by_cases h4 : d = 120
      · subst h4; simp [smallC]
      by_cases h5 : d = 88
      · subst h5; simp [smallC]
      have h6 : ¬ smallC d = 120 := by rw [sm_x]; omega
      have h8 : smallC 48 = 48 := rfl
      simp [h4, h5, h6, h8]
    · have h7 : ¬ smallC c = 48 := by rw [sm_0]; exact h0
      simp [h0, h1, h2, h3, h7]
theorem read_zero {b : Int} {wd : Nat} (hb : 2 ≤ b ∧ b ≤ 16) (r : List Nat) : readV b wd (48 :: r) = readV b wd r := by
  have e : figC 48 b = 0 := by unfold figC; rw [show worthC 48 = 0 by decide]; exact if_neg (by omega)
  have e2 : figs b (48 :: r) = 0 :: figs b r := by
    cases r with
    | nil =>
      have z : figs b [48] = if figC 48 b < 0 then [] else [figC 48 b] := by rw [figs]
      rw [z, e]; rfl
    | cons d r => rw [figs, if_neg (by omega), e]; rfl
  unfold readV
  rw [e2]
  show signed wd (sat b (2 ^ wd - 1) (min (0 * b + 0) (2 ^ wd - 1)) _) = _
  have := pow_pos2 wd
  have e3 : min (0 * b + 0) ((2 : Int) ^ wd - 1) = 0 := by omega
  rw [e3]
theorem ws_same {l : List Nat} (h : ∀ c ∈ l, isWs c = isWs3 c) : l.dropWhile isWs = l.dropWhile isWs3 := by
  induction l with
  | nil => rfl
  | cons c r ih =>
    rw [List.dropWhile_cons, List.dropWhile_cons, h c List.mem_cons_self, ih fun d hd => h d (List.mem_cons_of_mem _ hd)]
theorem no_mark {c : Nat} {r : List Nat} (h0 : c ≠ 48) (hx : ¬ smallC c = 120) (hb : ¬ smallC c = 98) (ho : ¬ smallC c = 111) : opensB marks12 (c :: r) = none := by
  rw [sm_x] at hx
  rw [sm_b] at hb
  rw [sm_o] at ho
  unfold opensB
  rw [List.find?_eq_none]
  intro m hm
  obtain ⟨d, _, hm1, hd⟩ := (by decide +kernel : ∀ m ∈ marks12, ∃ d ∈ m.1, m.1 = d :: m.1.tail ∧ d ∈ [120, 88, 98, 66, 111, 79, 48]) m hm
  rw [hm1]
  intro hc
  have hc := of_decide_eq_true hc
  have e1 : c = d := (List.cons.inj hc).1
  subst e1
  simp only [List.mem_cons, List.not_mem_nil, or_false] at hd
  omega
theorem no_mark0 {d : Nat} {r : List Nat} (hx : ¬ smallC d = 120) (hb : ¬ smallC d = 98) (ho : ¬ smallC d = 111) : opensB marks12 (48 :: d :: r) = none := by
  rw [sm_x] at hx
  rw [sm_b] at hb
  rw [sm_o] at ho
  unfold opensB
  rw [List.find?_eq_none]
  intro m hm
  have hd : (∃ c, m.1 = [c] ∧ c ≠ 48) ∨ ∃ c, m.1 = [48, c] ∧ c ∈ [120, 88, 98, 66, 111, 79] := (by decide +kernel : ∀ m ∈ marks12, (∃ c ∈ m.1, m.1 = [c] ∧ c ≠ 48) ∨ ∃ c ∈ m.1, m.1 = [48, c] ∧ c ∈ [120, 88, 98, 66, 111, 79]) m hm |>.imp (fun ⟨c, _, h⟩ => ⟨c, h⟩) (fun ⟨c, _, h⟩ => ⟨c, h⟩)
  rcases hd with ⟨c, hm1, hc⟩ | ⟨c, hm1, hc⟩
  · rw [hm1]
    intro h
    have h := of_decide_eq_true h
    exact hc (List.cons.inj h).1.symm
  · rw [hm1]
    intro h
    have h := of_decide_eq_true h
    have e1 : d = c := (List.cons.inj (List.cons.inj h).2).1
    subst e1
    simp only [List.mem_cons, List.not_mem_nil, or_false] at hc
    omega
theorem octAt_law {wd : Nat} (hw : 1 ≤ wd) (l : List Nat) : octAt wd (offZero l) = loctAt wd l := by
  have R8 : ∀ l, readV 8 wd l = lawV 8 wd l := read_law (by decide) hw
  have R16 : ∀ l, readV 16 wd l = lawV 16 wd l := read_law (by decide) hw
  have R2 : ∀ l, readV 2 wd l = lawV 2 wd l := read_law (by decide) hw
  have key : ∀ (c : Nat) (r : List Nat), c ≠ 48 → octAt wd (c :: r) = loctAt wd (c :: r) := by
    intro c r h0
    by_cases a : smallC c = 120
    · rcases (sm_x c).mp a with rfl | rfl
      · exact R16 r
      · exact R16 r
    by_cases b : smallC c = 98
    · rcases (sm_b c).mp b with rfl | rfl
      · exact R2 r
      · exact R2 r
    by_cases d : smallC c = 111
    · rcases (sm_o c).mp d with rfl | rfl
      · exact R8 r
      · exact R8 r
    unfold octAt loctAt
    rw [no_mark h0 a b d]
    dsimp only
    rw [if_neg a, if_neg b, if_neg d, R8]
  match l with
  | [] =>
    show readV 8 wd [] = lawV 8 wd []
    exact R8 _
  | [c] =>
    by_cases h0 : c = 48
    · subst h0
      show readV 8 wd [] = lawV 8 wd [48]
      rw [← R8, read_zero (by decide)]
    · have e : offZero [c] = [c] := if_neg (fun h => h0 (List.cons.inj h).1)
      rw [e]; exact key c [] h0
  | c :: d :: r =>
    by_cases h0 : c = 48
    · subst h0
      show octAt wd (d :: r) = _
      by_cases a : smallC d = 120
      · rcases (sm_x d).mp a with rfl | rfl
        · exact R16 r
        · exact R16 r
      by_cases b : smallC d = 98
      · rcases (sm_b d).mp b with rfl | rfl
        · exact R2 r
        · exact R2 r
      by_cases e : smallC d = 111
      · rcases (sm_o d).mp e with rfl | rfl
        · exact R8 r
        · exact R8 r
      unfold octAt loctAt
      rw [no_mark0 a b e]
      dsimp only
      rw [if_neg a, if_neg b, if_neg e, ← R8, read_zero (by decide)]
    · have e : offZero (c :: d :: r) = c :: d :: r := if_neg (fun h => h0 (List.cons.inj h).1)
      rw [e]; exact key c _ h0
theorem oct_law {wd : Nat} (hw : 1 ≤ wd) (l : List Nat) (h : ∀ c ∈ l, isWs c = isWs3 c) : octV wd l = loctV wd l := by
  unfold octV loctV
  rw [ws_same h, octAt_law hw]
end
section
open PySem.Spec PySem.Calls
/-- the texts that the law's text is put together of -/
def atoms : List PySem.Str := [Str.ofString "0", Str.ofString "1", Str.ofString "2", Str.ofString "7", Str.ofString "8", Str.ofString "9", Str.ofString "a", Str.ofString "F", Str.ofString "_", Str.ofString "__", Str.ofString "x", Str.ofString "0X", Str.ofString "0x", Str.ofString "b", Str.ofString "0B", Str.ofString "0b", Str.ofString "o", Str.ofString "0o", Str.ofString " ", Str.ofString "\t", Str.ofString "g", Str.ofString "é", Str.ofString "-", Str.ofString "Zz", Str.ofString "\n"]
section
variable {prog : Program} {w : World} {A : Around} {E : Value → Shared → Prop} {s : Shared} {h₀ : Heap} {L : PySem.Addr} {m : PySem.Str → Option Value} {env : Env}
/-- the pen, its list and the cell that holds it -/
abbrev PenL (D l : PySem.Addr) (ws : List Value) (c : PySem.Addr) (oc : Obj) (k : Int) (t : Tok) : List (PySem.Addr × Obj) := [(D, listOf #[.ref l, .int k t] 0), (l, listOf ws.toArray 0), (c, oc)]
/-- what a turn that draws once leaves -/
def PenEnd (h₀ : Heap) (L : PySem.Addr) (m : PySem.Str → Option Value) (s₁ : Shared) (I : PySem.Addr) (oI : Obj) (C : PySem.Addr) (oC : Obj) (D' : PySem.Addr) (oD : Obj) (D l : PySem.Addr) (ws : List Value) (c : PySem.Addr) (oc : Obj) (k : Int) (y : Value) (s₂ : Shared) : Prop :=
  ∃ h' tk t, s₂ = { s₁ with heap := h', toks := tk } ∧ Fr h₀ L h' m ∧ News h₀ L h' [(D, listOf #[.ref l, .int (k + 1) t] 0), (l, listOf ws.toArray 0), (c, oc), (I, oI), (C, oC), (D', oD)] ∧ ∃ z u, y = .str z u ∧ z ∈ atoms
theorem PenEnd.intro {s₁ : Shared} {I : PySem.Addr} {oI : Obj} {C : PySem.Addr} {oC : Obj} {D' : PySem.Addr} {oD : Obj} {D l : PySem.Addr} {ws : List Value} {c : PySem.Addr} {oc : Obj} {k : Int} {z : PySem.Str} {u t : Tok} {h' : Heap} {tk : Nat}
    (F : Fr h₀ L h' m) (N : News h₀ L h' [(D, listOf #[.ref l, .int (k + 1) t] 0), (l, listOf ws.toArray 0), (c, oc), (I, oI), (C, oC), (D', oD)]) (hz : z ∈ atoms) :
    PenEnd h₀ L m s₁ I oI C oC D' oD D l ws c oc k (.str z u) { s₁ with heap := h', toks := tk } := ⟨h', tk, t, rfl, F, N, z, u, rfl, hz⟩
theorem news_perm {h₀ h : Heap} {L : PySem.Addr} {a b : List (PySem.Addr × Obj)} (N : News h₀ L h a) (hs : ∀ p ∈ b, p ∈ a) : News h₀ L h b := fun p hp => N p (hs p hp)
theorem text_src {elt : Expr} {x : PySem.Str} {scope : Scope} {cl : List (PySem.Str × PySem.Addr)} {Fin : Shared → List Value → List (PySem.Addr × Obj) → Prop} {r : PySem.Addr} {b : Int} {t u v t2 : Tok} {s₁ : Shared} {D l : PySem.Addr} {ws : List Value} {c : PySem.Addr} {oc : Obj} {k : Int}
    (hh : A.handled = none) (F : Fr h₀ L s₁.heap m) (N : News h₀ L s₁.heap (PenL D l ws c oc k t2)) (hne : ∀ p ∈ ([(l, listOf ws.toArray 0), (c, oc)] : List (PySem.Addr × Obj)), p.1 ≠ D) (hr : IsRange s₁.heap r 0 b 1 t u v) (hb : 0 ≤ b ∧ b ≤ 9) (hk : 0 ≤ k ∧ k ≤ 16)
    (turn : ∀ (g : Heap) (i : Int) (t2 t3 : Tok) ys I oI C oC D' m₂ h tk (E' : Value → Shared → Prop), 0 ≤ i → i ≤ 32 → LCg.NsObj oC m₂ → m₂ x = some (.int (i - k) t3) → Fr h₀ L h m →
      News h₀ L h [(D, listOf #[.ref l, .int i t2] 0), (l, listOf ws.toArray 0), (c, oc), (I, oI), (C, oC), (D', LCg.lst ys)] → (∀ p ∈ ([(l, listOf ws.toArray 0), (c, oc), (I, oI), (C, oC), (D', LCg.lst ys)] : List (PySem.Addr × Obj)), p.1 ≠ D) →
      wpAny (model prog w) A (eval elt (compEnvC scope cl C env)) (PenEnd h₀ L m { s₁ with heap := h, toks := tk } I oI C oC D' (LCg.lst ys) D l ws c oc i) E' { s₁ with heap := h, toks := tk })
    (fin : ∀ (g : Heap) (i : Int) (t2 : Tok) ys zs, 0 ≤ i → i ≤ 32 → StrsAre ys zs → zs.length ≤ 9 → (∀ z ∈ zs, z ∈ atoms) → Fin { s₁ with heap := g } ys (PenL D l ws c oc i t2)) :
    LCg.CompSrc prog w A h₀ L m env elt x scope cl Fin (.ref r) s₁ := by
  refine LCg.CompSrc.range (n := b.toNat) hh F N hr (PySem.small_one (by omega) (by omega) (by omega) (by omega)) (by rw [rangeSize_nat, Int.sub_zero]) (by rw [sizeLine_eq]; omega) ?_
  intro g
  refine rest_inv (fun i ys nx => ∃ t2 zs, nx = PenL D l ws c oc (k + i) t2 ∧ StrsAre ys zs ∧ zs.length = i ∧ ∀ z ∈ zs, z ∈ atoms) ⟨t2, [], by simp, .nil, rfl, fun _ h => nomatch h⟩ ?_ ?_
  · rintro i ys nx v I oI C oC D' m₂ h tk E' hi ⟨t2, zs, rfl, hz, hl, ha⟩ ⟨t3, rfl⟩ hC hx F' N' off ne
    have o := off.mem
    have hne' : ∀ p ∈ ([(l, listOf ws.toArray 0), (c, oc), (I, oI), (C, oC), (D', LCg.lst ys)] : List (PySem.Addr × Obj)), p.1 ≠ D := by
      have oD := o _ List.mem_cons_self
      intro p hp
      rcases List.mem_cons.mp hp with rfl | hp
      · exact hne _ List.mem_cons_self
      rcases List.mem_cons.mp hp with rfl | hp
      · exact hne _ (List.mem_cons_of_mem _ List.mem_cons_self)
      rcases List.mem_cons.mp hp with rfl | hp
      · exact Ne.symm oD.1
      rcases List.mem_cons.mp hp with rfl | hp
      · exact Ne.symm oD.2.1
      obtain rfl := List.mem_singleton.mp hp
      exact Ne.symm oD.2.2
    refine wpAny_mono (turn g (k + i) t2 t3 ys I oI C oC D' m₂ h tk E' (by omega) (by omega) hC (by rw [hx]; congr 2; omega) F' (news_perm N' fun p hp => ?_) hne') (fun y s₂ hq => ?_) fun _ _ e => e
    · simp only [List.mem_cons, List.not_mem_nil, or_false] at hp ⊢
      rcases hp with h | h | h | h | h | h <;> simp [h]
    · obtain ⟨h', tk', t, rfl, F'', N'', z, u, rfl, hz'⟩ := hq
      refine LCg.CompEnd.intro F'' N'' (PenL D l ws c oc (k + i + 1) t) (fun p hp => ?_) ?_ True.intro ⟨t, zs ++ [z], by simp [Int.add_assoc], hz.append' (.cons z u .nil), by simp [hl], ?_⟩
      · simp only [List.mem_cons, List.not_mem_nil, or_false] at hp ⊢
        rcases hp with h | h | h | h | h | h <;> simp [h]
      · exact LCg.Off3.of fun p hp => by
          rcases List.mem_cons.mp hp with rfl | hp
          · have oD := o _ List.mem_cons_self
            exact oD
          · exact o _ (List.mem_cons_of_mem _ hp)
      · intro z' h'
        rcases List.mem_append.mp h' with h' | h'
        · exact ha z' h'
        · rw [List.mem_singleton.mp h']; exact hz'
  · rintro ys nx ⟨t2, zs, rfl, hz, hl, ha⟩
    exact fin g _ t2 ys zs (by omega) (by omega) hz (by omega) ha
end
theorem atoms_at (v : Int) : atoms.getD (v.fmod 25).toNat PySem.Str.empty ∈ atoms := by
  have h1 := fmod_lo v (n := 25) (by decide)
  have h2 := fmod_hi v (n := 25) (by decide)
  have h3 : (v.fmod 25).toNat < atoms.length := by
    have : atoms.length = 25 := rfl
    omega
  rw [List.getD_eq_getElem?_getD, List.getElem?_eq_getElem h3]
  exact List.getElem_mem h3
/-- the signs that the law's text is made of -/
def okS : List Nat := [48, 49, 50, 55, 56, 57, 97, 70, 95, 120, 88, 98, 66, 111, 32, 9, 103, 233, 45, 90, 122, 10]
def TextOk (x : PySem.Str) : Prop := x.length ≤ 64 ∧ ∀ c ∈ x.cps.toList, c ∈ okS
theorem atoms_len : ∀ z ∈ atoms, z.length ≤ 2 := by decide +kernel
theorem atoms_ok : ∀ z ∈ atoms, ∀ c ∈ z.cps.toList, c ∈ okS := by decide +kernel
theorem flat_len {zs : List PySem.Str} {n : Nat} (h : ∀ z ∈ zs, z.length ≤ n) : (flat zs).length ≤ n * zs.length := by
  induction zs with
  | nil => exact Nat.zero_le _
  | cons z r ih =>
    rw [flat_cons, PySem.Str.length_append, List.length_cons, Nat.mul_succ]
    have a := h z List.mem_cons_self
    have b := ih fun y hy => h y (List.mem_cons_of_mem _ hy)
    omega
theorem text_ok {zs : List PySem.Str} (hl : zs.length ≤ 9) (h : ∀ z ∈ zs, z ∈ atoms) : TextOk (flat zs) := by
  refine ⟨?_, fun c hc => ?_⟩
  · have := flat_len (zs := zs) (n := 2) fun z hz => atoms_len z (h z hz)
    omega
  · simp only [flat, List.mem_flatMap] at hc
    obtain ⟨z, hz, hc⟩ := hc
    exact atoms_ok z (h z hz) c hc
theorem text_parts {zs : List PySem.Str} (hl : zs.length ≤ 9) (h : ∀ z ∈ zs, z ∈ atoms) : (∀ a ∈ zs, a.length ≤ 8) ∧ zs.length ≤ 4096 :=
  ⟨fun a ha => Nat.le_trans (atoms_len a (h a ha)) (by decide), by omega⟩
end
section
/-! the contracts as the law asks them: both readings by one word -/
theorem width_ok (v : Int) : 4 ≤ 4 + v.fmod 61 ∧ 4 + v.fmod 61 ≤ 64 := by
  have h1 := fmod_lo v (n := 61) (by decide)
  have h2 := fmod_hi v (n := 61) (by decide)
  omega
theorem okS_ws : ∀ c ∈ okS, isWs c = isWs3 c := by decide +kernel
section
variable {w : World} {mean : ExcName → Option Value} {mg mb : SV → Option Value} {x : Str} {t : Tok} {v : Int} {tw : Tok}
theorem hexL_ok (hx : TextOk x) : FnOk w mean mg mb 133 4 [.str x t, .int (4 + v.fmod 61) tw] (fun t => .int (hexV (4 + v.fmod 61).toNat x.cps.toList) t) :=
  hex_ok _ _ _ _ _ _ _ _ hx.1 (width_ok v)
theorem octL_ok (hx : TextOk x) : FnOk w mean mg mb 140 4 [.str x t, .int (4 + v.fmod 61) tw] (fun t => .int (octV (4 + v.fmod 61).toNat x.cps.toList) t) :=
  oct_ok _ _ _ _ _ _ _ _ hx.1 (width_ok v)
theorem lhexL_ok (hx : TextOk x) : FnOk w mean mg mb 181 3 [.str x t, .int (4 + v.fmod 61) tw] (fun t => .int (hexV (4 + v.fmod 61).toNat x.cps.toList) t) := by
  rw [hex_law (by have := width_ok v; omega)]
  exact lhex_ok _ _ _ _ _ _ _ _ hx.1 (width_ok v)
theorem loctL_ok (hx : TextOk x) : FnOk w mean mg mb 188 3 [.str x t, .int (4 + v.fmod 61) tw] (fun t => .int (octV (4 + v.fmod 61).toNat x.cps.toList) t) := by
  rw [oct_law (by have := width_ok v; omega) _ fun c hc => okS_ws c (hx.2 c hc)]
  exact loct_ok _ _ _ _ _ _ _ _ hx.1 (width_ok v)
end
end
section
open PySem.Spec PySem.Calls
theorem news_tail {h₀ h : Heap} {L : PySem.Addr} {q : PySem.Addr × Obj} {a : List (PySem.Addr × Obj)} (N : News h₀ L h (q :: a)) : News h₀ L h a := fun p hp => N p (List.mem_cons_of_mem _ hp)
theorem text_size {x : PySem.Str} (h : TextOk x) : x.cps.size ≤ sizeLine := Nat.le_trans h.1 (by rw [sizeLine_eq]; decide)
abbrev greats (x : PySem.Str) : List PySem.Str := x.cps.toList.map fun c => ⟨#[greatC c]⟩
abbrev smalls (x : PySem.Str) : List PySem.Str := x.cps.toList.map fun c => ⟨#[smallC c]⟩
abbrev guards (x : PySem.Str) : List PySem.Str := x.cps.toList.map quoteC
theorem flat_one (z : PySem.Str) : flat [z] = z := by
  rw [flat_cons, flat_nil]
  refine PySem.Str.ext' (Array.toList_inj.mp ?_)
  rw [PySem.Str.cps_append, Array.toList_append]; simp
theorem first_law (f : Nat → Nat) (x : PySem.Str) : flat ((x.cps.toList.map fun c => (⟨#[f c]⟩ : PySem.Str)).take 1) ++ Txt.slice x (some 1) none = firstBy f x := by
  rw [sl_sn x (by decide)]
  unfold firstBy
  cases x.cps.toList with
  | nil => rfl
  | cons c r =>
    show flat [⟨#[f c]⟩] ++ _ = _
    rw [flat_one]
    exact cons_app (f c) r
theorem strs_take : ∀ {ys : List Value} {zs : List PySem.Str} (n : Nat), StrsAre ys zs → StrsAre (ys.take n) (zs.take n)
  | _, _, 0, _ => .nil
  | _, _, _ + 1, .nil => .nil
  | _, _, n + 1, .cons z t h => .cons z t (strs_take n h)
section
variable {prog : Program} {w : World} {A : Around} {E : Value → Shared → Prop} {s : Shared} {h₀ : Heap} {L D : PySem.Addr} {m : PySem.Str → Option Value} {news : List (PySem.Addr × Obj)} {ys : List Value} {zs : List PySem.Str} {x : PySem.Str} {t u : Tok} {Q : Value → Shared → Prop}
theorem join_great (hl : s.heap.IsList D ys.toArray) (hz : StrsAre ys (greats x)) (hx : TextOk x) (h : ∀ t' k, Q (.str (great x) t') { s with toks := k }) : wpAny (model prog w) A (call (.builtin "str.join") [.str (Str.ofString "") t, .ref D]) Q E s := by
  refine join_S hl hz (fun a ha => ?_) ?_ fun t' k => by rw [flat_great]; exact h t' k
  · simp only [greats, List.mem_map] at ha
    obtain ⟨c, _, rfl⟩ := ha
    exact Nat.le_of_ble_eq_true rfl
  · rw [List.length_map, Array.length_toList]; exact Nat.le_trans hx.1 (by decide)
theorem join_small (hl : s.heap.IsList D ys.toArray) (hz : StrsAre ys (smalls x)) (hx : TextOk x) (h : ∀ t' k, Q (.str (small x) t') { s with toks := k }) : wpAny (model prog w) A (call (.builtin "str.join") [.str (Str.ofString "") t, .ref D]) Q E s := by
  refine join_S hl hz (fun a ha => ?_) ?_ fun t' k => by rw [flat_small]; exact h t' k
  · simp only [smalls, List.mem_map] at ha
    obtain ⟨c, _, rfl⟩ := ha
    exact Nat.le_of_ble_eq_true rfl
  · rw [List.length_map, Array.length_toList]; exact Nat.le_trans hx.1 (by decide)
theorem join_guard (hl : s.heap.IsList D ys.toArray) (hz : StrsAre ys (guards x)) (hx : TextOk x) (h : ∀ t' k, Q (.str (quoteS x) t') { s with toks := k }) : wpAny (model prog w) A (call (.builtin "str.join") [.str (Str.ofString "") t, .ref D]) Q E s := by
  refine join_S hl hz (fun a ha => ?_) ?_ fun t' k => h t' k
  · simp only [guards, List.mem_map] at ha
    obtain ⟨c, _, rfl⟩ := ha
    exact Nat.le_trans (quoteC_len c) (by decide)
  · rw [List.length_map, Array.length_toList]; exact Nat.le_trans hx.1 (by decide)
/-- the first of the turned signs, if there is one -/
def First (f : Nat → Nat) (x : PySem.Str) (ws : List Value) : Prop := StrsAre ws ((x.cps.toList.map fun c => (⟨#[f c]⟩ : PySem.Str)).take 1)
def firstS (f : Nat → Nat) (x : PySem.Str) : PySem.Str := flat ((x.cps.toList.map fun c => (⟨#[f c]⟩ : PySem.Str)).take 1)
theorem firstS_len (f : Nat → Nat) (x : PySem.Str) : (firstS f x).length ≤ 1 := by
  unfold firstS
  cases x.cps.toList with
  | nil => exact Nat.zero_le _
  | cons c r =>
    show (flat [⟨#[f c]⟩]).length ≤ 1
    rw [flat_one]; exact Nat.le_refl _
theorem slice_first (f : Nat → Nat) {value slice : PySem.Expr} {l : PySem.Addr} {vl vu : Value} (F : Fr h₀ L s.heap m) (N : News h₀ L s.heap news) (hl : s.heap.IsList l ys.toArray) (pl : IsPart vl none) (pu : IsPart vu (some 1))
    (hz : StrsAre ys (x.cps.toList.map fun c => (⟨#[f c]⟩ : PySem.Str))) (hx : TextOk x)
    (h : ∀ D ws h', Fr h₀ L h' m → News h₀ L h' ((D, listOf (List.toArray ws) 0) :: news) → First f x ws → Q (.ref D) { s with heap := h' })
    (hs : subscripted slice false (.ref l) (.ref s.heap.objs.size) = operate [.ref s.heap.objs.size, .ref l] (getItem (.ref l) (.ref s.heap.objs.size))) (ht : ∀ r, letTemporaryGo value (.ref l) r = pure ()) :
    wpAny (model prog w) A (subscriptTail value slice (.ref l) (.ref s.heap.objs.size)) Q E { s with heap := s.heap.push { cls := .type "slice", data := .fields #[vl, vu, .none] } } := by
  have hlen : ys.length = x.length := by
    have := hz.length
    rw [this, List.length_map, Array.length_toList]; rfl
  have hx1 := hx.1
  refine kmk_slice F N hl pl pu (fun D h' F' N' l1 => h D (ys.take 1) h' F' ?_ (strs_take 1 hz)) hs ht (by rw [List.size_toArray, hlen, sizeLine_eq]; omega)
  have e : sliceBounds none (some 1) none ys.toArray.size = (((0 : Nat) : Int), ((min 1 ys.toArray.size : Nat) : Int), 1) := by
    simp only [sliceBounds, Option.getD_none, show (1 : Int) > 0 by decide, if_true, if_neg (show ¬ ((1 : Int) < 0) by decide)]
    congr 1
    congr 1
    omega
  rw [kmk_pick_nat _ e] at N'
  have e2 : (ys.toArray.toList.drop 0).take (min 1 ys.toArray.size - 0) = ys.take 1 := by
    show (ys.drop 0).take _ = _
    rw [List.drop_zero, Nat.sub_zero, List.size_toArray, kmk_take_min]
  rw [e2] at N'
  exact N'
theorem join_first (f : Nat → Nat) (hl : s.heap.IsList D ys.toArray) (hz : First f x ys) (h : ∀ t' k, Q (.str (firstS f x) t') { s with toks := k }) : wpAny (model prog w) A (call (.builtin "str.join") [.str (Str.ofString "") t, .ref D]) Q E s := by
  refine join_S hl hz (fun a ha => ?_) ?_ fun t' k => h t' k
  · have ha := List.mem_of_mem_take ha
    simp only [List.mem_map] at ha
    obtain ⟨c, _, rfl⟩ := ha
    exact Nat.le_of_ble_eq_true rfl
  · rw [List.length_take]; omega
theorem add_first (f : Nat → Nat) (hx : TextOk x) (h : ∀ t' k, Q (.str (firstBy f x) t') { s with toks := k }) : wpAny (model prog w) A (binaryOp .Add (.str (firstS f x) t) (.str (Txt.slice x (some 1) none) u)) Q E s := by
  refine SBL.add (hsz := ?hsz) ?hq
  case hsz =>
    have h1 := firstS_len f x
    have h2 := Txt.slice_le x (some 1) none
    have h3 := hx.1
    rw [sizeLine_eq]; omega
  case hq =>
    intro t' k _
    have e : firstS f x ++ Txt.slice x (some 1) none = firstBy f x := first_law f x
    rw [e]; exact h t' k
end
/-! the guarded signs -/
abbrev plainS : PySem.Str := Str.ofString "aAbBcCdDeEfFgGhHiIjJkKlLmMnNoOpPqQrRsStTuUvVwWxXyYzZ" ++ Str.ofString "0123456789_é"
theorem guard_in {x : PySem.Str} {c : Nat} (hx : TextOk x) (hc : c ∈ x.cps.toList) (h : c ∈ plainS.cps.toList) : quoteC c = ⟨#[c]⟩ := by
  have := (by decide +kernel : ∀ c ∈ okS, c ∈ plainS.cps.toList → nameC c = true ∨ 128 ≤ c) c (hx.2 c hc) h
  exact if_pos this
theorem guard_out {x : PySem.Str} {c : Nat} (hx : TextOk x) (hc : c ∈ x.cps.toList) (h : c ∉ plainS.cps.toList) : quoteC c = ⟨#[92, c]⟩ := by
  have := (by decide +kernel : ∀ c ∈ okS, c ∉ plainS.cps.toList → ¬ (nameC c = true ∨ 128 ≤ c)) c (hx.2 c hc) h
  exact if_neg this
theorem guard_yes {x : PySem.Str} {c : Nat} {nx : List (PySem.Addr × Obj)} {t : Tok} (h : (Builtin.Str.occurrences plainS ⟨#[c]⟩ 0 plainS.length 1).isEmpty = false) (hx : TextOk x) (hc : c ∈ x.cps.toList) : SignEl nx (quoteC c) (.str ⟨#[c]⟩ t) nx := by
  refine ⟨rfl, t, ?_⟩
  have e := StrLaws.found_one plainS c
  rw [h] at e
  rw [guard_in hx hc (of_decide_eq_true e.symm)]
theorem guard_no {x : PySem.Str} {c : Nat} {nx : List (PySem.Addr × Obj)} {t : Tok} (h : (Builtin.Str.occurrences plainS ⟨#[c]⟩ 0 plainS.length 1).isEmpty = true) (hx : TextOk x) (hc : c ∈ x.cps.toList) : SignEl nx (quoteC c) (.str (Str.ofString "\\" ++ ⟨#[c]⟩) t) nx := by
  refine ⟨rfl, t, ?_⟩
  have e := StrLaws.found_one plainS c
  rw [h] at e
  rw [guard_out hx hc (of_decide_eq_false e.symm)]
  congr 1
end
section
/-- the law's sign, in its two ways -/
theorem sign_use (w : World) (mean : ExcName → Option Value) (mg mb : SV → Option Value) (n : Int) (t : Tok) (cn : Str) (cs : Scope) (a : Ad) (ccd : Value) (cl : List (Str × Ad)) (h₀ : Heap) (L : Ad) (m : Str → Option Value) (news : List (Ad × Obj)) (s : Shared) (Q E : Value → Shared → Prop)
    (B : Below callerA h₀ [] h₀) (F : Fr h₀ L s.heap m) (X : (hd.heap_39 w.params).In h₀) (N : News h₀ L s.heap news) (T : Top theView Loo mean mg mb h₀) (hk : cs.kind = .function)
    (h1 : 1114111 < n → ∀ h' tk', Fr h₀ L h' m → News h₀ L h' news → Q .none { s with heap := h', toks := tk' })
    (h2 : ¬ 1114111 < n → ∀ (c : Nat) t h' tk', (0 ≤ n → (c : Int) = n) → (n < 0 → (c : Int) = 65533) → Fr h₀ L h' m → News h₀ L h' news → Q (.str ⟨#[c]⟩ t) { s with heap := h', toks := tk' }) :
    wpAny (model PySem.Challenge.rw_nz0178_01.row.prog w) (callerA.deeper (envX cn cs L a ccd cl)) (call (.ref 195) [.int n t]) Q E s := by
  refine sign_ok w mean mg mb n t cn cs a ccd cl h₀ L m news s Q E B F X N T hk ?_
  intro t' h' tk' F' N'
  unfold signV
  by_cases hn : 1114111 < n
  · show Q (if n > 1114111 then Value.none else _) _
    rw [if_pos hn]; exact h1 hn h' tk' F' N'
  · show Q (if n > 1114111 then Value.none else _) _
    rw [if_neg hn]
    refine h2 hn _ t' h' tk' (fun h => ?_) (fun h => ?_) F' N'
    · rw [if_neg (by omega)]; omega
    · rw [if_pos h]; rfl
section
variable {w : World} {mean : ExcName → Option Value} {mg mb : SV → Option Value} {x : Str} {t : Tok}
theorem ord_front {c : Nat} (hx : x.length ≤ 64) : FnOk w mean mg mb 105 1 [.str (⟨#[c]⟩ ++ x) t] (fun t => .int (c : Int) t) := by
  have h := ord_ok w mean mg mb (⟨#[c]⟩ ++ x) t (by rw [Str.length_append]; show 1 + x.length ≤ 4096; omega)
  have e : ordOf (⟨#[c]⟩ ++ x) = (c : Int) := by
    unfold ordOf
    rw [Str.cps_append, Array.toList_append]; rfl
  rw [e] at h; exact h
theorem ord_none : FnOk w mean mg mb 105 1 [.str (Str.ofString "") t] (fun t => .int 0 t) := ord_ok w mean mg mb (Str.ofString "") t (by decide)
end
theorem five_ints {a b c d e : Int} {ta tb tc td te : Tok} {i : Nat} {v : Value} (h : [Value.int a ta, Value.int b tb, Value.int c tc, Value.int d td, Value.int e te][i]? = some v) : ∃ n t, v = .int n t := by
  match i, h with
  | 0, h => cases h; exact ⟨_, _, rfl⟩
  | 1, h => cases h; exact ⟨_, _, rfl⟩
  | 2, h => cases h; exact ⟨_, _, rfl⟩
  | 3, h => cases h; exact ⟨_, _, rfl⟩
  | 4, h => cases h; exact ⟨_, _, rfl⟩
  | n + 5, h => cases h
theorem ord_same {x : Str} (h : (x != Str.ofString "") = true) : (ordOf x == (((Txt.item x 0).cps.getD 0 0 : Nat) : Int)) = true := by
  rw [bne, Bool.not_eq_true'] at h
  obtain ⟨c, r, rfl⟩ := (ne_nil_iff x).mp h
  rw [item_zero]
  exact beq_self_eq_true _
end
section
theorem pen_ints {ws : List Value} {s : List Int} (h : IntsAre ws (List.take 24 s ++ List.drop ((List.take 24 s).length : Int).toNat [5, 3, 0, 15, 10, 12, 1, 8])) : ∃ ns, IntsAre ws ns ∧ 8 ≤ ns.length ∧ ns.length ≤ 64 := by
  refine ⟨_, h, ?_, ?_⟩
  · simp only [List.length_append, List.length_drop, List.length_cons, List.length_nil, Int.toNat_natCast]; omega
  · simp only [List.length_append, List.length_drop, List.length_cons, List.length_nil, Int.toNat_natCast, List.length_take]; omega
theorem three_of {h₀ h : Heap} {L : Ad} {D l c : Nat} {o ol oc : Obj} {r : List (Ad × Obj)} (N : News h₀ L h ((D, o) :: (l, ol) :: r)) (hc : (c, oc) ∈ r) (h1 : l < D) (h2 : c < D) :
    News h₀ L h [(D, o), (l, ol), (c, oc)] ∧ ∀ p ∈ ([(l, ol), (c, oc)] : List (Ad × Obj)), p.1 ≠ D := by
  refine ⟨fun p hp => N p ?_, fun p hp => ?_⟩
  · rcases List.mem_cons.mp hp with rfl | hp
    · exact List.Mem.head _
    rcases List.mem_cons.mp hp with rfl | hp
    · exact List.Mem.tail _ (List.Mem.head _)
    · obtain rfl := List.mem_singleton.mp hp
      exact List.Mem.tail _ (List.Mem.tail _ hc)
  · rcases List.mem_cons.mp hp with rfl | hp
    · exact Nat.ne_of_lt h1
    · obtain rfl := List.mem_singleton.mp hp
      exact Nat.ne_of_lt h2


set_option maxHeartbeats 8000000 in
theorem X : PySem.Challenge.rw_nz0178_01.Holds := hd (by
  k_with_none
  w_top off
  k_with "call builtin:len" => safely (k_here; (with_reducible show wpAny _ _ (call (Value.builtin "len") [Value.ref _]) _ _ _); k_dflt (refine' PyProof.Rows.len_list (News.isList (by k_asm) (by k_mem)) (by (simp only [List.size_toArray]; omega)) ?_))
  k_with "subscriptTail Name Slice ref ref" => safely (k_here; (with_reducible show wpAny _ _ (subscriptTail _ (PySem.Expr.Slice _ _ none _) (Value.ref _) (Value.ref _)) _ _ _); k_dflt ((with_reducible refine' kmk_slice_ints (by k_dflt (k_asm)) (by k_dflt (k_asm)) (by k_dflt (kmk_list)) (by k_dflt (kmk_part)) (by k_dflt (kmk_part)) (by k_dflt (l_ints)) (by k_dflt ((first | (with_reducible exact kmk_upto (by l_ints) (by decide)) | (with_reducible exact kmk_from (by l_ints) (Int.natCast_nonneg _))))) (by k_dflt (kmk_len)) ?_ (by k_dflt ((with_unfolding_all rfl))) (by k_dflt (kmk_pure)) (by k_dflt (kmk_size)))); intro D' ws' h' F' N' l1 hI' hC' hL'; (try simp only [Int.reduceNeg, Int.neg_neg, Int.reduceToNat] at hI' hC' hL'); (try k_lt l1); (try k_sweep))
  k_with "call ref" => safely (k_here; (with_reducible show wpAny _ _ (call (Value.ref 155) [Value.ref _]) _ _ _); k_dflt (refine' draw_ok _ _ _ _ _ _ _ _ _ _ _ _ _ _ _ _ _ _ _ _ _ _ _ _ _ _ _ _ (by k_asm) (by k_asm) (by k_asm) (by k_asm) (by assumption) (by assumption) (by assumption) (by assumption) (by omega) (by omega) (by k_asm) (by exact rfl) (by k_room) (by k_units) ?_; k_whole; intro v9 t9 t9' h9 tk9 F9 N9; (try k_sweep); (try dsimp only); (try k_fold)))
  k_with "eval ListComp" => safely (k_here; k_dflt (refine LCg.ListComp_U (F₀ := by k_asm) (by with_unfolding_all rfl) (by decide) (by rfl) (by decide) (by rfl) ?_))
  k_with "PenEnd" => safely (refine PenEnd.intro (by assumption) (by assumption) ?_)
  k_with "exec Assign cons ListComp" => safely (k_here; k_dflt (refine Assign_ListComp_S (F₀ := by k_asm) (by rfl) (by with_unfolding_all rfl) (by with_unfolding_all rfl) (by decide) (by rfl) (by decide) (by rfl) (by rfl) (by rfl) ?_))
  k_with "CompEnd" => safely (refine LCg.CompEnd.intro (by assumption) (by assumption) _ (fun p hp => hp) (by assumption) True.intro ?_)
  k_with "call builtin:str.join" => safely (k_here; k_dflt (first | (refine' join_great (News.isList (by k_asm) (by k_mem)) (by with_reducible assumption) (by assumption) ?_) | (refine' join_small (News.isList (by k_asm) (by k_mem)) (by with_reducible assumption) (by assumption) ?_) | (refine' join_guard (News.isList (by k_asm) (by k_mem)) (by with_reducible assumption) (by assumption) ?_) | (refine' join_first greatC (x := _) (News.isList (by k_asm) (by k_mem)) (by with_reducible assumption) ?_) | (refine' join_first smallC (x := _) (News.isList (by k_asm) (by k_mem)) (by with_reducible assumption) ?_)); intro _ _)
  k_with "subscriptTail Name Slice ref ref" => safely (k_here; (with_reducible show wpAny _ _ (subscriptTail _ (PySem.Expr.Slice _ _ none _) (Value.ref _) (Value.ref _)) _ _ _); k_dflt (first | (refine' slice_first greatC (by k_asm) (by k_asm) (News.isList (by k_asm) (by k_mem)) (by kmk_part) (by kmk_part) (by with_reducible assumption) (by assumption) ?_ (by (with_unfolding_all rfl)) (by kmk_pure)) | (refine' slice_first smallC (by k_asm) (by k_asm) (News.isList (by k_asm) (by k_mem)) (by kmk_part) (by kmk_part) (by with_reducible assumption) (by assumption) ?_ (by (with_unfolding_all rfl)) (by kmk_pure))); intro D' ws' h' F' N' hI'; (try k_sweep))
  k_with "binaryOp Add str str" => safely (k_here; k_dflt (first | (with_reducible refine add_first greatC (by assumption) ?_) | (with_reducible refine add_first smallC (by assumption) ?_)); intro _ _)
  k_with "call ref" => safely (k_here; (with_reducible show wpAny _ _ (call (Value.ref 133) [Value.str _ _, Value.int _ _]) _ _ _); k_dflt (refine' fn_use (hexL_ok (by assumption)) (by k_asm) (by k_asm) (by k_asm) (by k_asm) (by k_asm) (by first | exact rfl | assumption) (by ktr_room) (by ktr_units) ?_; k_whole; intro t9 h9 tk9 F9 N9; (try k_sweep); (try dsimp only); (try k_fold)))
  k_with "call ref" => safely (k_here; (with_reducible show wpAny _ _ (call (Value.ref 140) [Value.str _ _, Value.int _ _]) _ _ _); k_dflt (refine' fn_use (octL_ok (by assumption)) (by k_asm) (by k_asm) (by k_asm) (by k_asm) (by k_asm) (by first | exact rfl | assumption) (by ktr_room) (by ktr_units) ?_; k_whole; intro t9 h9 tk9 F9 N9; (try k_sweep); (try dsimp only); (try k_fold)))
  k_with "call ref" => safely (k_here; (with_reducible show wpAny _ _ (call (Value.ref 181) [Value.str _ _, Value.int _ _]) _ _ _); k_dflt (refine' fn_use (lhexL_ok (by assumption)) (by k_asm) (by k_asm) (by k_asm) (by k_asm) (by k_asm) (by first | exact rfl | assumption) (by ktr_room) (by ktr_units) ?_; k_whole; intro t9 h9 tk9 F9 N9; (try k_sweep); (try dsimp only); (try k_fold)))
  k_with "call ref" => safely (k_here; (with_reducible show wpAny _ _ (call (Value.ref 188) [Value.str _ _, Value.int _ _]) _ _ _); k_dflt (refine' fn_use (loctL_ok (by assumption)) (by k_asm) (by k_asm) (by k_asm) (by k_asm) (by k_asm) (by first | exact rfl | assumption) (by ktr_room) (by ktr_units) ?_; k_whole; intro t9 h9 tk9 F9 N9; (try k_sweep); (try dsimp only); (try k_fold)))
  k_with "call ref" => safely (k_here; (with_reducible show wpAny _ _ (call (Value.ref 162) [Value.str _ _, Value.bool true]) _ _ _); k_dflt (refine' fn_use (otherT_ok _ _ _ _ _ _ (by first | assumption | exact rfl | omega)) (by k_asm) (by k_asm) (by k_asm) (by k_asm) (by k_asm) (by first | exact rfl | assumption) (by ktr_room) (by ktr_units) ?_; k_whole; intro t9 h9 tk9 F9 N9; (try k_sweep); (try dsimp only); (try k_fold)))
  k_with "call ref" => safely (k_here; (with_reducible show wpAny _ _ (call (Value.ref 162) [Value.str _ _, Value.bool false]) _ _ _); k_dflt (refine' fn_use (otherF_ok _ _ _ _ _ _ (by first | assumption | exact rfl | omega)) (by k_asm) (by k_asm) (by k_asm) (by k_asm) (by k_asm) (by first | exact rfl | assumption) (by ktr_room) (by ktr_units) ?_; k_whole; intro t9 h9 tk9 F9 N9; (try k_sweep); (try dsimp only); (try k_fold)))
  k_with "call ref" => safely (k_here; (with_reducible show wpAny _ _ (call (Value.ref 72) [Value.str _ _]) _ _ _); k_dflt (refine' fn_use (uc_ok _ _ _ _ _ _ (by first | assumption | exact rfl | omega)) (by k_asm) (by k_asm) (by k_asm) (by k_asm) (by k_asm) (by first | exact rfl | assumption) (by ktr_room) (by ktr_units) ?_; k_whole; intro t9 h9 tk9 F9 N9; (try k_sweep); (try dsimp only); (try k_fold)))
  k_with "call ref" => safely (k_here; (with_reducible show wpAny _ _ (call (Value.ref 77) [Value.str _ _]) _ _ _); k_dflt (refine' fn_use (lc_ok _ _ _ _ _ _ (by first | assumption | exact rfl | omega | exact Nat.le_trans (Txt.slice_le _ _ _) (by omega))) (by k_asm) (by k_asm) (by k_asm) (by k_asm) (by k_asm) (by first | exact rfl | assumption) (by ktr_room) (by ktr_units) ?_; k_whole; intro t9 h9 tk9 F9 N9; (try k_sweep); (try dsimp only); (try k_fold)))
  k_with "call ref" => safely (k_here; (with_reducible show wpAny _ _ (call (Value.ref 84) [Value.str _ _]) _ _ _); k_dflt (refine' fn_use (ucfirst_ok _ _ _ _ _ _ (by first | assumption | exact rfl | omega)) (by k_asm) (by k_asm) (by k_asm) (by k_asm) (by k_asm) (by first | exact rfl | assumption) (by ktr_room) (by ktr_units) ?_; k_whole; intro t9 h9 tk9 F9 N9; (try k_sweep); (try dsimp only); (try k_fold)))
  k_with "call ref" => safely (k_here; (with_reducible show wpAny _ _ (call (Value.ref 91) [Value.str _ _]) _ _ _); k_dflt (refine' fn_use (lcfirst_ok _ _ _ _ _ _ (by first | assumption | exact rfl | omega)) (by k_asm) (by k_asm) (by k_asm) (by k_asm) (by k_asm) (by first | exact rfl | assumption) (by ktr_room) (by ktr_units) ?_; k_whole; intro t9 h9 tk9 F9 N9; (try k_sweep); (try dsimp only); (try k_fold)))
  k_with "call ref" => safely (k_here; (with_reducible show wpAny _ _ (call (Value.ref 98) [Value.str _ _]) _ _ _); k_dflt (refine' fn_use (quote_ok _ _ _ _ _ _ (by first | assumption | exact rfl | omega)) (by k_asm) (by k_asm) (by k_asm) (by k_asm) (by k_asm) (by first | exact rfl | assumption) (by ktr_room) (by ktr_units) ?_; k_whole; intro t9 h9 tk9 F9 N9; (try k_sweep); (try dsimp only); (try k_fold)))
  k_with "call ref" => safely (k_here; (with_reducible show wpAny _ _ (call (Value.ref 105) [Value.str _ _]) _ _ _); k_dflt (refine' fn_use (ord_ok _ _ _ _ _ _ (by first | assumption | exact rfl | omega)) (by k_asm) (by k_asm) (by k_asm) (by k_asm) (by k_asm) (by first | exact rfl | assumption) (by ktr_room) (by ktr_units) ?_; k_whole; intro t9 h9 tk9 F9 N9; (try k_sweep); (try dsimp only); (try k_fold)))
  k_with "call ref" => safely (k_here; (with_reducible show wpAny _ _ (call (Value.ref 105) [Value.str (_ ++ _) _]) _ _ _); k_dflt (refine' fn_use (ord_front (by assumption)) (by k_asm) (by k_asm) (by k_asm) (by k_asm) (by k_asm) (by first | exact rfl | assumption) (by ktr_room) (by ktr_units) ?_; k_whole; intro t9 h9 tk9 F9 N9; (try k_sweep); (try dsimp only); (try k_fold)))
  k_with "call ref" => safely (k_here; (with_reducible show wpAny _ _ (call (Value.ref 105) [Value.str (Str.ofString "") _]) _ _ _); k_dflt (refine' fn_use (ord_none) (by k_asm) (by k_asm) (by k_asm) (by k_asm) (by k_asm) (by first | exact rfl | assumption) (by ktr_room) (by ktr_units) ?_; k_whole; intro t9 h9 tk9 F9 N9; (try k_sweep); (try dsimp only); (try k_fold)))
  k_with "call ref" => safely (k_here; (with_reducible show wpAny _ _ (call (Value.ref 195) [Value.int _ _]) _ _ _); k_dflt (refine' sign_use _ _ _ _ _ _ _ _ _ _ _ _ _ _ _ _ _ _ (by k_asm) (by k_asm) (by k_asm) (by k_asm) (by k_asm) (by exact rfl) (fun c9 h9 tk9 F9 N9 => ?_) (fun c9 n9 t9 h9 tk9 p9 q9 F9 N9 => ?_)); all_goals ((try k_sweep); (try dsimp only); (try k_fold)))
  k_with "TupPost" => safely (dsimp only [TupPost])
  k_with "TupEnd" => safely (refine TupEnd.intro (by assumption) (by assumption) (fun p hp => hp) ?_ True.intro; (intro z hz; (simp only [List.contains_cons, List.contains_nil, Bool.or_false, Bool.or_eq_false_iff, beq_eq_false_iff_ne, ne_eq] at hz); simp [hz]))
  k_go0
  (all_goals try k_fold)
  exact by
    iterate 33 (first | (k_unfold; (try dsimp only)) | (k_end; wrow_close) | walk1 | (dsimp only; walk1) | (leave1; walk_say "STEP leave1"; try dsimp only))
    exact by
      iterate 32 (first | (k_unfold; (try dsimp only)) | (k_end; wrow_close) | walk1 | (dsimp only; walk1) | (leave1; walk_say "STEP leave1"; try dsimp only))
      rename IntsAre _ (_ ++ _) => hP
      obtain ⟨ns, hns, h8, h64⟩ := pen_ints hP
      clear hP
      rename News _ _ _ ((_, listOf #[.ref _, .int 0 _] 0) :: _) => hN
      have hN2 := three_of hN (List.mem_of_getLast? rfl) (by omega) (by omega)
      obtain ⟨hN2, hne⟩ := hN2
      clear hN
      exact by
        repeat ((fail_if_success (with_reducible show LCg.CompSrc _ _ _ _ _ _ _ _ _ _ _ _ _ _)); (first | (k_unfold; (try dsimp only)) | (k_end; wrow_close) | walk1 | (dsimp only; walk1) | (leave1; walk_say "STEP leave1"; try dsimp only)))
        refine' text_src ?hh ?F (news_perm ?N ?sub) ?hne ?hr ?hb ?hk ?turn ?fin
        (case hh => rfl)
        (case hne => assumption)
        (case F => k_asm)
        (case N => k_asm)
        (case sub => (intro p hp; first | exact hp | ((simp only [List.mem_cons, List.not_mem_nil, or_false] at hp ⊢); rcases hp with h | h | h <;> simp [h])))
        (case hr => assumption)
        (case hb => exact ⟨fmod_lo _ (by decide), Int.le_of_lt_add_one (fmod_hi _ (by decide))⟩)
        (case hk => omega)
        (case' turn => intro g' i' t2' t3' ys' I' oI' C' oC' D' m' h' tk' E' hi0' hi1' hC' hx' F' N' hne')
        (case' fin => intro g' i' t2' ys' zs' hi0' hi1' hz' hl' ha')
        case turn =>
          exact by
            k_steps
            exact atoms_at _
        case fin =>
          exact by
            k_steps
            k_here
            have hx := text_ok (by assumption) (by assumption)
            have hxp := text_parts (by assumption) (by assumption)
            refine' join_S (News.isList (by assumption) (by exact List.Mem.head _)) (by assumption) hxp.1 hxp.2 ?_
            generalize flat _ = x at hx ⊢
            intro t' k'
            exact by
              repeat ((fail_if_success (with_reducible show SrcS _ _ _ _ _ _ _ _ _ _ _ _ _ _)); (first | (k_unfold; (try dsimp only)) | (k_end; wrow_close) | walk1 | (dsimp only; walk1) | (leave1; walk_say "STEP leave1"; try dsimp only)))
              have hx64 : x.length ≤ 64 := (by assumption : TextOk x).1
              exact by
                refine SrcS.intro (by rfl) (by k_asm) (news_tail (by assumption)) (text_size (by assumption)) ?_
                intro g'
                refine signs_rest (fun c => ⟨#[greatC c]⟩) (fun ys' c' t' I' oI' C' oC' D' m' h' tk' E' hc' hC' hx' F' N' off' ne' => ?_) (fun ys' hy' => ?_)
                · exact by
                    k_steps
                    exact ⟨rfl, _, by rw [great_one]⟩
                exact by
                  repeat ((fail_if_success (with_reducible show SrcS _ _ _ _ _ _ _ _ _ _ _ _ _ _)); (first | (k_unfold; (try dsimp only)) | (k_end; wrow_close) | walk1 | (dsimp only; walk1) | (leave1; walk_say "STEP leave1"; try dsimp only)))
                  refine SrcS.intro (by rfl) (by k_asm) (by k_asm) (text_size (by assumption)) ?_
                  intro g'
                  refine signs_rest (fun c => ⟨#[smallC c]⟩) (fun ys' c' t' I' oI' C' oC' D' m' h' tk' E' hc' hC' hx' F' N' off' ne' => ?_) (fun ys' hy' => ?_)
                  · exact by
                      k_steps
                      exact ⟨rfl, _, by rw [small_one]⟩
                  exact by
                    iterate 60 (first | (k_unfold; (try dsimp only)) | (k_end; wrow_close) | walk1 | (dsimp only; walk1) | (leave1; walk_say "STEP leave1"; try dsimp only))
                    exact by
                      iterate 60 (first | (k_unfold; (try dsimp only)) | (k_end; wrow_close) | walk1 | (dsimp only; walk1) | (leave1; walk_say "STEP leave1"; try dsimp only))
                      exact by
                        repeat ((fail_if_success (with_reducible show SrcS _ _ _ _ _ _ _ _ _ _ _ _ _ _)); (first | (k_unfold; (try dsimp only)) | (k_end; wrow_close) | walk1 | (dsimp only; walk1) | (leave1; walk_say "STEP leave1"; try dsimp only)))
                        exact by
                          refine SrcS.intro (by rfl) (by k_asm) (news_tail (news_tail (news_tail (news_tail (by assumption))))) (text_size (by assumption)) ?_
                          intro g'
                          refine signs_rest quoteC (fun ys' c' t' I' oI' C' oC' D' m' h' tk' E' hc' hC' hx' F' N' off' ne' => ?_) (fun ys' hy' => ?_)
                          · exact by
                              k_steps
                              · exact guard_no (by assumption) (by assumption) hc'
                              · exact guard_yes (by assumption) (by assumption) hc'
                          exact by
                            iterate 30 (first | (k_unfold; (try dsimp only)) | (k_end; wrow_close) | walk1 | (dsimp only; walk1) | (leave1; walk_say "STEP leave1"; try dsimp only))
                            exact by
                              repeat ((fail_if_success (with_reducible show wpAny _ _ (pyIter _) _ _ _)); (first | (k_unfold; (try dsimp only)) | (k_end; wrow_close) | walk1 | (dsimp only; walk1) | (leave1; walk_say "STEP leave1"; try dsimp only)))
                              exact by
                                (rename Fr _ _ _ _ => lF); (rename News _ _ _ ((_, _) :: _) => lN)
                                refine tup_turns (vs := [_, _, _, _, _]) [Str.ofString "number", Str.ofString "sign"] (fun _ => True) (by rfl) lF lN (List.Mem.head _) rfl rfl True.intro (fun i v u I o h tk hv hP hI F' N' => ?_) (fun u h tk hP F' N' => ?_)
                                · exact by
                                    obtain ⟨n, tn, hv'⟩ := five_ints hv
                                    subst hv'
                                    clear hv
                                    (try dsimp only); (try k_fold)
                                    exact by
                                      k_steps
                                · exact by
                                    (try dsimp only); (try k_fold)
                                    exact by
                                      k_steps
                                      have e9 := ord_same (by assumption)
                                      rw [e9]
                                      exact by
                                        k_end
                                        wrow_close)
end
end Mine
set_option maxRecDepth 100000 in
set_option maxHeartbeats 8000000 in
theorem PySem.Challenge.cw_nz0178_01_holds : PySem.Challenge.rw_nz0178_01.Holds :=
  Mine.X
