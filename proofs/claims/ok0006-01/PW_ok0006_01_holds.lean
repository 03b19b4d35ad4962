import PyProof.Rows.All
import Wide.All
import OpenK.AllK
import Wide.FinOn
import PySem.Challenge.RW_ok0006_01
open PySem PySem.W PyProof.Rows PySem.Calls PySem.Spec
set_option Elab.async false
set_option maxRecDepth 100000
set_option maxHeartbeats 8000000
set_option linter.all false
namespace Mine
section
open_top hd for PySem.Challenge.rw_ok0006_01
end
section
/-- the terms of the law -/
inductive T where
  | v (i : Int)
  | c (k : Str) (i : Int)
  | s1 (t : T)
  | s2 (t u : T)

/-- the number of parts -/
def T.sz : T → Nat
  | .v _ => 1
  | .c _ _ => 1
  | .s1 t => 1 + t.sz
  | .s2 t u => 1 + (t.sz + u.sz)
/-- the depth -/
def T.ht : T → Nat
  | .v _ => 1
  | .c _ _ => 1
  | .s1 t => 1 + t.ht
  | .s2 t u => 1 + max t.ht u.ht
def T.ground : T → Bool
  | .v _ => false
  | .c _ _ => true
  | .s1 t => t.ground
  | .s2 t u => t.ground && u.ground
def T.leaves : T → List Int
  | .v i => [i]
  | .c _ _ => []
  | .s1 t => t.leaves
  | .s2 t u => t.leaves ++ u.leaves
theorem T.sz_pos : ∀ t : T, 1 ≤ t.sz
  | .v _ => Nat.le_refl _
  | .c _ _ => Nat.le_refl _
  | .s1 _ => Nat.le_add_right _ _
  | .s2 _ _ => Nat.le_add_right _ _
theorem T.leaves_le : ∀ t : T, t.leaves.length ≤ t.sz
  | .v _ => Nat.le_refl _
  | .c _ _ => Nat.zero_le _
  | .s1 t => by have := T.leaves_le t; simp only [T.leaves, T.sz]; omega
  | .s2 t u => by have := T.leaves_le t; have := T.leaves_le u; simp only [T.leaves, T.sz, List.length_append]; omega
/-- a table, its names and what stands for them -/
abbrev Tab := List (Int × T)
def T.subst (tab : Tab) : T → T
  | .v i => (tab.lookup i).getD (.v i)
  | .c k i => .c k i
  | .s1 t => .s1 (t.subst tab)
  | .s2 t u => .s2 (t.subst tab) (u.subst tab)

def Tup (h : Heap) (a : Addr) (l : List Value) : Prop := ∃ n, h.get? a = some { cls := .type "tuple", data := .seq l.toArray n }
theorem Tup.is {h : Heap} {a : Addr} {l : List Value} (x : Tup h a l) : IsTup h a l.toArray := let ⟨n, e⟩ := x; ⟨_, e, rfl, n, rfl⟩
theorem Tup.keeps {h h' : Heap} {a : Addr} {l : List Value} (x : Tup h a l) (k : ∀ b o, h.get? b = some o → h'.get? b = some o) : Tup h' a l := let ⟨n, e⟩ := x; ⟨n, k _ _ e⟩

/-- the value x stands for the term t in the heap h -/
def TIn (h : Heap) : T → Value → Prop
  | .v i, x => ∃ a tk tk', x = .ref a ∧ Tup h a [.str (Str.ofString "v") tk, .int i tk']
  | .c k i, x => ∃ a tk tk', x = .ref a ∧ (k = Str.ofString "a" ∨ k = Str.ofString "i") ∧ Tup h a [.str k tk, .int i tk']
  | .s1 t, x => ∃ a b y tk tk', x = .ref a ∧ Tup h a [.str (Str.ofString "s") tk, .int 34 tk', .ref b] ∧ Tup h b [y] ∧ TIn h t y
  | .s2 t u, x => ∃ a b y z tk tk', x = .ref a ∧ Tup h a [.str (Str.ofString "s") tk, .int 35 tk', .ref b] ∧ Tup h b [y, z] ∧ TIn h t y ∧ TIn h u z

def Keeps (ks : List Addr) (h h' : Heap) : Prop := ∀ b o, b ∉ ks → h.get? b = some o → h'.get? b = some o
abbrev Keep (h h' : Heap) : Prop := ∀ b o, h.get? b = some o → h'.get? b = some o

theorem Keeps.all {h h' : Heap} (k : Keeps [] h h') : Keep h h' := fun b o e => k b o (fun q => nomatch q) e
theorem Keeps.of {ks : List Addr} {h h' : Heap} (k : Keep h h') : Keeps ks h h' := fun b o _ e => k b o e

theorem TIn.keep {h h' : Heap} (k : Keep h h') : ∀ {t : T} {x : Value}, TIn h t x → TIn h' t x
  | .v _, _, ⟨a, tk, tk', e, p⟩ => ⟨a, tk, tk', e, p.keeps k⟩
  | .c _ _, _, ⟨a, tk, tk', e, q, p⟩ => ⟨a, tk, tk', e, q, p.keeps k⟩
  | .s1 _, _, ⟨a, b, y, tk, tk', e, p, q, r⟩ => ⟨a, b, y, tk, tk', e, p.keeps k, q.keeps k, TIn.keep k r⟩
  | .s2 _ _, _, ⟨a, b, y, z, tk, tk', e, p, q, r, r'⟩ => ⟨a, b, y, z, tk, tk', e, p.keeps k, q.keeps k, TIn.keep k r, TIn.keep k r'⟩

abbrev Arr (dp un : Nat) (gd : Option (List Code)) (env : Env) (outer : List Env) : Around := { handled := none, depth := dp, frames := some (env :: outer), guards := gd, units := un }

/-- what a caller has at a call -/
structure Cx (K : Frag) (p : Program) (loose : List Str) (mean : ExcName → Option Value) (mg mb : Str → Option Value) (A₀ : Around) (base h₀ : Heap) (env : Env) (outer : List Env) (L : Addr) (m : Str → Option Value) (h : Heap) : Prop where
  B : Below A₀ base outer h₀
  F : Fr h₀ L h m
  X : K.In h₀
  T : Top p loose mean mg mb h₀
  hf : env.frame = some L
  hk : env.scope.kind = .function

/-- what a call gives -/
def Gives (ks : List Addr) (s : Shared) (P : Value → Heap → Prop) (r : Value) (s' : Shared) : Prop :=
  ∃ h' tk', s' = { s with heap := h', toks := tk' } ∧ Keeps ks s.heap h' ∧ P r h'

/-- the end of a body -/
def Back (g : Heap) (s : Shared) (P : Value → Heap → Prop) (r : Value) (s' : Shared) : Prop :=
  ∃ h' tk', s' = { s with heap := h', toks := tk' } ∧ (∃ L' m', Fr g L' h' m') ∧ P r h'

theorem Back.intro {g : Heap} {s : Shared} {P : Value → Heap → Prop} {r : Value} {h' : Heap} {tk' : Nat} {L' : Addr} {m' : Str → Option Value} (F : Fr g L' h' m') (p : P r h') : Back g s P r { s with heap := h', toks := tk' } := ⟨h', tk', rfl, ⟨L', m', F⟩, p⟩

section
variable {prog : Program} {w : World} {s : Shared} {K : Frag} {L : Addr} {h₀ base : Heap} {m mg mb : Str → Option Value} {p : Program} {loose : List Str} {mean : ExcName → Option Value} {A₀ : Around}
  {dp un : Nat} {gd : Option (List Code)} {env : Env} {outer : List Env} {ks : List (Addr × Obj)}

/-- a def of the top is called; ks: the objects of the caller's that it may turn -/
theorem enter {E : Value → Shared → Prop} {P : Value → Heap → Prop} {name qual : Str} {params : Arguments} {body : List Stmt} {scope : Scope} {dV kV doc pm cdv ct oc : Value} {an od : Option Addr} {osl : Array (Option Value)} {f : Addr} {vs : List Value} {binds : List (Str × Value)} {ka : List Addr}
    (C : Cx K p loose mean mg mb A₀ base h₀ env outer L m s.heap) (N : News h₀ L s.heap ks) (hka : ka = ks.map (·.1))
    (ho : K.lookup f = some ⟨oc, od, .func (fnOf name qual params body scope dV kV doc pm an cdv ct), osl⟩) (hcd : codeIn K cdv qual = true) (hroom : dp < recursionLimit)
    (hbind : BindsTo s (fnOf name qual params body scope dV kV doc pm an cdv ct) ⟨vs, []⟩ binds) (hloc : ∀ y ∈ binds, scope.names.lookup y.1 = some .local)
    (h : ∀ g L' h₁, Keeps (ks.map (·.1)) s.heap g → Fr g L' h₁ (fun y => binds.reverse.lookup y) → News g L' h₁ ks → Below (Arr dp un gd env outer) base (env :: outer) g → K.In g → Top p loose mean mg mb g →
      wpAny (model prog w) ((Arr dp un gd env outer).deeper (envOf qual scope L' f cdv)) (execs body (envOf qual scope L' f cdv))
        (fun fl s' => Back g s P (match fl with | .ret v => v | _ => .none) s')
        (fun _ _ => False)
        { s with heap := h₁, toks := s.toks + binds.length })
    (hco : scope.isCoroutine = false) (hgen : scope.isGenerator = false) (hk : scope.kind = .function)
    (hcell : ∀ x ∈ scope.names, x.2 ≠ .cell) :
    wpAny (model prog w) (Arr dp un gd env outer) (call (.ref f) vs) (Gives ka s P) E s := by
  subst hka
  have hA : (Arr dp un gd env outer).frames = some (env :: outer) := rfl
  obtain ⟨FG, BG, st, lv⟩ := groundX (R := fun r s' => match r with | .ok (.ret v) => Gives (ks.map (·.1)) s P v s' | .ok _ => False | .error e => E e s') C.B C.F N hA C.hf C.hk
  have hlim := C.T.nolimit
  refine wpAny_call (codeAny_call_def (fd := fnOf name qual params body scope dV kV doc pm an cdv ct) (body := body) (binds := binds) hroom ((C.X.keeps C.F.keep) _ _ ho) rfl (hlim.keeps C.F.keep) (codeRec_of (C.X.keeps C.F.keep) hcd) rfl hbind hcell hloc (fun h₁ hns hk₁ => ?_) hco hgen hk)
  refine wpAny_mono (h (hideAll s.heap (ks.map (·.1))) s.heap.objs.size h₁ (fun b o hb e => hideAll_get _ e hb) ⟨hns, fun b o e => hk₁ b o (of_hideAll _ e), Nat.le_of_eq (hideAll_size _ _)⟩
    (fun p hp => ⟨hk₁ _ _ (N p hp).1, Nat.ne_of_lt (Heap.lt_size (N p hp).1), hideAll_none _ (List.mem_map_of_mem hp)⟩) BG (C.X.keeps fun b o e => st b o e) (C.T.keeps fun b o e => st b o e)) (fun fl s' hl => ?_) (fun _ _ y => y.elim)
  obtain ⟨h', tk', rfl, ⟨L', m', F'⟩, hp⟩ := hl
  exact ⟨h', tk', rfl, fun b o hb e => F'.keep b o (hideAll_get _ e hb), hp⟩
end

/-- a call of f with vs, from s, may turn ks and gives P; need: its depth -/
def Does (w : World) (K : Frag) (prog : Program) (f : Addr) (vs : List Value) (need : Nat) (ks : List (Addr × Obj)) (s : Shared) (P : Value → Heap → Prop) : Prop :=
  ∀ (p : Program) (loose : List Str) (mean : ExcName → Option Value) (mg mb : Str → Option Value) (dp un : Nat) (gd : Option (List Code)) (env : Env) (outer : List Env) (L : Addr) (h₀ base : Heap) (m : Str → Option Value) (A₀ : Around) (E : Value → Shared → Prop),
    Cx K p loose mean mg mb A₀ base h₀ env outer L m s.heap → News h₀ L s.heap ks → dp + need < 900 → un + 8 * need < 9000 →
    wpAny (model prog w) (Arr dp un gd env outer) (call (.ref f) vs) (Gives (ks.map (·.1)) s P) E s
theorem ne_s1 {k L : Nat} (h : k < L) : k ≠ L + 1 := Nat.ne_of_lt (Nat.lt_succ_of_lt h)
theorem ne_s2 {k L : Nat} (h : k < L) : k ≠ L + 1 + 1 := Nat.ne_of_lt (Nat.lt_succ_of_lt (Nat.lt_succ_of_lt h))
theorem room_d {dp n m : Nat} (h : dp + n < 900) (k : m + 1 ≤ n) : dp + 1 + m < 900 := by omega
theorem room_u {un n m : Nat} (h : un + 8 * n < 9000) (k : m + 1 ≤ n) : un + 3 + 8 * m < 9000 := by omega
theorem room_e {dp n : Nat} (h : dp + n < 900) : dp < recursionLimit := by
  have : recursionLimit = 1000 := rfl
  omega
end
section
section
variable {prog : Program} {w : World} {A : Around} {E : Value → Shared → Prop} {s : Shared} {h₀ : Heap} {L : Addr} {m : Str → Option Value} {env : Env}

theorem tup_st {ax I : Addr} {its : Array Value} (hl : h₀.IsTuple ax its) : ∀ i (h h' : Heap) (o : Obj) (nw : List (Addr × Obj)), (h.IsTupleIter I ax i ∧ h.IsTuple ax its) → h.get? I = some o → h'.get? I = some o → (∀ b o, h₀.get? b = some o → h'.get? b = some o) → News h₀ L h' nw → True → (h'.IsTupleIter I ax i ∧ h'.IsTuple ax its) :=
  fun i h h' o nw st e e' k N S => ⟨by obtain ⟨o', q, r⟩ := st.1; rw [e] at q; cases q; exact ⟨o, e', r⟩, hl.at fun o e => k _ _ e⟩

def TupSrc (prog : Program) (w : World) (A : Around) (h₀ : Heap) (L : Addr) (m : Str → Option Value) (env : Env) (elt : Expr) (x : Str) (scope : Scope) (cl : List (Str × Addr)) (Q : Value → Shared → Prop) (xv : Value) (s₁ : Shared) : Prop :=
  ∃ ax its news, xv = .ref ax ∧ A.handled = none ∧ Fr h₀ L s₁.heap m ∧ News h₀ L s₁.heap news ∧ h₀.IsTuple ax its ∧ its.size ≤ sizeLine ∧
      ∀ g, LCg.CompRest prog w A h₀ L m env elt x scope cl { s₁ with heap := g } (fun _ => True) (fun i v => its[i]? = some v) (LCg.FinE h₀ L m { s₁ with heap := g } Q) its.size 0 [] news
theorem TupSrc.intro {elt : Expr} {x : Str} {scope : Scope} {cl : List (Str × Addr)} {Q : Value → Shared → Prop} {ax : Addr} {its : Array Value} {news : List (Addr × Obj)} {s₁ : Shared}
    (hh : A.handled = none) (F : Fr h₀ L s₁.heap m) (N : News h₀ L s₁.heap news) (hl : h₀.IsTuple ax its) (hsz : its.size ≤ sizeLine)
    (R : ∀ g, LCg.CompRest prog w A h₀ L m env elt x scope cl { s₁ with heap := g } (fun _ => True) (fun i v => its[i]? = some v) (LCg.FinE h₀ L m { s₁ with heap := g } Q) its.size 0 [] news) :
    TupSrc prog w A h₀ L m env elt x scope cl Q (.ref ax) s₁ := ⟨_, _, _, rfl, hh, F, N, hl, hsz, R⟩

/-- a list comprehension over a tuple that stands in the base -/
theorem comp_tup {elt iter : Expr} {x : Str} {px : Pos} {scope : Scope} {cl : List (Str × Addr)} {pos : Pos} {Q : Value → Shared → Prop}
    (hclos : closureFor scope env = pure cl) (hcell : ∀ y ∈ scope.names, y.2 ≠ .cell) (hkind : scope.kind = .function)
    (hnames : ∀ y ∈ scope.names, y.2 = .local → scope.names.lookup y.1 = some .local) (hx : scope.names.lookup x = some .local)
    (F₀ : Fr h₀ L s.heap m) (h : wpAny (model prog w) A (eval iter env) (TupSrc prog w A h₀ L m env elt x scope cl Q) E s)
    (hs : ∀ x, foldedSetIterable iter env x = pure x := by intro _; rfl) :
    wpAny (model prog w) A (eval (.ListComp elt [⟨.Name x px, iter, [], 0⟩] scope pos) env) Q E s := by
  rw [eval_ListComp]
  refine wpAny_comprehension_free (use := none) rfl hs hclos hkind hnames (wpAny_mono h (fun xv s₁ h₁ => ?_) fun _ _ e => e)
  obtain ⟨ax, its, news, rfl, hh, F, N, hl₀, hsz, R⟩ := h₁
  have hl : s₁.heap.IsTuple ax its := hl₀.at fun o e => F.keep _ _ e
  have hlt : ax < s₁.heap.objs.size := by obtain ⟨_, e, _⟩ := hl; exact Heap.lt_size e
  refine wpAny_pyIter_tuple hl ?_
  refine LCg.block_U (Walks.tuple hh s₁.heap.objs.size ax (Nat.ne_of_lt hlt) its) hsz (fun i h st => by obtain ⟨o, e, _⟩ := st.1; exact ⟨o, e⟩) (tup_st hl₀) hcell hkind hx ⟨⟨_, Heap.get?_push_size _ rfl, rfl, rfl⟩, hl.at fun o e => Heap.get?_push_of_some _ e⟩ (fun b hb => ?_)
    (F.keeps fun b o e => Heap.get?_push_of_some _ e) (N.grown fun b o e => Heap.get?_push_of_some _ e) (Nat.ne_of_lt F.ns.lt) (next_is_new F) (fun p hp => Nat.ne_of_lt (Heap.lt_size (N p hp).1)) trivial (R _) ?_
  · show b < (s₁.heap.push _).objs.size
    rw [Heap.size_push]
    rcases List.mem_cons.mp hb with rfl | hb
    · exact Nat.lt_succ_self _
    · rw [List.mem_singleton.mp hb]; exact Nat.lt_succ_of_lt hlt
  · intro D C h tk m' ys news' F' N' o1 hn hC₀ hD₀ hCL hDL hCD offC fin
    refine ⟨m', hn, fun h'' hs'' => fin D h'' tk (F'.change hs'' hCL hC₀) (fun p hp => ?_) o1⟩
    refine ⟨hs''.extBut _ _ ?_ (N' p hp).1, (N' p hp).2⟩
    rcases List.mem_cons.mp hp with rfl | hp
    · exact Ne.symm hCD
    · exact offC p hp
end

/-- a stop at a call -/
def AtCall (M : Model) (A : Around) (v : Value) (vs : List Value) (Q E : Value → Shared → Prop) (s : Shared) : Prop := wpAny M A (call v vs) Q E s
theorem at_call {M : Model} {A : Around} {v : Value} {vs : List Value} {Q E : Value → Shared → Prop} {s : Shared} (h : AtCall M A v vs Q E s) : wpAny M A (call v vs) Q E s := h
theorem AtCall.does {w : World} {K : Frag} {prog : Program} {f : Addr} {vs : List Value} {need : Nat} {ks : List (Addr × Obj)} {s : Shared} {P : Value → Heap → Prop} {p : Program} {loose : List Str} {mean : ExcName → Option Value} {mg mb : Str → Option Value} {dp un : Nat} {gd : Option (List Code)} {env : Env} {outer : List Env} {L : Addr} {h₀ base : Heap} {m : Str → Option Value} {A₀ : Around} {Q E : Value → Shared → Prop}
    (D : Does w K prog f vs need ks s P) (B : Below A₀ base outer h₀) (F : Fr h₀ L s.heap m) (X : K.In h₀) (T : Top p loose mean mg mb h₀) (hf : env.frame = some L) (hk : env.scope.kind = .function)
    (N : News h₀ L s.heap ks) (hd : dp + need < 900) (hu : un + 8 * need < 9000)
    (h : ∀ r h' tk', Keeps (ks.map (·.1)) s.heap h' → P r h' → Q r { s with heap := h', toks := tk' }) :
    AtCall (model prog w) (Arr dp un gd env outer) (.ref f) vs Q E s :=
  wpAny_mono (D p loose mean mg mb dp un gd env outer L h₀ base m A₀ E ⟨B, F, X, T, hf, hk⟩ N hd hu) (fun r s' ⟨h', tk', e, k, hp⟩ => e ▸ h r h' tk' k hp) fun _ _ e => e

/-- the frame and the ledger behind a call that keeps all -/
theorem fr_keep {h₀ h h' : Heap} {L : Addr} {m : Str → Option Value} (F : Fr h₀ L h m) (k : Keeps [] h h') : Fr h₀ L h' m := F.keeps k.all
theorem news_keep {h₀ h h' : Heap} {L : Addr} {news : List (Addr × Obj)} (N : News h₀ L h news) (k : Keeps [] h h') : News h₀ L h' news := N.grown k.all
end
section
section
variable {prog : Program} {w : World} {A : Around} {E : Value → Shared → Prop} {s : Shared} {h₀ : Heap} {L D : Addr} {m : Str → Option Value} {news news' : List (Addr × Obj)} {n : Nat}

theorem todo_true {rest : List Value} {v : Value} {Q : Bool → Shared → Prop} (N : News h₀ L s.heap news) (hm : (D, listOf (rest ++ [v]).toArray n) ∈ news) (hr : rest.length ≤ 5000)
    (h : Q true { s with toks := s.toks + 1 + 1 }) : wpAny (model prog w) A (truthy (.ref D)) Q E s := by
  refine wpAny_truthy_list (items := (rest ++ [v]).toArray) ⟨_, (N _ hm).1, rfl, n, rfl⟩ (by simp; omega) ?_
  have e : (!(rest ++ [v]).toArray.isEmpty) = true := by cases rest <;> rfl
  rw [e]; exact h

theorem todo_pop {rest : List Value} {v : Value} {Q : Value → Shared → Prop} (F : Fr h₀ L s.heap m) (N : News h₀ L s.heap news) (U : Upd D (listOf (rest ++ [v]).toArray n) (listOf rest.toArray (n + 1)) news news')
    (hr : rest.length ≤ 5000) (h : ∀ h', Fr h₀ L h' m → News h₀ L h' news' → Q v { s with heap := h' }) : wpAny (model prog w) A (call (.builtin "list.pop") [.ref D]) Q E s :=
  kl_pop F N (p := rest) (y := v) (by simpa using kpa_last v rest) U (by rw [sizeLine_eq]; simp; omega) h

theorem todo_extend {xs ys : List Value} {b : Addr} {Q : Value → Shared → Prop} (F : Fr h₀ L s.heap m) (N : News h₀ L s.heap news) (hb : Tup h₀ b ys) (hy : ys ≠ [])
    (U : Upd D (listOf xs.toArray n) (listOf (xs ++ ys).toArray (n + 1)) news news') (hx : xs.length + ys.length ≤ 5000)
    (h : ∀ h', Fr h₀ L h' m → News h₀ L h' news' → Q .none { s with heap := h' }) : wpAny (model prog w) A (call (.builtin "list.extend") [.ref D, .ref b]) Q E s := by
  obtain ⟨pre, post, rfl, rfl, a, c⟩ := U.split
  have z := N (D, listOf xs.toArray n) (List.mem_append.mpr (.inr (.head _)))
  obtain ⟨nb, hb⟩ := hb
  refine call_meets PySem.F.slot_list_extend ⟨_, z.1, rfl⟩ PySem.F.entry_list_extend (PySem.F.args_list_extend_2 _ _) (PySem.AutoSeq1.list_extend_list_tuple_0 D xs.toArray n b ys.toArray nb ?_ ?_ ?_)
    ⟨z.1, F.keep _ _ hb, h _ (F.change (Heap.SameBut.update ..) z.2.1 z.2.2) (kl_turn _ N a c ?_ ?_)⟩
  · simp only [Bool.and_eq_true, not_and, Builtin.List.listTooLong]; intro _; rw [sizeLine_eq]; simp; omega
  · rw [sizeLine_eq]; simp; omega
  · rw [sizeLine_eq]; simp; omega
  · simp
  · have : 0 < ys.length := by cases ys with | nil => exact absurd rfl hy | cons => simp
    simp; exact hy

theorem fr_shape1 {h : Heap} {x : Str} {v : Value} (F : Fr h₀ L h m) (hx : m x = some v) : Fr h₀ L h (fun z => if z = x then some v else m z) := by
  have e : (fun z => if z = x then some v else m z) = m := by
    funext z
    by_cases h1 : z = x
    · subst h1; simp [hx]
    · simp [h1]
  rw [e]; exact F
theorem fr_shape2 {h : Heap} {x y : Str} {v u : Value} (F : Fr h₀ L h m) (hx : m x = some v) (hy : m y = some u) : Fr h₀ L h (fun z => if z = x then some v else if z = y then some u else m z) := by
  have e : (fun z => if z = x then some v else if z = y then some u else m z) = m := by
    funext z
    by_cases h1 : z = x
    · subst h1; simp [hx]
    · by_cases h2 : z = y
      · subst h2; simp [h1, hy]
      · simp [h1, h2]
  rw [e]; exact F
theorem fr_shape3 {h : Heap} {x y z : Str} {v u t : Value} (F : Fr h₀ L h m) (hx : m x = some v) (hy : m y = some u) (hz : m z = some t) : Fr h₀ L h (fun q => if q = x then some v else if q = y then some u else if q = z then some t else m q) := by
  have e : (fun q => if q = x then some v else if q = y then some u else if q = z then some t else m q) = m := by
    funext q
    by_cases h1 : q = x
    · subst h1; simp [hx]
    · by_cases h2 : q = y
      · subst h2; simp [h1, hy]
      · by_cases h3 : q = z
        · subst h3; simp [h1, h2, hz]
        · simp [h1, h2, h3]
  rw [e]; exact F
end

theorem new_of {h g h' : Heap} {L l : Addr} {o : Obj} {news : List (Addr × Obj)} (K : Keeps [] h g) (N : News g L h' news) (hm : (l, o) ∈ news) : h.get? l = none := by
  cases e : h.get? l with
  | none => rfl
  | some o' => have := (N _ hm).2.2; rw [K.all _ _ e] at this; cases this
theorem news_add {g h h' : Heap} {L l : Addr} {m : Str → Option Value} {o : Obj} {news : List (Addr × Obj)} (F : Fr g L h m) (N : News g L h news) (K : Keeps [] h h') (hn : h.get? l = none) (hl : h'.get? l = some o) : News g L h' ((l, o) :: news) := fun p hp => by
  rcases List.mem_cons.mp hp with rfl | hp
  · refine ⟨hl, fun e => ?_, ?_⟩
    · obtain ⟨oL, _, _, hL, _⟩ := F.ns
      rw [← e, hn] at hL; cases hL
    · cases e : g.get? l with
      | none => rfl
      | some o' => have := F.keep _ _ e; rw [hn] at this; cases this
  · exact ⟨K.all _ _ (N p hp).1, (N p hp).2⟩


theorem news_tl {g h : Heap} {L : Addr} {q : Addr × Obj} {news : List (Addr × Obj)} (N : News g L h (q :: news)) : News g L h news := fun p hp => N p (.tail _ hp)
def AllNe (d : Addr) : List (Addr × Obj) → Prop
  | [] => True
  | p :: r => (@Ne Nat p.1 d) ∧ AllNe d r
theorem allNe_of {d : Addr} : ∀ {l : List (Addr × Obj)}, (∀ p ∈ l, p.1 ≠ d) → AllNe d l
  | [], _ => trivial
  | _ :: _, h => ⟨h _ (.head _), allNe_of fun q hq => h q (.tail _ hq)⟩
theorem new_ne {g h : Heap} {L l : Addr} {news : List (Addr × Obj)} (N : News g L h news) (hn : h.get? l = none) : AllNe l news :=
  allNe_of fun p hp e => by have := (N p hp).1; rw [e, hn] at this; cases this

/-- a stop at a while -/
def AtWhile (M : Model) (A : Around) (test : Expr) (body orelse : List Stmt) (pos : Pos) (env : Env) (Q : Flow → Shared → Prop) (E : Value → Shared → Prop) (s : Shared) : Prop := wpAny M A (exec (.While test body orelse pos) env) Q E s
theorem at_while {M : Model} {A : Around} {test : Expr} {body orelse : List Stmt} {pos : Pos} {env : Env} {Q : Flow → Shared → Prop} {E : Value → Shared → Prop} {s : Shared} (h : AtWhile M A test body orelse pos env Q E s) : wpAny M A (exec (.While test body orelse pos) env) Q E s := h
/-- a turn's end -/
def TurnEnd (W : Shared → Prop) (Q : Flow → Shared → Prop) (f : Flow) (s : Shared) : Prop := match f with
  | .next => W s
  | .cont => W s
  | .brk => Q .next s
  | .ret v => Q (.ret v) s
/-- a while, turn by turn: W is what the loop's rest wants of a state -/
theorem AtWhile.turns {prog : Program} {w : World} {A : Around} {test : Expr} {body orelse : List Stmt} {pos : Pos} {env : Env} {Q : Flow → Shared → Prop} {E : Value → Shared → Prop} {s : Shared} (hE : PassesOwn (model prog w) A env E)
    (h : ∀ W : Shared → Prop, (∀ s', wpAny (model prog w) A (isTrue test env (eval test env)) (fun b s₂ => WhlIf b (wpAny (model prog w) A (execs body env) (TurnEnd W Q) E s₂) (wpAny (model prog w) A (execs orelse env) Q E s₂)) E s' → W s') → W s) :
    AtWhile (model prog w) A test body orelse pos env Q E s := by
  refine whl_start 0 (h (WhlRest prog w A E env test body orelse Q 0) fun s' t => ?_)
  refine whl_turn (k := 0) hE (wpAny_mono t (fun b s₂ q => ?_) fun _ _ x => x)
  cases b with
  | false => exact WhlIf.no rfl (by simpa [WhlIf] using q)
  | true =>
    refine WhlIf.yes rfl (wpAny_mono (show wpAny (model prog w) A (execs body env) _ E s₂ by simpa [WhlIf] using q) (fun f s₃ z => ?_) fun _ _ x => x)
    cases f <;> exact z
end
section
theorem fr_keeps {g h h' : Heap} {L : Addr} {m : Str → Option Value} {ks : List Addr} (F : Fr g L h m) (k : Keeps ks h h') (hL : L ∉ ks) (hg : ∀ a ∈ ks, g.get? a = none) : Fr g L h' m :=
  ⟨F.ns.at' fun o e => k L o hL e, fun b o e => k b o (fun q => by rw [hg b q] at e; cases e) (F.keep b o e), F.above⟩
theorem news_keeps {g h h' : Heap} {L : Addr} {ks : List Addr} {news : List (Addr × Obj)} (N : News g L h news) (k : Keeps ks h h') (hn : ∀ p ∈ news, p.1 ∉ ks) : News g L h' news :=
  fun p hp => ⟨k _ _ (hn p hp) (N p hp).1, (N p hp).2⟩

/-- a turn of a for: what the next item wants -/
def ForStep (prog : Program) (w : World) (A : Around) (env : Env) (target : Expr) (body : List Stmt) (W : Shared → Prop) (Q : Flow → Shared → Prop) (E : Value → Shared → Prop) (r : Option Value) (s₃ : Shared) : Prop := match r with
  | none => Q .next s₃
  | some v => wpAny (model prog w) A (assign target env v) (fun _ s₅ => wpAny (model prog w) A (execs body env) (TurnEnd W Q) E s₅) E s₃
/-- a for, turn by turn -/
def ForLoop (prog : Program) (w : World) (A : Around) (env : Env) (target : Expr) (body : List Stmt) (Q : Flow → Shared → Prop) (E : Value → Shared → Prop) (it : Value) (s₂ : Shared) : Prop :=
  ∀ W : Shared → Prop, (∀ s', wpAny (model prog w) A (pyNext it) (ForStep prog w A env target body W Q E) E s' → W s') → W s₂

/-- a stop at a for -/
def AtFor (M : Model) (A : Around) (target iter : Expr) (body orelse : List Stmt) (pos : Pos) (env : Env) (Q : Flow → Shared → Prop) (E : Value → Shared → Prop) (s : Shared) : Prop := wpAny M A (exec (.For target iter body orelse pos) env) Q E s
theorem at_for {M : Model} {A : Around} {target iter : Expr} {body orelse : List Stmt} {pos : Pos} {env : Env} {Q : Flow → Shared → Prop} {E : Value → Shared → Prop} {s : Shared} (h : AtFor M A target iter body orelse pos env Q E s) : wpAny M A (exec (.For target iter body orelse pos) env) Q E s := h
theorem AtFor.turns {prog : Program} {w : World} {A : Around} {env : Env} {x : Str} {px pos : Pos} {iter : Expr} {body : List Stmt} {Q : Flow → Shared → Prop} {E : Value → Shared → Prop} {s : Shared} (hE : PassesOwn (model prog w) A env E)
    (h : wpAny (model prog w) A (eval iter env) (fun xv s₁ => wpAny (model prog w) A (pyIter xv) (ForLoop prog w A env (.Name x px) body Q E) E s₁) E s)
    (hs : ∀ x, foldedSetIterable iter env x = pure x := by intro _; rfl) :
    AtFor (model prog w) A (.Name x px) iter body [] pos env Q E s := by
  refine wpAny_For (wpAny_mono h (fun xv s₁ h₁ => wpAny_mono h₁ (fun it s₂ h₂ => ?_) fun _ _ e => e) fun _ _ e => e) hs
  refine h₂ (fun s' => codeAny (model prog w) A (.forLoop (.Name x px) it body [] env) (fun r s' => match r with | .ok f => Q f s' | .error e => cameBackBy (model prog w) A env E e s') s') fun s' t => ?_
  refine codeAny_of_tree ?_
  show wpAny _ A ((forTurn (.Name x px) it body [] env).onRaise (fun x => do noteFrame x env; theTreesLotGoes x)) _ _ s'
  refine wpAny_noted ?_
  simp only [forTurn]
  refine wpAny_bind (wpAny_standAt (wpAny_bind (wpAny_onRaise (wpAny_mono t (fun r s₁ h₁ => ?_) fun e s h' => wpAny_standAt (hE e s h')))))
  cases r with
  | none => exact wpAny_pure ⟨rfl, codeAny_block (wpAny_execs_nil h₁)⟩
  | some v =>
    refine wpAny_bind (wpAny_of_eq (a := ()) rfl ?_)
    refine wpAny_bind (wpAny_mono h₁ (fun _ s₂ h₂ => wpAny_bind (wpAny_mono h₂ (fun f s₃ h₃ => ?_) hE)) hE)
    cases f with
    | next => exact wpAny_pure ⟨rfl, h₃⟩
    | cont => exact wpAny_pure ⟨rfl, h₃⟩
    | brk => exact wpAny_pure h₃
    | ret v => exact wpAny_pure h₃

section
variable {prog : Program} {w : World} {A : Around} {E : Value → Shared → Prop} {s : Shared} {env : Env} {target : Expr} {body : List Stmt} {Q : Flow → Shared → Prop} {W : Shared → Prop} {g : Heap} {L b I : Addr} {m : Str → Option Value} {items : List Value} {news : List (Addr × Obj)} {o : Obj} {i : Nat}
theorem tup_iter (F : Fr g L s.heap m) (N : News g L s.heap news) (hb : IsTup g b items.toArray)
    (h : ∀ I h' o, Fr g L h' m → News g L h' ((I, o) :: news) → (∀ p ∈ news, p.1 < I) → o.cls = .type "tuple_iterator" → o.data = .fields #[.ref b, .int (0 : Nat) 0] → ForLoop prog w A env target body Q E (.ref I) { s with heap := h' }) :
    wpAny (model prog w) A (pyIter (.ref b)) (ForLoop prog w A env target body Q E) E s := by
  have hls : s.heap.IsTuple b items.toArray := Heap.IsTuple.at hb fun o e => F.keep b o e
  refine wpAny_pyIter_tuple hls ?_
  exact h s.heap.objs.size _ _ (F.push _) (News.push F N _) (fun p hp => Heap.lt_size (N p hp).1) rfl rfl
theorem tup_next {v : Value} (F : Fr g L s.heap m) (N : News g L s.heap ((I, o) :: news)) (off : ∀ p ∈ news, p.1 ≠ I) (hc : o.cls = .type "tuple_iterator") (hd : o.data = .fields #[.ref b, .int (i : Nat) 0])
    (hb : IsTup g b items.toArray) (hh : A.handled = none) (hv : items[i]? = some v)
    (h : ∀ h' o', Fr g L h' m → News g L h' ((I, o') :: news) → o'.cls = .type "tuple_iterator" → o'.data = .fields #[.ref b, .int ((i + 1 : Nat) : Nat) 0] →
      wpAny (model prog w) A (assign target env v) (fun _ s₅ => wpAny (model prog w) A (execs body env) (TurnEnd W Q) E s₅) E { s with heap := h' }) :
    wpAny (model prog w) A (pyNext (.ref I)) (ForStep prog w A env target body W Q E) E s := by
  have hls : s.heap.IsTuple b items.toArray := Heap.IsTuple.at hb fun o e => F.keep b o e
  obtain ⟨ob, hob, _⟩ := id hb
  have zI := N _ List.mem_cons_self
  have hit : s.heap.IsTupleIter I b i := ⟨o, zI.1, hc, hd⟩
  refine wpAny_pyNext_tuple_item hit hls (x := v) (by simpa using hv) fun h' hit' hs' => ?_
  obtain ⟨o', ho', hc', hd'⟩ := hit'
  have k : Keeps [I] s.heap h' := fun c oc hn e => hs'.extBut c oc (by simpa using hn) e
  refine h h' o' (fr_keeps F k (by simpa using Ne.symm zI.2.1) (by simpa using zI.2.2)) (fun p hp => ?_) hc' hd'
  rcases List.mem_cons.mp hp with rfl | hp
  · exact ⟨ho', zI.2⟩
  · exact news_keeps (fun p hp => N p (List.mem_cons_of_mem _ hp)) k (by simpa using off) p hp
theorem tup_end (F : Fr g L s.heap m) (N : News g L s.heap ((I, o) :: news)) (off : ∀ p ∈ news, p.1 ≠ I) (hc : o.cls = .type "tuple_iterator") (hd : o.data = .fields #[.ref b, .int (i : Nat) 0])
    (hb : IsTup g b items.toArray) (hh : A.handled = none) (hv : items.length = i)
    (h : ∀ h', Fr g L h' m → News g L h' news → Q .next { s with heap := h' }) :
    wpAny (model prog w) A (pyNext (.ref I)) (ForStep prog w A env target body W Q E) E s := by
  have hls : s.heap.IsTuple b items.toArray := Heap.IsTuple.at hb fun o e => F.keep b o e
  have zI := N _ List.mem_cons_self
  have hit : s.heap.IsTupleIter I b i := ⟨o, zI.1, hc, hd⟩
  refine wpAny_pyNext_tuple_end hh hit hls (by simp [hv]) fun h' he' => ?_
  have k : Keeps [I] s.heap h' := fun c oc hn e => he' c oc (by simpa using hn) e
  exact h h' (fr_keeps F k (by simpa using Ne.symm zI.2.1) (by simpa using zI.2.2)) (news_keeps (fun p hp => N p (List.mem_cons_of_mem _ hp)) k (by simpa using off))
/-- a list that grows by a list: x += y -/
theorem list_iadd {D r : Addr} {xs ys : List Value} {n k : Nat} {news' : List (Addr × Obj)} {Q : Value → Shared → Prop} (F : Fr g L s.heap m) (N : News g L s.heap news) (hb : (r, listOf ys.toArray k) ∈ news)
    (U : Upd D (listOf xs.toArray n) (listOf (xs ++ ys).toArray (if ys = [] then n else n + 1)) news news') (hx : xs.length + ys.length ≤ 5000)
    (h : ∀ h', Fr g L h' m → News g L h' news' → Q (.ref D) { s with heap := h' }) : wpAny (model prog w) A (call (.builtin "list.__iadd__") [.ref D, .ref r]) Q E s := by
  obtain ⟨pre, post, rfl, rfl, a, c⟩ := U.split
  have z := N (D, listOf xs.toArray n) (List.mem_append.mpr (.inr (.head _)))
  refine call_meets PySem.F.slot_list_iadd ⟨_, z.1, rfl⟩ PySem.F.entry_list_iadd (PySem.F.args_list_iadd_2 _ _) (PySem.AutoSeq1.list___iadd___list_list_0 D xs.toArray n r ys.toArray k ?_ ?_ ?_)
    ⟨z.1, (N _ hb).1, h _ (F.change (Heap.SameBut.update ..) z.2.1 z.2.2) ?_⟩
  · simp only [Bool.and_eq_true, not_and, Builtin.List.listTooLong]; intro _; rw [sizeLine_eq]; simp; omega
  · rw [sizeLine_eq]; simp; omega
  · rw [sizeLine_eq]; simp; omega
  · by_cases e : ys = []
    · subst e
      simp only [List.append_nil, if_true]
      exact kl_turn0 (fun x => x ++ #[]) N a c (by simp) rfl
    · simp only [e, if_false]
      exact kl_turn _ N a c (by simp) (by simp [e])
theorem list_inplace {D r : Addr} {oD oR : Obj} {Q : Value → Shared → Prop} (hD : s.heap.get? D = some oD) (cD : oD.cls = .type "list") (hR : s.heap.get? r = some oR) (cR : oR.cls = .type "list")
    (h : wpAny (model prog w) A (call (.builtin "list.__iadd__") [.ref D, .ref r]) Q E s) : wpAny (model prog w) A (inplaceOp .Add (.ref D) (.ref r)) Q E s := by
  have ha : s.TypeIs (.ref D) "list" := ⟨oD, hD, cD⟩
  have hb : s.TypeIs (.ref r) "list" := ⟨oR, hR, cR⟩
  have hlk := PySem.F.slot_list_iadd.lookup
  have hsq : isSeqSlot (some (.builtin "list.__iadd__")) = true := by decide +kernel
  unfold inplaceOp
  refine wpAny_holding ?_
  have hfi : fillsInplaceSlot (.type "list") "add" (Operator.Add == .Add) = pure false := by
    unfold fillsInplaceSlot
    show (typeLookup (.type "list") (dunderI "add") >>= fun fi => pure (fi.isSome && !isSeqSlot fi)) = pure false
    rw [hlk]
    show (pure ((some (Value.builtin "list.__iadd__")).isSome && !isSeqSlot (some (Value.builtin "list.__iadd__"))) : Sem Bool) = pure false
    rw [hsq]; rfl
  refine wpAny_bind (wpAny_typeOf ha (wpAny_bind (wpAny_of_eq hfi ?_)))
  show wpAny (model prog w) A (if false = true then _ else _) Q E s
  rw [if_neg Bool.false_ne_true]
  refine wpAny_bind (wpAny_binaryOp1_none (nm := "add") ha hb PySem.noFill_list_add ?_)
  refine wpAny_bind (wpAny_of_eq (PySem.seqSlot_of hlk hsq) ?_)
  exact wpAny_bind (wpAny_rule h)
/-- an int of a list of ints at a place that is in it -/
theorem item_int {l : Addr} {vs : List Value} {ns : List Int} {k : Int} {u : Tok} {value slice : PySem.Expr} {Q : Value → Shared → Prop}
    (hl : s.heap.IsList l vs.toArray) (hi : IntsAre vs ns) (h0 : 0 ≤ k) (hk : k < ns.length) (hlen : ns.length ≤ 5000)
    (h : ∀ x t, ns[k.toNat]? = some x → Q (.int x t) s) (hs : subscripted slice false (.ref l) (.int k u) = operate [.ref l, .int k u] (getItem (.ref l) (.int k u)) := by with_unfolding_all rfl) :
    wpAny (model prog w) A (subscriptTail value slice (.ref l) (.int k u)) Q E s := by
  have hn : k.toNat < ns.length := by omega
  obtain ⟨t, hx⟩ := hi.get k.toNat ns[k.toNat] (by simp [hn])
  exact tail_any hl.typeIs slot_list_getitem.lookup (wpAny_getItem_list hl h0 (by omega) (by simpa using hx) (h _ t (by simp [hn]))) hs
end
end
local macro_rules | `(tactic| walk_at "MY enter") => `(tactic| (
  k_dflt (refine' enter ?k1 ?k2 ?k3 ?k6 ?k7 ?k8 ?k9 ?kB ?_ ?c2 ?c3 ?c4 ?c5; (case k1 => assumption); (case k2 => assumption); (case k3 => exact rfl); (case k6 => k_is); (case k7 => k_is); (case k8 => exact room_e (by assumption)); (case k9 => exact BindsTo.of_eq rfl); (case c5 => decide); (case kB => exact locs rfl); (case c2 => exact rfl); (case c3 => exact rfl); (case c4 => exact rfl); k_whole)
  skip))
local macro_rules | `(tactic| walk_at "call ref") => `(tactic| refine at_call ?_)
local macro_rules | `(tactic| walk_at "subscriptTail Name Constant ref int") => `(tactic| ((with_reducible show wpAny _ _ (subscriptTail _ _ (Value.ref _) (Value.int _ _)) _ _ _); refine item_tupleL (by first | with_reducible assumption | exact Fr.tup (by with_reducible assumption) (by with_reducible assumption)) (by first | decide | omega) (by first | decide | omega) (by first | rfl | decide) (by first | rfl | simp) ?_))
local macro_rules | `(tactic| walk_at "MY lt") => `(tactic| with_reducible first | assumption | exact And.left (by assumption) | exact And.left (And.right (by assumption)) | exact And.left (And.right (And.right (by assumption))) | exact And.left (And.right (And.right (And.right (by assumption)))) | exact And.left (And.right (And.right (And.right (And.right (by assumption))))) | exact And.left (And.right (And.right (And.right (And.right (And.right (by assumption)))))) | exact And.left (And.right (And.right (And.right (And.right (And.right (And.right (by assumption))))))) | exact And.left (And.right (And.right (And.right (And.right (And.right (And.right (And.right (by assumption)))))))) | exact And.left (And.right (And.right (And.right (And.right (And.right (And.right (And.right (And.right (by assumption))))))))) | fail "no lt")
local macro_rules | `(tactic| k_ne) => `(tactic| (refine neN ?_; (try dsimp only); first | with_reducible assumption | (with_reducible exact ne_s1 (by assumption)) | (with_reducible exact ne_s2 (by assumption)) | (with_reducible exact (ne_s1 (by assumption)).symm) | (with_reducible exact (ne_s2 (by assumption)).symm) | (refine Nat.ne_of_gt ?_; walk_at "MY lt") | (refine Nat.ne_of_lt ?_; walk_at "MY lt") | walk_at "MY lt" | (refine Ne.symm ?_; walk_at "MY lt") | fail "no ne"))
section
local macro_rules | `(tactic| walk_at "MY steps") => `(tactic| repeat' (first | (k_unfold; (try dsimp only)) | with_reducible refine at_while ?_ | (with_reducible refine at_for ?_) | walk1 | (dsimp only; walk1) | (dsimp only; k_unfold; dsimp only)))

/-- the reader's list at k: its number of reads, its cells -/
structure KeptIs (o : Obj) (c : Int) (cells : List Int) : Prop where
  is : ∃ vals n, o = listOf (List.toArray vals) n ∧ IntsAre vals (c :: cells)
  pos : 0 ≤ c
  len : cells.length ≤ 200

def NextP (k : Addr) (ways : Int) (c : Int) (cells : List Int) (r : Value) (h' : Heap) : Prop :=
  ∃ x tk o', r = .int x tk ∧ 0 ≤ x ∧ x < ways ∧ h'.get? k = some o' ∧ KeptIs o' (c + 1) cells

theorem next_spec {w : World} (s : Shared) (k : Addr) (o : Obj) (c : Int) (cells : List Int) (ways : Int) (tw : Tok) (hw : 0 < ways) (hk : KeptIs o c cells) :
    Does w (hd.heap_39 w.params) PySem.Challenge.rw_ok0006_01.row.prog 77 [.ref k, .int ways tw] 1 [(k, o)] s (NextP k ways c cells) := by
  unfold Does
  k_fill
  have hrl : recursionLimit = 1000 := rfl
  intro p loose mean mg mb dp un gd env outer L h₀ base m A₀ E C N hd' hu
  obtain ⟨⟨vals, n, rfl, hi⟩, hpos, hlen⟩ := hk
  cases hi with
  | cons _ tc hi =>
  rename_i vs
  walk_at "MY enter"; intro g' L' h' KG' F' N' B' X' T'; (try dsimp only); (try k_fold)
  walk_at "MY steps"
  · exact Back.intro (by k_asm) ⟨_, _, _, rfl, Int.fmod_nonneg_of_pos _ hw, Int.fmod_lt_of_pos _ hw, News.get (by k_asm) (.head _), ⟨_, _, rfl, .cons _ _ hi⟩, by omega, hlen⟩
  · exact Back.intro (by k_asm) ⟨_, _, _, rfl, by omega, hw, News.get (by k_asm) (.head _), ⟨_, _, rfl, .cons _ _ hi⟩, by omega, hlen⟩
  · (rename ¬ ((_ : Int) ≤ _) => ha)
    have ha' : ¬ ((cells.length + 1 : Nat) : Int) ≤ c + 1 := ha
    refine item_int (ns := (c + 1) :: cells) (by is_list) (.cons _ _ hi) (by show 0 ≤ c + 1; omega) (by show c + 1 < ((cells.length + 1 : Nat) : Int); omega) (by show cells.length + 1 ≤ 5000; omega) ?_
    intro x t _
    walk_at "MY steps"
    exact Back.intro (by k_asm) ⟨_, _, _, rfl, Int.fmod_nonneg_of_pos _ hw, Int.fmod_lt_of_pos _ hw, News.get (by k_asm) (.head _), ⟨_, _, rfl, .cons _ _ hi⟩, by omega, hlen⟩
end
section
section
variable {prog : Program} {w : World} {s : Shared} {K : Frag} {L : Addr} {h₀ base : Heap} {m mg mb : Str → Option Value} {p : Program} {loose : List Str} {mean : ExcName → Option Value} {A₀ : Around}
  {dp un : Nat} {gd : Option (List Code)} {env : Env} {outer : List Env} {ks : List (Addr × Obj)}

/-- a def of the top with cells is called -/
theorem enterC {E : Value → Shared → Prop} {P : Value → Heap → Prop} {name qual : Str} {params : Arguments} {body : List Stmt} {scope : Scope} {dV kV doc pm cdv ct oc : Value} {an od : Option Addr} {osl : Array (Option Value)} {f : Addr} {vs : List Value} {binds : List (Str × Value)} {ka : List Addr}
    (C : Cx K p loose mean mg mb A₀ base h₀ env outer L m s.heap) (N : News h₀ L s.heap ks) (hka : ka = ks.map (·.1))
    (ho : K.lookup f = some ⟨oc, od, .func (fnOf name qual params body scope dV kV doc pm an cdv ct), osl⟩) (hcd : codeIn K cdv qual = true) (hroom : dp < recursionLimit)
    (hbind : BindsTo s (fnOf name qual params body scope dV kV doc pm an cdv ct) ⟨vs, []⟩ binds) (hkind : (binds.all fun y => scope.names.lookup y.1 == some .local || scope.names.lookup y.1 == some .cell) = true)
    (hnd : ((cellsFrom 0 scope.names []).map (·.1)).Nodup)
    (h : ∀ g L' h₁ tk cells, Keeps (ks.map (·.1)) s.heap g → Fr g L' h₁ (bindL (envOfC qual scope L' f cdv).kindOf binds fun _ => none) → News g L' h₁ (cells ++ ks) →
      CellsAre (bindC (envOfC qual scope L' f cdv).kindOf binds fun _ => none) (cellsFrom (L' + 1) scope.names []) cells → (∀ p ∈ ks, p.1 < L') → Below (Arr dp un gd env outer) base (env :: outer) g → K.In g → Top p loose mean mg mb g →
      wpAny (model prog w) ((Arr dp un gd env outer).deeper (envOfC qual scope L' f cdv)) (execs body (envOfC qual scope L' f cdv))
        (fun fl s' => Back g s P (match fl with | .ret v => v | _ => .none) s')
        (fun _ _ => False)
        { s with heap := h₁, toks := tk })
    (hco : scope.isCoroutine = false) (hgen : scope.isGenerator = false) (hk : scope.kind = .function) :
    wpAny (model prog w) (Arr dp un gd env outer) (call (.ref f) vs) (Gives ka s P) E s := by
  subst hka
  have hA : (Arr dp un gd env outer).frames = some (env :: outer) := rfl
  obtain ⟨FG, BG, st, lv⟩ := groundX (R := fun r s' => match r with | .ok (.ret v) => Gives (ks.map (·.1)) s P v s' | .ok _ => False | .error e => E e s') C.B C.F N hA C.hf C.hk
  have hlim := C.T.nolimit
  refine wpAny_call (codeAny_call_function hroom ((C.X.keeps C.F.keep) _ _ ho) rfl hco hgen rfl (codeRec_of (C.X.keeps C.F.keep) hcd) (hbind _ _ _ _ ?_))
  refine wpAny_newFunctionEnv_cells hk (kindsX hkind _) fun env' he s' x => ?_
  subst he
  refine ⟨(hlim.keeps C.F.keep).keeps x.toInCall.keep, codeAny_func ?_⟩
  obtain ⟨h₁, tk, rfl, _⟩ := x.done
  have hk₁ := x.toInCall.keep
  obtain ⟨cells, NC, Y⟩ := Cl.news (h₀ := s.heap) (Nat.le_refl _) fun n c hm => ⟨x.cell n c (lookup_of_mem_nodup (cellsFrom_names scope.names 0 (s.heap.objs.size + 1) [] [] rfl ▸ hnd) hm), x.above n c hm⟩
  refine wpAny_mono (h (hideAll s.heap (ks.map (·.1))) s.heap.objs.size h₁ tk cells (fun b o hb e => hideAll_get _ e hb) ⟨x.toInCall.ns, fun b o e => hk₁ b o (of_hideAll _ e), Nat.le_of_eq (hideAll_size _ _)⟩ (fun p hp => ?_) Y
    (fun p hp => Heap.lt_size (N p hp).1) BG (C.X.keeps fun b o e => st b o e) (C.T.keeps fun b o e => st b o e)) (fun fl s' hl => ?_) (fun _ _ y => y.elim)
  · rcases List.mem_append.mp hp with hp | hp
    · refine ⟨(NC p hp).1, (NC p hp).2.1, ?_⟩
      cases q : (hideAll s.heap (ks.map (·.1))).get? p.1 with
      | none => rfl
      | some o => have := of_hideAll _ q; rw [(NC p hp).2.2] at this; cases this
    · exact ⟨hk₁ _ _ (N p hp).1, Nat.ne_of_lt (Heap.lt_size (N p hp).1), hideAll_none _ (List.mem_map_of_mem hp)⟩
  · obtain ⟨h', tk', rfl, ⟨L', m', F'⟩, hp⟩ := hl
    exact ⟨h', tk', rfl, fun b o hb e => F'.keep b o (hideAll_get _ e hb), hp⟩
end
section
variable {g h h' : Heap} {L k : Addr} {m : Str → Option Value} {o o' : Obj} {news news' tl : List (Addr × Obj)}
/-- behind a call that may turn k -/
theorem after_upd (F : Fr g L h m) (N : News g L h news) (U : Upd k o o' news news') (K : Keeps [k] h h') (ho : h'.get? k = some o') : Fr g L h' m ∧ News g L h' news' := by
  obtain ⟨pre, post, rfl, rfl, a, b⟩ := U.split
  have z := N (k, o) (List.mem_append.mpr (.inr (.head _)))
  refine ⟨fr_keeps F K (by simpa using Ne.symm z.2.1) (by simpa using z.2.2), fun p hp => ?_⟩
  rcases List.mem_append.mp hp with hp | hp
  · have y := N p (List.mem_append.mpr (.inl hp)); exact ⟨K _ _ (by simpa using a p hp) y.1, y.2⟩
  · rcases List.mem_cons.mp hp with rfl | hp
    · exact ⟨ho, z.2⟩
    · have y := N p (List.mem_append.mpr (.inr (.tail _ hp))); exact ⟨K _ _ (by simpa using b p hp) y.1, y.2⟩

/-- tuples alone -/
def AllTup (tl : List (Addr × Obj)) : Prop := ∀ p ∈ tl, p.2.cls = .type "tuple" ∧ ∃ l n, p.2.data = .seq l n
theorem AllTup.nil : AllTup [] := fun _ hp => nomatch hp
theorem AllTup.cons {a : Addr} {l : List Value} {n : Nat} (b : AllTup tl) : AllTup ((a, ({ cls := .type "tuple", data := .seq l.toArray n } : Obj)) :: tl) := fun p hp => by
  rcases List.mem_cons.mp hp with rfl | hp
  · exact ⟨rfl, _, _, rfl⟩
  · exact b p hp
theorem AllTup.append {tl tl' : List (Addr × Obj)} (a : AllTup tl) (b : AllTup tl') : AllTup (tl ++ tl') := fun p hp => (List.mem_append.mp hp).elim (a p) (b p)
theorem AllTup.ne (T : AllTup tl) (Nt : News g L h tl) (N : News g L h news) (hk : (k, o) ∈ news) (hc : o.cls ≠ .type "tuple") : ∀ p ∈ tl, p.1 ≠ k := fun p hp e => by
  have h1 := (Nt p hp).1
  have h2 := (N _ hk).1
  rw [e, h2] at h1
  cases h1
  exact hc (T p hp).1
theorem AllTup.ne_ns (T : AllTup tl) (Nt : News g L h tl) (N : News g L h news) (hk : (k, o) ∈ news) (hc : LCg.NsObj o m) : ∀ p ∈ tl, p.1 ≠ k := fun p hp e => by
  have h1 := (Nt p hp).1
  have h2 := (N _ hk).1
  rw [e, h2] at h1
  obtain ⟨l, n, q⟩ := (T p hp).2
  obtain ⟨es, ep, q', _⟩ := hc
  cases h1
  rw [q'] at q; cases q
theorem nApp (N : News g L h news) (N' : News g L h news') : News g L h (news ++ news') := fun p hp => (List.mem_append.mp hp).elim (N p) (N' p)
theorem nL (N : News g L h (news ++ news')) : News g L h news := fun p hp => N p (List.mem_append.mpr (.inl hp))
theorem nR (N : News g L h (news ++ news')) : News g L h news' := fun p hp => N p (List.mem_append.mpr (.inr hp))

theorem Tup.persist {a : Addr} {l : List Value} (x : Tup h a l) (F : Fr g L h m) : ∃ tl, News g L h tl ∧ AllTup tl ∧ ∀ h', Keep g h' → News g L h' tl → Tup h' a l := by
  obtain ⟨n, e⟩ := x
  cases q : g.get? a with
  | some o =>
    have := F.keep _ _ q
    rw [e] at this; cases this
    exact ⟨[], News.nil, (fun _ hp => nomatch hp), fun h' k _ => ⟨n, k _ _ q⟩⟩
  | none =>
    refine ⟨[(a, _)], fun p hp => ?_, fun p hp => ?_, fun h' _ N => ⟨n, (N (a, _) (.head _)).1⟩⟩
    · rw [List.mem_singleton.mp hp]
      refine ⟨e, ?_, q⟩
      rintro rfl
      obtain ⟨oL, _, _, hL, hd, _⟩ := F.ns
      rw [e] at hL; cases hL; cases hd
    · rw [List.mem_singleton.mp hp]; exact ⟨rfl, _, _, rfl⟩
theorem TIn.persist (F : Fr g L h m) : ∀ {t : T} {x : Value}, TIn h t x → ∃ tl, News g L h tl ∧ AllTup tl ∧ ∀ h', Keep g h' → News g L h' tl → TIn h' t x
  | .v i, x, ⟨a, tk, tk', e, p⟩ => by
    obtain ⟨tl, N, A, q⟩ := p.persist F
    exact ⟨tl, N, A, fun h' k n => ⟨a, tk, tk', e, q h' k n⟩⟩
  | .c c i, x, ⟨a, tk, tk', e, r, p⟩ => by
    obtain ⟨tl, N, A, q⟩ := p.persist F
    exact ⟨tl, N, A, fun h' k n => ⟨a, tk, tk', e, r, q h' k n⟩⟩
  | .s1 t, x, ⟨a, b, y, tk, tk', e, p1, p2, p3⟩ => by
    obtain ⟨tl1, N1, A1, q1⟩ := p1.persist F
    obtain ⟨tl2, N2, A2, q2⟩ := p2.persist F
    obtain ⟨tl3, N3, A3, q3⟩ := TIn.persist F p3
    exact ⟨tl1 ++ (tl2 ++ tl3), nApp N1 (nApp N2 N3), A1.append (A2.append A3), fun h' k n => ⟨a, b, y, tk, tk', e, q1 h' k (nL n), q2 h' k (nL (nR n)), q3 h' k (nR (nR n))⟩⟩
  | .s2 t u, x, ⟨a, b, y, z, tk, tk', e, p1, p2, p3, p4⟩ => by
    obtain ⟨tl1, N1, A1, q1⟩ := p1.persist F
    obtain ⟨tl2, N2, A2, q2⟩ := p2.persist F
    obtain ⟨tl3, N3, A3, q3⟩ := TIn.persist F p3
    obtain ⟨tl4, N4, A4, q4⟩ := TIn.persist F p4
    exact ⟨tl1 ++ (tl2 ++ (tl3 ++ tl4)), nApp N1 (nApp N2 (nApp N3 N4)), A1.append (A2.append (A3.append A4)), fun h' k n => ⟨a, b, y, z, tk, tk', e, q1 h' k (nL n), q2 h' k (nL (nR n)), q3 h' k (nL (nR (nR n))), q4 h' k (nR (nR (nR n)))⟩⟩
theorem news_one (N : News g L h news) (hm : (k, o) ∈ news) : News g L h [(k, o)] := fun p hp => by rw [List.mem_singleton.mp hp]; exact N _ hm
theorem tup_of {a : Addr} {l : List Value} {n : Nat} (N : News g L h news) (hm : (a, ({ cls := .type "tuple", data := .seq l.toArray n } : Obj)) ∈ news) : Tup h a l := ⟨n, (N _ hm).1⟩
end
end
section
def NoE : Value → Shared → Prop := fun _ _ => False

/-- an element's end: it is laid behind the others -/
def ElEnd (prog : Program) (w : World) (A : Around) (D : Addr) (W : List Value → Shared → Prop) (ys : List Value) (y : Value) (s₅ : Shared) : Prop :=
  wpAny (model prog w) A (call (.builtin "list.append") [.ref D, y]) (fun _ s₆ => W (ys ++ [y]) s₆) NoE s₅
/-- a comprehension's turn -/
def CompStep (prog : Program) (w : World) (A : Around) (elt : Expr) (x : Str) (px : Pos) (cenv : Env) (C D : Addr) (W : List Value → Shared → Prop) (Q : Value → Shared → Prop) (ys : List Value) (r : Option Value) (s₃ : Shared) : Prop := match r with
  | none => ∃ m', s₃.heap.Ns C m' ∧ ∀ h'', Heap.SameBut C s₃.heap h'' → Q (.ref D) { s₃ with heap := h'' }
  | some v => wpAny (model prog w) A (assign (.Name x px) cenv v) (fun _ s₄ => wpAny (model prog w) A (eval elt cenv) (ElEnd prog w A D W ys) NoE s₄) NoE s₃
/-- a comprehension's loop, from its iterator on -/
def CompLoop (prog : Program) (w : World) (A : Around) (elt : Expr) (x : Str) (px : Pos) (scope : Scope) (cl : List (Str × Addr)) (env : Env) (Q : Value → Shared → Prop) (it : Value) (s₂ : Shared) : Prop :=
  (∀ (h' : Heap) (tk : Nat) (Q' : Value → Shared → Prop) (E' : Value → Shared → Prop), Keep s₂.heap h' → Q' it { s₂ with heap := h', toks := tk } → wpAny (model prog w) A (pyIter it) Q' E' { s₂ with heap := h', toks := tk }) ∧
  ∀ (D C : Addr) (h₁ : Heap) (tk : Nat) (W : List Value → Shared → Prop), Keep s₂.heap h₁ → s₂.heap.objs.size ≤ D → D < C → h₁.get? D = some (listOf (List.toArray []) 0) → h₁.Ns C (fun _ => none) →
    (∀ ys s', wpAny (model prog w) A (pyNext it) (CompStep prog w A elt x px (compEnvC scope cl C env) C D W Q ys) NoE s' → W ys s') → W [] { s₂ with heap := h₁, toks := tk }

section
variable {prog : Program} {w : World} {A : Around} {E : Value → Shared → Prop} {s : Shared} {env : Env}
theorem comp_turns {elt iter : Expr} {x : Str} {px : Pos} {scope : Scope} {cl : List (Str × Addr)} {pos : Pos} {Q : Value → Shared → Prop}
    (hclos : closureFor scope env = pure cl) (hcell : ∀ y ∈ scope.names, y.2 ≠ .cell) (hkind : scope.kind = .function)
    (hnames : ∀ y ∈ scope.names, y.2 = .local → scope.names.lookup y.1 = some .local)
    (h : wpAny (model prog w) A (eval iter env) (fun xv s₁ => wpAny (model prog w) A (pyIter xv) (CompLoop prog w A elt x px scope cl env Q) E s₁) E s)
    (hs : ∀ x, foldedSetIterable iter env x = pure x := by intro _; rfl) :
    wpAny (model prog w) A (eval (.ListComp elt [⟨.Name x px, iter, [], 0⟩] scope pos) env) Q E s := by
  rw [eval_ListComp]
  refine wpAny_comprehension_free (use := none) rfl hs hclos hkind hnames (wpAny_mono h (fun xv s₁ h₁ => wpAny_mono h₁ (fun it s₂ h₂ => ?_) fun _ _ e => e) fun _ _ e => e)
  obtain ⟨hself, hloop⟩ := h₂
  refine wpAny_newObj_type (wpAny_newFunctionEnv hcell (by intro y hy; simp at hy) (fun h₁ hns₁ hsb₁ => ?_) hkind)
  dsimp only at hns₁ hsb₁ ⊢
  generalize hH2 : s₂.heap.push { cls := .type "list", dict := none, data := .seq ([] : List Value).toArray } = H2 at hns₁ hsb₁ ⊢
  have hC : H2.objs.size = s₂.heap.objs.size + 1 := by rw [← hH2, Heap.size_push]
  have hDC : s₂.heap.objs.size ≠ H2.objs.size := by rw [hC]; exact Nat.ne_of_lt (Nat.lt_succ_self _)
  have old : ∀ b o, s₂.heap.get? b = some o → h₁.get? b = some o := fun b o e => by
    have hb := Heap.lt_size e
    have hbC : b ≠ H2.objs.size := by rw [hC]; exact Nat.ne_of_lt (Nat.lt_succ_of_lt hb)
    exact hsb₁.extBut b o hbC (Heap.get?_push_of_some _ (hH2 ▸ Heap.get?_push_of_some _ e))
  have hacc : h₁.get? s₂.heap.objs.size = some (listOf (List.toArray []) 0) := hsb₁.extBut _ _ hDC (Heap.get?_push_of_some _ (hH2 ▸ Heap.get?_push_size _ rfl))
  let R : Result → Shared → Prop := compPost (model prog w) A E none Q (.ref s₂.heap.objs.size) H2.objs.size
  have go : codeAny (model prog w) A (.compLoop (.ListComp elt [⟨.Name x px, iter, [], 0⟩] scope pos) 0 it (.ref s₂.heap.objs.size) (compEnvC scope cl H2.objs.size env)) R { s₂ with heap := h₁, toks := s₂.toks + ([] : List (Str × Value)).length } := by
    refine hloop s₂.heap.objs.size H2.objs.size h₁ _ (fun _ s' => codeAny (model prog w) A (.compLoop (.ListComp elt [⟨.Name x px, iter, [], 0⟩] scope pos) 0 it (.ref s₂.heap.objs.size) (compEnvC scope cl H2.objs.size env)) R s')
      old (Nat.le_refl _) (by rw [hC]; exact Nat.lt_succ_self _) hacc (by simpa using hns₁) fun ys s' t => ?_
    refine codeAny_of_tree ?_
    show wpAny _ A ((compTurn (.ListComp elt [⟨.Name x px, iter, [], 0⟩] scope pos) 0 it (.ref s₂.heap.objs.size) (compEnvC scope cl H2.objs.size env)).onRaise (fun x => do noteFrame x (compEnvC scope cl H2.objs.size env); theTreesLotGoes x)) _ _ s'
    refine wpAny_noted ?_
    rw [compTurn_list1]
    refine wpAny_bind (wpAny_standAt (wpAny_bind (wpAny_mono t (fun r s₁ h₁ => ?_) fun _ _ (e : False) => e.elim)))
    cases r with
    | none => exact wpAny_pure h₁
    | some v =>
      refine wpAny_bind (wpAny_of_eq (a := ()) rfl ?_)
      refine wpAny_bind (wpAny_mono h₁ (fun _ s₂ h₂ => ?_) fun _ _ (e : False) => e.elim)
      refine wpAny_bind (wpAny_bind (wpAny_mono h₂ (fun y s₃ h₃ => ?_) fun _ _ (e : False) => e.elim))
      exact wpAny_bind (wpAny_mono h₃ (fun _ s₄ h₄ => wpAny_pure (wpAny_pure ⟨rfl, h₄⟩)) fun _ _ (e : False) => e.elim)
  exact codeAny_compStart_list go (hself _ _ _ _ old go)
end

/-- what an iterator's object gives next, over a base -/
def NextIs (prog : Program) (w : World) (A : Around) (g : Heap) (I : Addr) (o : Obj) (P : Value → Obj → Prop) : Prop :=
  ∀ (s : Shared) (Q : Option Value → Shared → Prop) (E : Value → Shared → Prop), Keep g s.heap → s.heap.get? I = some o →
    (∀ v o' h' tk, P v o' → Keeps [I] s.heap h' → h'.get? I = some o' → Q (some v) { s with heap := h', toks := tk }) → wpAny (model prog w) A (pyNext (.ref I)) Q E s
def NextEnd (prog : Program) (w : World) (A : Around) (g : Heap) (I : Addr) (o : Obj) : Prop :=
  ∀ (s : Shared) (Q : Option Value → Shared → Prop) (E : Value → Shared → Prop), Keep g s.heap → s.heap.get? I = some o →
    (∀ h' tk, Keeps [I] s.heap h' → Q none { s with heap := h', toks := tk }) → wpAny (model prog w) A (pyNext (.ref I)) Q E s

section
variable {prog : Program} {w : World} {A : Around} {g : Heap} {I b : Addr} {o : Obj} {i : Nat} {items : List Value}
theorem next_tup {v : Value} (hc : o.cls = .type "tuple_iterator") (hd : o.data = .fields #[.ref b, .int (i : Nat) 0]) (hb : IsTup g b items.toArray) (hv : items[i]? = some v) :
    NextIs prog w A g I o (fun u o' => u = v ∧ o'.cls = .type "tuple_iterator" ∧ o'.data = .fields #[.ref b, .int ((i + 1 : Nat) : Nat) 0]) := fun s Q E k ho h => by
  have hls : s.heap.IsTuple b items.toArray := Heap.IsTuple.at hb fun o e => k b o e
  refine wpAny_pyNext_tuple_item (⟨o, ho, hc, hd⟩ : s.heap.IsTupleIter I b i) hls (x := v) (by simpa using hv) fun h' hit' hs' => ?_
  obtain ⟨o', ho', hc', hd'⟩ := hit'
  exact h v o' h' s.toks ⟨rfl, hc', hd'⟩ (fun c oc hn e => hs'.extBut c oc (by simpa using hn) e) ho'
theorem end_tup (hh : A.handled = none) (hc : o.cls = .type "tuple_iterator") (hd : o.data = .fields #[.ref b, .int (i : Nat) 0]) (hb : IsTup g b items.toArray) (hv : items.length = i) :
    NextEnd prog w A g I o := fun s Q E k ho h => by
  have hls : s.heap.IsTuple b items.toArray := Heap.IsTuple.at hb fun o e => k b o e
  refine wpAny_pyNext_tuple_end hh (⟨o, ho, hc, hd⟩ : s.heap.IsTupleIter I b i) hls (by simp [hv]) fun h' he' => ?_
  exact h h' s.toks (fun c oc hn e => he' c oc (by simpa using hn) e)
theorem next_range {x left : Int} (hl : 0 < left) : NextIs prog w A g I (itR x left) (fun u o' => (∃ t, u = .int x t) ∧ o' = itR (x + 1) (left - 1)) := fun s Q E k ho h => by
  refine wpAny_pyNext_range_item (step := 1) ho hl fun h' hit' hs' => ?_
  exact h _ _ h' _ ⟨⟨_, rfl⟩, rfl⟩ (fun c oc hn e => hs'.extBut c oc (by simpa using hn) e) hit'
theorem end_range {x left : Int} (hh : A.handled = none) (hl : left ≤ 0) : NextEnd prog w A g I (itR x left) := fun s Q E k ho h => by
  refine wpAny_pyNext_range_end (step := 1) hh ho hl fun h' he' => ?_
  exact h h' s.toks (fun c oc hn e => he' c oc (by simpa using hn) e)
end

section
variable {prog : Program} {w : World} {A : Around} {E : Value → Shared → Prop} {s : Shared} {env : Env} {g : Heap} {L I C D : Addr} {m m₀ : Str → Option Value} {o oC oD : Obj} {news news' : List (Addr × Obj)}
  {elt : Expr} {x : Str} {px : Pos} {scope : Scope} {cl : List (Str × Addr)} {W : List Value → Shared → Prop} {Q : Value → Shared → Prop} {ys : List Value} {P : Value → Obj → Prop}

/-- from the loop's start to the first turn -/
theorem comp_start (F : Fr g L s.heap m) (N : News g L s.heap ((I, o) :: news))
    (hself : ∀ (h' : Heap) (tk : Nat) (Q' : Value → Shared → Prop) (E' : Value → Shared → Prop), Keep s.heap h' → Q' (.ref I) { s with heap := h', toks := tk } → wpAny (model prog w) A (pyIter (.ref I)) Q' E' { s with heap := h', toks := tk })
    (h : ∀ D C h₁ tk oC W, Fr g L h₁ m → News g L h₁ ((I, o) :: (C, oC) :: (D, listOf (List.toArray []) 0) :: news) → LCg.NsObj oC (fun _ => none) → (∀ p ∈ (I, o) :: news, p.1 < D) → D < C →
      (∀ ys s', wpAny (model prog w) A (pyNext (.ref I)) (CompStep prog w A elt x px (compEnvC scope cl C env) C D W Q ys) NoE s' → W ys s') → W [] { s with heap := h₁, toks := tk }) :
    CompLoop prog w A elt x px scope cl env Q (.ref I) s := by
  refine ⟨hself, fun D C h₁ tk W k hD hDC hacc hns turn => ?_⟩
  obtain ⟨oC, heC, hoC⟩ := LCg.ns_obj hns
  have hLD : L < D := Nat.lt_of_lt_of_le F.ns.lt hD
  have new : ∀ a, D ≤ a → a ≠ L ∧ g.get? a = none := fun a ha => ⟨Nat.ne_of_gt (Nat.lt_of_lt_of_le hLD ha), Heap.get?_none_of_le (Nat.le_trans F.above (Nat.le_trans (Nat.le_of_lt hLD) ha))⟩
  refine h D C h₁ tk oC W (F.keeps k) (fun p hp => ?_) hoC (fun p hp => Nat.lt_of_lt_of_le (Heap.lt_size (N p hp).1) hD) hDC turn
  rcases List.mem_cons.mp hp with rfl | hp
  · exact ⟨k _ _ (N _ (.head _)).1, (N _ (.head _)).2⟩
  · rcases List.mem_cons.mp hp with rfl | hp
    · exact ⟨heC, new _ (Nat.le_of_lt hDC)⟩
    · rcases List.mem_cons.mp hp with rfl | hp
      · exact ⟨hacc, new _ (Nat.le_refl _)⟩
      · exact ⟨k _ _ (N _ (.tail _ hp)).1, (N _ (.tail _ hp)).2⟩

/-- a turn -/
theorem comp_next (F : Fr g L s.heap m) (N : News g L s.heap ((I, o) :: (C, oC) :: (D, oD) :: news)) (nx : NextIs prog w A g I o P) (hC : LCg.NsObj oC m₀)
    (hIC : @Ne Nat I C) (hID : @Ne Nat I D) (hDC : @Ne Nat D C) (offI : ∀ p ∈ news, p.1 ≠ I) (offC : ∀ p ∈ news, p.1 ≠ C)
    (hkind : scope.kind = .function) (hx : scope.names.lookup x = some .local)
    (h : ∀ v o' h' tk oC' m', P v o' → Fr g L h' m → News g L h' ((I, o') :: (C, oC') :: (D, oD) :: news) → LCg.NsObj oC' m' → m' x = some v →
      wpAny (model prog w) A (eval elt (compEnvC scope cl C env)) (ElEnd prog w A D W ys) NoE { s with heap := h', toks := tk }) :
    wpAny (model prog w) A (pyNext (.ref I)) (CompStep prog w A elt x px (compEnvC scope cl C env) C D W Q ys) NoE s := by
  have zI := N _ (.head _)
  have zC := N _ (.tail _ (.head _))
  have zD := N _ (.tail _ (.tail _ (.head _)))
  refine nx s _ _ F.keep zI.1 fun v o' h₂ tk₂ hP hk₂ ho' => ?_
  have F₂ := fr_keeps F hk₂ (by simpa using Ne.symm zI.2.1) (by simpa using zI.2.2)
  have zC₂ : h₂.get? C = some oC := hk₂ _ _ (by simpa using Ne.symm hIC) zC.1
  refine wpAny_assign_Name (wpAny_storeName_local (lookup_relabel_local hx) (hC.ns zC₂) (fun h₃ hn₃ hs₃ => ?_) (by simp [compEnvC, relabel, hkind]))
  obtain ⟨oC', heC', hoC'⟩ := LCg.ns_obj hn₃
  have F₃ : Fr g L h₃ m := F₂.change hs₃ zC.2.1 zC.2.2
  refine h v o' h₃ _ oC' _ hP F₃ (fun p hp => ?_) hoC' (by simp)
  rcases List.mem_cons.mp hp with rfl | hp
  · exact ⟨hs₃.extBut _ _ hIC ho', zI.2⟩
  · rcases List.mem_cons.mp hp with rfl | hp
    · exact ⟨heC', zC.2⟩
    · rcases List.mem_cons.mp hp with rfl | hp
      · exact ⟨hs₃.extBut _ _ hDC (hk₂ _ _ (by simpa using Ne.symm hID) zD.1), zD.2⟩
      · have z := N _ (.tail _ (.tail _ (.tail _ hp)))
        exact ⟨hs₃.extBut _ _ (offC p hp) (hk₂ _ _ (by simpa using offI p hp) z.1), z.2⟩

/-- an element is laid behind the others -/
theorem comp_el {y : Value} {n : Nat} (F : Fr g L s.heap m) (N : News g L s.heap news) (U : Upd D (listOf ys.toArray n) (listOf (ys ++ [y]).toArray (n + 1)) news news') (hlen : ys.length ≤ 5000)
    (h : ∀ h', Fr g L h' m → News g L h' news' → W (ys ++ [y]) { s with heap := h' }) : ElEnd prog w A D W ys y s := by
  obtain ⟨pre, post, rfl, rfl, a, c⟩ := U.split
  have z := N (D, listOf ys.toArray n) (List.mem_append.mpr (.inr (.head _)))
  refine append_at z.1 (fun h' hs' hD' => ?_) (by rw [sizeLine_eq]; simp; omega)
  refine h h' (F.change hs' z.2.1 z.2.2) (news_set N a c hs' ?_)
  rw [hD']; simp

/-- the end -/
theorem comp_end (F : Fr g L s.heap m) (N : News g L s.heap ((I, o) :: (C, oC) :: (D, oD) :: news)) (ne : NextEnd prog w A g I o) (hC : LCg.NsObj oC m₀)
    (hIC : @Ne Nat I C) (hID : @Ne Nat I D) (hDC : @Ne Nat D C) (offI : ∀ p ∈ news, p.1 ≠ I) (offC : ∀ p ∈ news, p.1 ≠ C)
    (h : ∀ h' tk, Fr g L h' m → News g L h' ((D, oD) :: news) → Q (.ref D) { s with heap := h', toks := tk }) :
    wpAny (model prog w) A (pyNext (.ref I)) (CompStep prog w A elt x px (compEnvC scope cl C env) C D W Q ys) NoE s := by
  have zI := N _ (.head _)
  have zC := N _ (.tail _ (.head _))
  have zD := N _ (.tail _ (.tail _ (.head _)))
  refine ne s _ _ F.keep zI.1 fun h₂ tk₂ hk₂ => ?_
  have F₂ := fr_keeps F hk₂ (by simpa using Ne.symm zI.2.1) (by simpa using zI.2.2)
  refine ⟨m₀, hC.ns (hk₂ _ _ (by simpa using Ne.symm hIC) zC.1), fun h'' hs'' => h h'' tk₂ (F₂.change hs'' zC.2.1 zC.2.2) fun p hp => ?_⟩
  rcases List.mem_cons.mp hp with rfl | hp
  · exact ⟨hs''.extBut _ _ hDC (hk₂ _ _ (by simpa using Ne.symm hID) zD.1), zD.2⟩
  · have z := N _ (.tail _ (.tail _ (.tail _ hp)))
    exact ⟨hs''.extBut _ _ (offC p hp) (hk₂ _ _ (by simpa using offI p hp) z.1), z.2⟩

/-- the iterator of a range, of a tuple of the base -/
theorem comp_range {r : Addr} {a b : Int} {t u v : Tok} {n : Int} (hr : IsRange s.heap r a b 1 t u v) (hsm : Builtin.Range.small a b 1 = true) (hn : Builtin.Range.rangeSize a b 1 = n) (F : Fr g L s.heap m) (N : News g L s.heap news)
    (h : ∀ I h', Fr g L h' m → News g L h' ((I, itR a n) :: news) → (∀ p ∈ news, p.1 < I) →
      (∀ (h'' : Heap) (tk : Nat) (Q' : Value → Shared → Prop) (E' : Value → Shared → Prop), Keep h' h'' → Q' (.ref I) { s with heap := h'', toks := tk } → wpAny (model prog w) A (pyIter (.ref I)) Q' E' { s with heap := h'', toks := tk }) →
      CompLoop prog w A elt x px scope cl env Q (.ref I) { s with heap := h' }) :
    wpAny (model prog w) A (pyIter (.ref r)) (CompLoop prog w A elt x px scope cl env Q) E s := by
  refine wpAny_pyIter_range hr hsm ?_
  subst hn
  refine h s.heap.objs.size _ (F.push _) (News.push F N _) (fun p hp => Heap.lt_size (N p hp).1) fun h'' tk Q' E' k q => ?_
  exact wpAny_pyIter_rangeiter (x := a) (left := Builtin.Range.rangeSize a b 1) (step := 1) (k _ _ (Heap.get?_push_size _ rfl)) q
theorem comp_tuple {b : Addr} {items : List Value} (hb : IsTup g b items.toArray) (F : Fr g L s.heap m) (N : News g L s.heap news)
    (h : ∀ I o h', Fr g L h' m → News g L h' ((I, o) :: news) → (∀ p ∈ news, p.1 < I) → o.cls = .type "tuple_iterator" → o.data = .fields #[.ref b, .int (0 : Nat) 0] →
      (∀ (h'' : Heap) (tk : Nat) (Q' : Value → Shared → Prop) (E' : Value → Shared → Prop), Keep h' h'' → Q' (.ref I) { s with heap := h'', toks := tk } → wpAny (model prog w) A (pyIter (.ref I)) Q' E' { s with heap := h'', toks := tk }) →
      CompLoop prog w A elt x px scope cl env Q (.ref I) { s with heap := h' }) :
    wpAny (model prog w) A (pyIter (.ref b)) (CompLoop prog w A elt x px scope cl env Q) E s := by
  have hls : s.heap.IsTuple b items.toArray := Heap.IsTuple.at hb fun o e => F.keep b o e
  refine wpAny_pyIter_tuple hls ?_
  refine h s.heap.objs.size _ _ (F.push _) (News.push F N _) (fun p hp => Heap.lt_size (N p hp).1) rfl rfl fun h'' tk Q' E' k q => ?_
  exact wpAny_pyIter_tupleiter (t := b) (i := 0) ⟨_, k _ _ (Heap.get?_push_size _ rfl), rfl, rfl⟩ q
end

/-- a stop at a comprehension -/
def AtComp (M : Model) (A : Around) (elt : Expr) (gens : List Comprehension) (scope : Scope) (pos : Pos) (env : Env) (Q E : Value → Shared → Prop) (s : Shared) : Prop := wpAny M A (eval (.ListComp elt gens scope pos) env) Q E s
theorem at_comp {M : Model} {A : Around} {elt : Expr} {gens : List Comprehension} {scope : Scope} {pos : Pos} {env : Env} {Q E : Value → Shared → Prop} {s : Shared} (h : AtComp M A elt gens scope pos env Q E s) : wpAny M A (eval (.ListComp elt gens scope pos) env) Q E s := h
theorem AtComp.turns {prog : Program} {w : World} {A : Around} {E : Value → Shared → Prop} {s : Shared} {env : Env} {elt iter : Expr} {x : Str} {px : Pos} {scope : Scope} {cl : List (Str × Addr)} {pos : Pos} {Q : Value → Shared → Prop}
    (hclos : closureFor scope env = pure cl) (hcell : ∀ y ∈ scope.names, y.2 ≠ .cell) (hkind : scope.kind = .function)
    (hnames : ∀ y ∈ scope.names, y.2 = .local → scope.names.lookup y.1 = some .local)
    (h : wpAny (model prog w) A (eval iter env) (fun xv s₁ => wpAny (model prog w) A (pyIter xv) (CompLoop prog w A elt x px scope cl env Q) E s₁) E s)
    (hs : ∀ x, foldedSetIterable iter env x = pure x := by intro _; rfl) : AtComp (model prog w) A elt [⟨.Name x px, iter, [], 0⟩] scope pos env Q E s :=
  comp_turns hclos hcell hkind hnames h hs

/-- the value stands for t by new tuples alone -/
def TNew (h : Heap) (t : T) (r : Value) (h' : Heap) : Prop :=
  ∃ tl, AllTup tl ∧ (∀ p ∈ tl, h.get? p.1 = none ∧ h'.get? p.1 = some p.2) ∧ ∀ h'' : Heap, (∀ p ∈ tl, h''.get? p.1 = some p.2) → TIn h'' t r
theorem TNew.tin {h h' : Heap} {t : T} {r : Value} (x : TNew h t r h') : TIn h' t r := let ⟨_, _, a, b⟩ := x; b h' fun p hp => (a p hp).2
section
variable {g h h' : Heap} {L k a : Addr} {m : Str → Option Value} {o : Obj} {news tl : List (Addr × Obj)}
theorem tl_news (F : Fr g L h m) (hf : ∀ p ∈ tl, h.get? p.1 = none ∧ h'.get? p.1 = some p.2) : News g L h' tl := fun p hp => by
  refine ⟨(hf p hp).2, fun e => ?_, ?_⟩
  · obtain ⟨oL, _, _, hL, _⟩ := F.ns
    rw [← e, (hf p hp).1] at hL; cases hL
  · cases e : g.get? p.1 with
    | none => rfl
    | some o' => have := F.keep _ _ e; rw [(hf p hp).1] at this; cases this
theorem tl_ne (N : News g L h news) (hm : (a, o) ∈ news) (hf : ∀ p ∈ tl, h.get? p.1 = none ∧ h'.get? p.1 = some p.2) : ∀ p ∈ tl, p.1 ≠ a := fun p hp e => by
  have h1 := (hf p hp).1
  rw [e, (N _ hm).1] at h1; cases h1
theorem fresh_k {h₀ : Heap} (KG : Keeps [k] h₀ g) (N : News g L h' tl) (hk : ∀ p ∈ tl, p.1 ≠ k) : ∀ p ∈ tl, h₀.get? p.1 = none ∧ h'.get? p.1 = some p.2 := fun p hp => by
  refine ⟨?_, (N p hp).1⟩
  cases e : h₀.get? p.1 with
  | none => rfl
  | some o' => have := KG _ _ (by simpa using hk p hp) e; rw [(N p hp).2.2] at this; cases this
end
end
section
section
variable {prog : Program} {w : World} {A : Around} {E : Value → Shared → Prop} {s : Shared} {env : Env} {target : Expr} {body : List Stmt} {Q : Flow → Shared → Prop} {W : Shared → Prop} {g : Heap} {L b I : Addr} {m : Str → Option Value} {items : List Value} {news : List (Addr × Obj)} {o : Obj} {i n : Nat}
theorem list_iter (F : Fr g L s.heap m) (N : News g L s.heap news) (hm : (b, listOf items.toArray n) ∈ news)
    (h : ∀ I h' o, Fr g L h' m → News g L h' ((I, o) :: news) → (∀ p ∈ news, p.1 < I) → o.cls = .type "list_iterator" → o.data = .fields #[.ref b, .int (0 : Nat) 0] → ForLoop prog w A env target body Q E (.ref I) { s with heap := h' }) :
    wpAny (model prog w) A (pyIter (.ref b)) (ForLoop prog w A env target body Q E) E s := by
  have hls : s.heap.IsList b items.toArray := ⟨_, (N _ hm).1, rfl, n, rfl⟩
  refine wpAny_pyIter_list hls ?_
  exact h s.heap.objs.size _ _ (F.push _) (News.push F N _) (fun p hp => Heap.lt_size (N p hp).1) rfl rfl
theorem list_next {v : Value} (F : Fr g L s.heap m) (N : News g L s.heap ((I, o) :: news)) (off : ∀ p ∈ news, p.1 ≠ I) (hc : o.cls = .type "list_iterator") (hd : o.data = .fields #[.ref b, .int (i : Nat) 0])
    (hm : (b, listOf items.toArray n) ∈ news) (hv : items[i]? = some v)
    (h : ∀ h' o', Fr g L h' m → News g L h' ((I, o') :: news) → o'.cls = .type "list_iterator" → o'.data = .fields #[.ref b, .int ((i + 1 : Nat) : Nat) 0] →
      wpAny (model prog w) A (assign target env v) (fun _ s₅ => wpAny (model prog w) A (execs body env) (TurnEnd W Q) E s₅) E { s with heap := h' }) :
    wpAny (model prog w) A (pyNext (.ref I)) (ForStep prog w A env target body W Q E) E s := by
  have hls : s.heap.IsList b items.toArray := ⟨_, (N _ (.tail _ hm)).1, rfl, n, rfl⟩
  have zI := N _ List.mem_cons_self
  have hit : s.heap.IsListIter I b i := ⟨o, zI.1, hc, hd⟩
  refine wpAny_pyNext_list_item hit hls (x := v) (by simpa using hv) fun h' hit' hs' => ?_
  obtain ⟨o', ho', hc', hd'⟩ := hit'
  have k : Keeps [I] s.heap h' := fun c oc hn e => hs'.extBut c oc (by simpa using hn) e
  refine h h' o' (fr_keeps F k (by simpa using Ne.symm zI.2.1) (by simpa using zI.2.2)) (fun p hp => ?_) hc' hd'
  rcases List.mem_cons.mp hp with rfl | hp
  · exact ⟨ho', zI.2⟩
  · exact news_keeps (fun p hp => N p (List.mem_cons_of_mem _ hp)) k (by simpa using off) p hp
theorem list_end (F : Fr g L s.heap m) (N : News g L s.heap ((I, o) :: news)) (off : ∀ p ∈ news, p.1 ≠ I) (hc : o.cls = .type "list_iterator") (hd : o.data = .fields #[.ref b, .int (i : Nat) 0])
    (hm : (b, listOf items.toArray n) ∈ news) (hh : A.handled = none) (hv : items.length = i)
    (h : ∀ h', Fr g L h' m → News g L h' news → Q .next { s with heap := h' }) :
    wpAny (model prog w) A (pyNext (.ref I)) (ForStep prog w A env target body W Q E) E s := by
  have hls : s.heap.IsList b items.toArray := ⟨_, (N _ (.tail _ hm)).1, rfl, n, rfl⟩
  have zI := N _ List.mem_cons_self
  have hit : s.heap.IsListIter I b i := ⟨o, zI.1, hc, hd⟩
  refine wpAny_pyNext_list_end hh hit hls (by simp [hv]) fun h' he' => ?_
  have k : Keeps [I] s.heap h' := fun c oc hn e => he' c oc (by simpa using hn) e
  exact h h' (fr_keeps F k (by simpa using Ne.symm zI.2.1) (by simpa using zI.2.2)) (news_keeps (fun p hp => N p (List.mem_cons_of_mem _ hp)) k (by simpa using off))
theorem list_app {D : Addr} {xs : List Value} {y : Value} {news' : List (Addr × Obj)} {Q : Value → Shared → Prop} (F : Fr g L s.heap m) (N : News g L s.heap news) (U : Upd D (listOf xs.toArray n) (listOf (xs ++ [y]).toArray (n + 1)) news news') (hlen : xs.length ≤ 5000)
    (h : ∀ h', Fr g L h' m → News g L h' news' → Q .none { s with heap := h' }) : wpAny (model prog w) A (call (.builtin "list.append") [.ref D, y]) Q E s := by
  obtain ⟨pre, post, rfl, rfl, a, c⟩ := U.split
  have z := N (D, listOf xs.toArray n) (List.mem_append.mpr (.inr (.head _)))
  refine append_at z.1 (fun h' hs' hD' => ?_) (by rw [sizeLine_eq]; simp; omega)
  refine h h' (F.change hs' z.2.1 z.2.2) (news_set N a c hs' ?_)
  rw [hD']; simp
end
end
section
section
variable {prog : Program} {w : World} {A : Around} {E : Value → Shared → Prop} {s : Shared} {env : Env} {target : Expr} {body : List Stmt} {Q : Flow → Shared → Prop} {W : Shared → Prop} {g : Heap} {L b I : Addr} {m : Str → Option Value} {news : List (Addr × Obj)} {o : Obj} {P : Value → Obj → Prop}
/-- a turn of a for, by what its iterator gives -/
theorem for_next (F : Fr g L s.heap m) (N : News g L s.heap ((I, o) :: news)) (off : ∀ p ∈ news, p.1 ≠ I) (nx : NextIs prog w A g I o P)
    (h : ∀ v o' h' tk, P v o' → Fr g L h' m → News g L h' ((I, o') :: news) →
      wpAny (model prog w) A (assign target env v) (fun _ s₅ => wpAny (model prog w) A (execs body env) (TurnEnd W Q) E s₅) E { s with heap := h', toks := tk }) :
    wpAny (model prog w) A (pyNext (.ref I)) (ForStep prog w A env target body W Q E) E s := by
  have zI := N _ (.head _)
  refine nx s _ _ F.keep zI.1 fun v o' h₂ tk₂ hP hk₂ ho' => ?_
  refine h v o' h₂ tk₂ hP (fr_keeps F hk₂ (by simpa using Ne.symm zI.2.1) (by simpa using zI.2.2)) fun p hp => ?_
  rcases List.mem_cons.mp hp with rfl | hp
  · exact ⟨ho', zI.2⟩
  · exact news_keeps (fun p hp => N p (List.mem_cons_of_mem _ hp)) hk₂ (by simpa using off) p hp
theorem for_end (F : Fr g L s.heap m) (N : News g L s.heap ((I, o) :: news)) (off : ∀ p ∈ news, p.1 ≠ I) (ne : NextEnd prog w A g I o)
    (h : ∀ h' tk, Fr g L h' m → News g L h' news → Q .next { s with heap := h', toks := tk }) :
    wpAny (model prog w) A (pyNext (.ref I)) (ForStep prog w A env target body W Q E) E s := by
  have zI := N _ (.head _)
  refine ne s _ _ F.keep zI.1 fun h₂ tk₂ hk₂ => ?_
  exact h h₂ tk₂ (fr_keeps F hk₂ (by simpa using Ne.symm zI.2.1) (by simpa using zI.2.2)) (news_keeps (fun p hp => N p (List.mem_cons_of_mem _ hp)) hk₂ (by simpa using off))
theorem for_range {r : Addr} {a b : Int} {t u v : Tok} {n : Int} (hr : IsRange s.heap r a b 1 t u v) (hsm : Builtin.Range.small a b 1 = true) (hn : Builtin.Range.rangeSize a b 1 = n) (F : Fr g L s.heap m) (N : News g L s.heap news)
    (h : ∀ I h', Fr g L h' m → News g L h' ((I, itR a n) :: news) → (∀ p ∈ news, p.1 < I) → ForLoop prog w A env target body Q E (.ref I) { s with heap := h' }) :
    wpAny (model prog w) A (pyIter (.ref r)) (ForLoop prog w A env target body Q E) E s := by
  refine wpAny_pyIter_range hr hsm ?_
  subst hn
  exact h s.heap.objs.size _ (F.push _) (News.push F N _) fun p hp => Heap.lt_size (N p hp).1
end

/-- a dict's pairs and what they stand for -/
inductive KR {α : Type} (R : α → Value → Prop) : List (Int × Value) → List (Int × α) → Prop
  | nil : KR R [] []
  | cons {k : Int} {x : Value} {a : α} {r : List (Int × Value)} {r' : List (Int × α)} : R a x → KR R r r' → KR R ((k, x) :: r) ((k, a) :: r')
def put {α : Type} (l : List (Int × α)) (k : Int) (a : α) : List (Int × α) :=
  if l.any (fun p => p.1 = k) then l.map (fun p => if p.1 = k then (p.1, a) else p) else l ++ [(k, a)]
theorem lookup_cons' {α : Type} (k k' : Int) (a : α) (r : List (Int × α)) : ((k', a) :: r).lookup k = if k' = k then some a else r.lookup k := by
  by_cases e : k' = k
  · subst e; simp
  · have : (k == k') = false := by simpa using fun q => e q.symm
    simp [List.lookup, this, e]
section
variable {α : Type} {R R' : α → Value → Prop} {kvs : List (Int × Value)} {l : List (Int × α)} {k : Int} {a : α} {x : Value}
theorem KR.mono (f : ∀ a x, R a x → R' a x) (h : KR R kvs l) : KR R' kvs l := by
  induction h with
  | nil => exact .nil
  | cons p _ ih => exact .cons (f _ _ p) ih
theorem KR.length (h : KR R kvs l) : kvs.length = l.length := by
  induction h with
  | nil => rfl
  | cons p _ ih => simp [ih]
theorem KR.keys (h : KR R kvs l) : kvs.map (·.1) = l.map (·.1) := by
  induction h with
  | nil => rfl
  | cons p _ ih => simp [ih]
theorem KR.append {kvs' : List (Int × Value)} {l' : List (Int × α)} (h : KR R kvs l) (h' : KR R kvs' l') : KR R (kvs ++ kvs') (l ++ l') := by
  induction h with
  | nil => exact h'
  | cons p _ ih => exact .cons p ih
theorem KR.find (h : KR R kvs l) (k : Int) : (valueAt kvs k = none ∧ l.lookup k = none) ∨ ∃ x a, valueAt kvs k = some x ∧ l.lookup k = some a ∧ R a x := by
  induction h with
  | nil => exact .inl ⟨rfl, rfl⟩
  | @cons k' x a r r' p _ ih =>
    by_cases e : k' = k
    · subst e; exact .inr ⟨x, a, by simp [valueAt], by simp, p⟩
    · rw [lookup_cons', if_neg e]
      have : valueAt ((k', x) :: r) k = valueAt r k := by simp [valueAt, e]
      rw [this]; exact ih
theorem KR.get {i : Nat} (h : KR R kvs l) (hi : l[i]? = some (k, a)) : ∃ x, kvs[i]? = some (k, x) ∧ R a x := by
  induction h generalizing i with
  | nil => simp at hi
  | cons p _ ih =>
    cases i with
    | zero => simp at hi; obtain ⟨rfl, rfl⟩ := hi; exact ⟨_, rfl, p⟩
    | succ i => exact ih (by simpa using hi)
theorem KR.map (h : KR R kvs l) (hx : R a x) : KR R (kvs.map fun p => if p.1 = k then (p.1, x) else p) (l.map fun p => if p.1 = k then (p.1, a) else p) := by
  induction h with
  | nil => exact .nil
  | @cons k' _ _ _ _ p _ ih =>
    by_cases e : k' = k
    · subst e; simpa using KR.cons hx ih
    · simpa [e] using KR.cons p ih
theorem KR.stored (h : KR R kvs l) (hx : R a x) : KR R (stored kvs k x) (put l k a) := by
  have e : (kvs.any fun p => decide (p.1 = k)) = l.any fun p => decide (p.1 = k) := by
    have q : ∀ {β : Type} (u : List (Int × β)), (u.any fun p => decide (p.1 = k)) = (u.map (·.1)).any fun y => decide (y = k) := fun u => by simp [List.any_map, Function.comp_def]
    rw [q, q, h.keys]
  unfold PySem.stored put
  rw [e]
  split
  · exact h.map hx
  · exact h.append (.cons hx .nil)
theorem put_new (h : l.lookup k = none) : put l k a = l ++ [(k, a)] := by
  unfold put
  have : (l.any fun p => decide (p.1 = k)) = false := by
    induction l with
    | nil => rfl
    | cons p r ih =>
      obtain ⟨k', b⟩ := p
      rw [lookup_cons'] at h
      by_cases e : k' = k
      · simp [e] at h
      · rw [if_neg e] at h; simp [e, ih h]
  simp [this]
theorem lookup_none_of (h : ∀ p ∈ l, p.1 ≠ k) : l.lookup k = none := by
  induction l with
  | nil => rfl
  | cons p r ih =>
    obtain ⟨k', b⟩ := p
    rw [lookup_cons', if_neg (h _ (.head _))]
    exact ih fun q hq => h q (.tail _ hq)
end

/-- a table in a heap -/
def TabIn (prog : Program) (w : World) (h : Heap) (d : Addr) (tab : Tab) : Prop :=
  ∃ kvs, h.DictOf (intKind prog w) d kvs ∧ (d == sysModules) = false ∧ KR (TIn h) kvs tab
theorem TabIn.keep {prog : Program} {w : World} {h h' : Heap} {d : Addr} {tab : Tab} (k : Keep h h') (x : TabIn prog w h d tab) : TabIn prog w h' d tab :=
  let ⟨kvs, a, b, c⟩ := x; ⟨kvs, a.keep k, b, c.mono fun _ _ q => TIn.keep k q⟩
end
section
theorem owner_reversed : Manifest.owners.lookup (String.ofList ['d', 'e', 's', 'r', 'e', 'v', 'e', 'r'].reverse) = some Manifest.sig_reversed := by kernel_rfl
theorem slot_reversed_next : Slot "reversed" "__next__" "reversed.__next__" :=
  .of (owner := "reversed") (n := "__next__") (by rw [typeLookup_type, builtinLookup_eq_fast]; kernel_rfl) (by decide +kernel) (by decide +kernel) (by decide +kernel)
    (by first | exact .inl (by decide +kernel) | exact .inr (by decide +kernel)) (by rw [isSubtype_type]; kernel_rfl)
theorem entry_reversed_next : entryFor table "reversed.__next__" = some Builtin.«reversed.__next__» := entryFor_of_tree (by kernel_rfl)
theorem args_reversed_next_1 (a : Value) : argsOk "reversed.__next__" ⟨[a], []⟩ := by
  unfold argsOk; rw [signature?_of (id := "reversed.__next__") (n := ['_', '_', 't', 'x', 'e', 'n', '_', '_']) (o := ['d', 'e', 's', 'r', 'e', 'v', 'e', 'r']) (by kernel_rfl) owner_reversed]; kernel_rfl
theorem slot_reversed_iter : Slot "reversed" "__iter__" "reversed.__iter__" :=
  .of (owner := "reversed") (n := "__iter__") (by rw [typeLookup_type, builtinLookup_eq_fast]; kernel_rfl) (by decide +kernel) (by decide +kernel) (by decide +kernel)
    (by first | exact .inl (by decide +kernel) | exact .inr (by decide +kernel)) (by rw [isSubtype_type]; kernel_rfl)
theorem args_reversed_iter_1 (a : Value) : argsOk "reversed.__iter__" ⟨[a], []⟩ := by
  unfold argsOk; rw [signature?_of (id := "reversed.__iter__") (n := ['_', '_', 'r', 'e', 't', 'i', '_', '_']) (o := ['d', 'e', 's', 'r', 'e', 'v', 'e', 'r']) (by kernel_rfl) owner_reversed]; kernel_rfl
theorem entry_reversed_iter : entryFor table "reversed.__iter__" = some Builtin.«dict_keyiterator.__iter__» :=
  entryFor_alias (id' := "dict_keyiterator.__iter__") (by kernel_rfl) (by first | rfl | decide +kernel | (unfold String.splitOn; simp +decide [String.splitOnAux])) (by decide +kernel) (by kernel_rfl)
theorem slot_reversed_hint : Slot "reversed" "__length_hint__" "reversed.__length_hint__" :=
  .of (owner := "reversed") (n := "__length_hint__") (by rw [typeLookup_type, builtinLookup_eq_fast]; kernel_rfl) (by decide +kernel) (by decide +kernel) (by decide +kernel)
    (by first | exact .inl (by decide +kernel) | exact .inr (by decide +kernel)) (by rw [isSubtype_type]; kernel_rfl)
theorem entry_reversed_hint : entryFor table "reversed.__length_hint__" = some Builtin.«reversed.__length_hint__» := entryFor_of_tree (by kernel_rfl)
theorem args_reversed_hint_1 (a : Value) : argsOk "reversed.__length_hint__" ⟨[a], []⟩ := by
  unfold argsOk; rw [signature?_of (id := "reversed.__length_hint__") (n := ['_', '_', 't', 'n', 'i', 'h', '_', 'h', 't', 'g', 'n', 'e', 'l', '_', '_']) (o := ['d', 'e', 's', 'r', 'e', 'v', 'e', 'r']) (by kernel_rfl) owner_reversed]; kernel_rfl
theorem nolen_reversed : typeLookup (.type "reversed") "__len__" = pure none := by rw [typeLookup_type, builtinLookup_eq_fast]; kernel_rfl
theorem norev_tuple : typeLookup (.type "tuple") "__reversed__" = pure none := by rw [typeLookup_type, builtinLookup_eq_fast]; kernel_rfl
theorem init_reversed : Slot "reversed" "__init__" "object.__init__" :=
  .of (owner := "object") (n := "__init__") (by rw [typeLookup_type, builtinLookup_eq_fast]; kernel_rfl) (by decide +kernel) (by decide +kernel) (by decide +kernel)
    (by first | exact .inl (by decide +kernel) | exact .inr (by decide +kernel)) (by rw [isSubtype_type]; kernel_rfl)
theorem called_reversed : TypeCalled "reversed" "reversed.__new__" "object.__init__" :=
  ⟨by decide +kernel, F.create_reversed, ⟨_, _, F.mro_reversed⟩, F.made_reversed, F.plain_reversed_new, F.sub_reversed_self, init_reversed⟩

def revT (b : Addr) (i : Int) : Obj := { cls := .type "reversed", data := .fields #[.ref b, rawInt i] }
section
variable {prog : Program} {w : World} {A : Around} {E : Value → Shared → Prop} {s : Shared} {b I : Addr} {items : List Value} {n : Nat}

theorem reversed_new_tuple (hsz : items.length ≤ 5000) : MeetsIn prog w (Builtin.«reversed.__new__» ⟨[.type "reversed", .ref b], []⟩) (fun _ R s => IsT s.heap b items.toArray n ∧
      ∀ tk, R (.ok (.ret (.ref s.heap.objs.size))) { s with heap := s.heap.push (revT b ((items.length : Int) - 1)), toks := tk }) :=
  .of_wp fun A R s ⟨ht, h⟩ => by
    have hT : s.TypeIs (.ref b) "tuple" := ⟨_, ht, rfl⟩
    unfold Builtin.«reversed.__new__»
    refine wpAny_bind (wpAny_of_eq (newClass_reversed _) ?_)
    try dsimp only
    refine wpAny_bind (wpAny_of_eq (a := ()) (by first | rfl | kernel_rfl) ?_)
    refine wpAny_bind (wpAny_of_eq (a := ()) (by first | rfl | kernel_rfl) ?_)
    try dsimp only
    refine wpAny_bind (wpAny_specialOf hT norev_tuple ?_)
    try dsimp only
    refine wpAny_bind ?_
    wp_delta
    refine wpAny_bind (wpAny_isInstance (T := "tuple") (b := false) hT (by rw [isSubtype_type]; kernel_rfl) ?_)
    refine wpAny_ite_split (fun hab => absurd hab (by decide)) (fun _ => ?_)
    refine wpAny_bind (wpAny_specialOf hT F.slot_tuple_getitem.lookup ?_)
    try dsimp only
    refine wpAny_ite_split (fun _ => ?_) (fun hab => absurd (by decide +kernel) hab)
    refine wpAny_pure ?_
    refine wpAny_ite_split (fun hab => absurd hab (by decide)) (fun _ => ?_)
    refine wpAny_bind ?_
    refine P.len_tuple ht (by simp; omega) ?_
    refine wpAny_bind (m := asInt? (.int _ _)) (wpAny_pure ?_)
    dsimp only
    refine wpAny_bind ?_
    unfold Builtin.SmallTypes.newRecord
    refine wpAny_newObj_type (wpAny_pure ⟨_, rfl, ?_⟩)
    have e : ((items.toArray.size : Nat) : Int) - 1 = (items.length : Int) - 1 := by simp
    rw [e]
    exact h _

theorem call_reversed_tuple {Q : Value → Shared → Prop} (ht : IsT s.heap b items.toArray n) (hsz : items.length ≤ 5000)
    (h : ∀ tk, Q (.ref s.heap.objs.size) { s with heap := s.heap.push (revT b ((items.length : Int) - 1)), toks := tk }) : wpAny (model prog w) A (call (.type "reversed") [.ref b]) Q E s :=
  callType_newIn called_reversed (by decide) (F.typeCall_reversed_1 _) (F.newCall_reversed_1 _) (fun obj => F.args_object_init_2 obj _) F.entry_reversed_new
    (reversed_new_tuple hsz) ⟨ht, fun tk => ⟨⟨_, Heap.get?_push_size _ rfl, rfl⟩, h tk⟩⟩

/-- what the reversed object gives -/
theorem next_reversed {g : Heap} {i : Nat} {v : Value} {o : Obj} (ht : IsT g b items.toArray n) (hc : o.cls = .type "reversed") (hd : o.data = .fields #[.ref b, rawInt (i : Int)]) (hv : items[i]? = some v) (hsz : items.length ≤ 5000) :
    NextIs prog w A g I o (fun u o' => u = v ∧ o'.cls = .type "reversed" ∧ o'.data = .fields #[.ref b, rawInt ((i : Int) - 1)]) := fun s Q E k ho h => by
  have hi : i < items.length := by
    rcases Nat.lt_or_ge i items.length with h | h
    · exact h
    · rw [List.getElem?_eq_none h] at hv; cases hv
  have htb : IsT s.heap b items.toArray n := k _ _ ht
  have hT : s.TypeIs (.ref I) "reversed" := ⟨o, ho, hc⟩
  unfold pyNext
  refine wpAny_bind (wpAny_attempt (wpAny_callSpecial?_slot (name := Str.ofString "__next__") hT slot_reversed_next
    (wpAny_call_entry slot_reversed_next hT entry_reversed_next ?_ (args_reversed_next_1 _))))
  unfold Builtin.«reversed.__next__»
  refine wpAny_bind (wpAny_of_eq (a := (Value.ref I, [])) rfl ?_)
  try dsimp only
  refine wpAny_bind (wpAny_field ho hd (x := .ref b) rfl ?_)
  show wpAny _ _ (field (.ref I) 1 >>= _) _ _ s
  refine wpAny_bind (wpAny_field ho hd (x := rawInt (i : Int)) rfl ?_)
  show wpAny _ _ (if (i : Int) < 0 then _ else _) _ _ s
  rw [if_neg (by omega)]
  show wpAny _ _ (specialOf (.ref b) (Str.ofString "__getitem__") >>= _) _ _ s
  refine wpAny_bind (wpAny_specialOf ⟨_, htb, rfl⟩ F.slot_tuple_getitem.lookup ?_)
  show wpAny _ _ (mkInt (i : Int) >>= _) _ _ s
  refine wpAny_bind (wpAny_mkInt ?_)
  refine wpAny_bind (wpAny_attempt (P.getItem_tuple (k := i) (y := v) htb (by omega) (by omega) ?_ (by simpa using hv) ?_))
  · unfold seqIndex?
    simp; omega
  dsimp only
  refine wpAny_bind (wpAny_field ho hd (x := rawInt (i : Int)) rfl ?_)
  show wpAny _ _ (setField (.ref I) 1 (rawInt ((i : Int) - 1)) >>= _) _ _ _
  refine wpAny_bind (wpAny_setField ho hd (by simp) ?_)
  refine wpAny_pure ⟨v, rfl, wpAny_pure (h v _ _ _ ⟨rfl, ?_, ?_⟩ (fun c oc hn e => (Heap.SameBut.update ..).extBut c oc (by simpa using hn) e) (Heap.get?_update_self _ ho (Obj.isFreed_of_fields (Obj.data_mapFields hd _))))⟩
  · exact (Obj.cls_mapFields ..).trans hc
  · rw [Obj.data_mapFields hd]; simp
theorem end_reversed {g : Heap} {o : Obj} (hh : A.handled = none) (hc : o.cls = .type "reversed") (hd : o.data = .fields #[.ref b, rawInt (-1)]) :
    NextEnd prog w A g I o := fun s Q E k ho h => by
  have hT : s.TypeIs (.ref I) "reversed" := ⟨o, ho, hc⟩
  unfold pyNext
  refine wpAny_bind (wpAny_attempt (wpAny_callSpecial?_slot (name := Str.ofString "__next__") hT slot_reversed_next
    (wpAny_call_entry slot_reversed_next hT entry_reversed_next ?_ (args_reversed_next_1 _))))
  unfold Builtin.«reversed.__next__»
  refine wpAny_bind (wpAny_of_eq (a := (Value.ref I, [])) rfl ?_)
  try dsimp only
  refine wpAny_bind (wpAny_field ho hd (x := .ref b) rfl ?_)
  show wpAny _ _ (field (.ref I) 1 >>= _) _ _ s
  refine wpAny_bind (wpAny_field ho hd (x := rawInt (-1)) rfl ?_)
  show wpAny _ _ (if (-1 : Int) < 0 then _ else _) _ _ s
  rw [if_pos (by decide)]
  refine wpAny_bind (wpAny_rule ?_)
  refine wpAny_bind ?_
  wp_delta
  refine wpAny_bind (wpAny_setField ho hd (by simp) ?_)
  have hd2 := Obj.data_mapFields hd (fun fs => fs.setIfInBounds 1 (rawInt (-1)))
  have ho2 := Heap.get?_update_self (Obj.mapFields (fun fs => fs.setIfInBounds 1 (rawInt (-1)))) ho (Obj.isFreed_of_fields hd2)
  refine wpAny_setField ho2 hd2 (by simp) ?_
  try unfold Builtin.SmallTypes.stopIteration
  first
  | show wpAny _ _ (newExc (.type "StopIteration") [] >>= _) _ _ _
  | (refine wpAny_bind ?_; show wpAny _ _ (newExc (.type "StopIteration") [] >>= _) _ _ _)
  refine wpAny_bind ?_
  simp only [newExc, newTuple]
  refine wpAny_bind (wpAny_newObj_type ?_ (by size_fits))
  refine wpAny_bind (m := firstArgMember _ _) (wpAny_of_eq (a := Value.none) (by first | rfl | (simp only [firstArgMember]; rfl)) ?_)
  refine wpAny_newObj_type ?_ (by size_fits)
  simp only [raiseNew]
  refine wpAny_bind (wpAny_handled ?_)
  first | rw [show A.in1.handled = none from hh] | rw [hh]
  refine wpAny_bind (wpAny_pure (wpAny_throw ?_))
  refine wpAny_bind (wpAny_isInstance (T := "StopIteration") (b := true) ⟨_, Heap.get?_push_size _ rfl, rfl⟩ isSubtype_stop ?_)
  refine wpAny_pure (h _ _ fun c oc hn e => ?_)
  have hne : I ≠ c := fun q => hn (by simp [q])
  exact Heap.get?_push_of_some _ (Heap.get?_push_of_some _ ((Heap.get?_update_other _ _ hne).trans ((Heap.get?_update_other _ _ hne).trans e)))
end
end
section
/-- what an iterator gives, item for item -/
def Chain (prog : Program) (w : World) (A : Around) (g : Heap) (I : Addr) : List Value → Obj → Prop
  | [], o => NextEnd prog w A g I o
  | v :: r, o => NextIs prog w A g I o (fun u o' => u = v ∧ Chain prog w A g I r o')
section
variable {prog : Program} {w : World} {A : Around} {E : Value → Shared → Prop} {s : Shared} {g : Heap} {b I D : Addr} {items : List Value} {n : Nat} {R : Result → Shared → Prop}

theorem chain_reversed (hh : A.handled = none) (ht : IsT g b items.toArray n) (hsz : items.length ≤ 5000) : ∀ (i : Nat) (o : Obj), i ≤ items.length → o.cls = .type "reversed" → o.data = .fields #[.ref b, rawInt ((i : Int) - 1)] → Chain prog w A g I (items.take i).reverse o
  | 0, o, _, hc, hd => by
    simp only [List.take_zero, List.reverse_nil, Chain]
    exact end_reversed hh hc (by simpa using hd)
  | i + 1, o, hi, hc, hd => by
    have e : items.take (i + 1) = items.take i ++ [items[i]] := List.take_succ_eq_append_getElem (by omega)
    rw [e]
    simp only [List.reverse_append, List.reverse_cons, List.reverse_nil, List.nil_append, List.singleton_append, Chain]
    intro s Q E k ho h
    refine next_reversed (i := i) (v := items[i]) ht hc (by rw [hd]; simp) (by simp) hsz s Q E k ho fun v o' h' tk hp hk ho' => ?_
    exact h v o' h' tk ⟨hp.1, chain_reversed hh ht hsz i o' (by omega) hp.2.1 hp.2.2⟩ hk ho'

theorem chain_listrev {l : Addr} (hh : A.handled = none) (hl : g.IsList l items.toArray) : ∀ (i : Nat) (o : Obj), i ≤ items.length → o.cls = .type "list_reverseiterator" → o.data = .fields #[.ref l, rawInt ((i : Int) - 1)] → Chain prog w A g I (items.take i).reverse o
  | 0, o, _, hc, hd => by
    simp only [List.take_zero, List.reverse_nil, Chain]
    intro s Q E k ho h
    refine wpAny_pyNext_rev_end hh ⟨o, ho, hc, by simpa using hd⟩ fun h' he' => ?_
    exact h h' s.toks (fun c oc hn e => he' c oc (by simpa using hn) e)
  | i + 1, o, hi, hc, hd => by
    have e : items.take (i + 1) = items.take i ++ [items[i]] := List.take_succ_eq_append_getElem (by omega)
    rw [e]
    simp only [List.reverse_append, List.reverse_cons, List.reverse_nil, List.nil_append, List.singleton_append, Chain]
    intro s Q E k ho h
    refine wpAny_pyNext_rev_item (i := i) (x := items[i]) ⟨o, ho, hc, by rw [hd]; simp⟩ (hl.at fun o e => k _ _ e) (by simp) fun h' hit' hs' => ?_
    obtain ⟨o', ho', hc', hd'⟩ := hit'
    exact h _ o' h' s.toks ⟨rfl, chain_listrev hh hl i o' (by omega) hc' hd'⟩ (fun c oc hn e => hs'.extBut c oc (by simpa using hn) e) ho'

/-- the loop of list.extend -/
theorem ext_loop {res : Value} (hD : g.get? D = none) (hI : g.get? I = none) (hDI : @Ne Nat D I) : ∀ (ys xs : List Value) (o : Obj) (n : Nat) (s : Shared), Chain prog w A.in1 g I ys o → Keep g s.heap → s.heap.get? I = some o → s.heap.get? D = some (listOf xs.toArray n) → xs.length + ys.length ≤ 5000 →
    (∀ h' tk n', Keeps [D, I] s.heap h' → h'.get? D = some (listOf (xs ++ ys).toArray n') → R (.ok (.ret res)) { s with heap := h', toks := tk }) →
    codeAny (model prog w) A (.builtin "list.extend.loop" ⟨[.ref D, .ref I, res], []⟩) R s
  | [], xs, o, n, s, hc, k, hoI, hoD, hsz, h => by
    refine codeAny_builtin F.entry_extend_loop ?_
    rw [Around.under_plainId F.plain_extend_loop _]
    show wpAny _ A.in1 (pyNext (.ref I) >>= _) _ _ s
    refine wpAny_bind (hc s _ _ k hoI fun h' tk hk => ?_)
    refine wpAny_pure (h h' tk n (fun c oc hn e => hk c oc (by simp at hn ⊢; exact hn.2) e) ?_)
    rw [List.append_nil]
    exact hk _ _ (by simpa using hDI) hoD
  | y :: ys, xs, o, n, s, hc, k, hoI, hoD, hsz, h => by
    refine codeAny_builtin F.entry_extend_loop ?_
    rw [Around.under_plainId F.plain_extend_loop _]
    show wpAny _ A.in1 (pyNext (.ref I) >>= _) _ _ s
    refine wpAny_bind (hc s _ _ k hoI fun v o' h' tk hp hk ho' => ?_)
    obtain ⟨rfl, hc'⟩ := hp
    have hoD' := hk _ _ (show D ∉ [I] by simpa using hDI) hoD
    simp only [List.length_cons] at hsz
    show wpAny _ A.in1 (updateSeq D (·.push v) >>= _) _ _ _
    refine wpAny_bind ?_
    refine wpAny_updateSeq hoD' rfl (wpAny_pure ⟨plainId_quiet F.plain_extend_loop _, ext_loop hD hI hDI ys (xs ++ [v]) o' (n + 1) _ hc' (fun c oc e => ?_) ?_ ?_ (by simp; omega) fun h'' tk'' n'' hk'' ho'' => ?_⟩)
      (by rw [sizeLine_eq]; simp; omega) (by rw [sizeLine_eq]; simp; omega)
    · have hcD : D ≠ c := fun q => by rw [← q, hD] at e; cases e
      have hcI : c ≠ I := fun q => by rw [q, hI] at e; cases e
      exact (Heap.get?_update_other _ _ hcD).trans (hk _ _ (by simpa using hcI) (k _ _ e))
    · exact (Heap.get?_update_other _ _ hDI).trans ho'
    · have := Heap.get?_update_self (Obj.mapSeq (·.push v)) hoD' rfl
      rw [this]
      simp [Obj.mapSeq, W.listOf]
    · refine h h'' tk'' n'' (fun c oc hn e => ?_) (by simpa using ho'')
      have hn' : c ≠ D ∧ c ≠ I := by simpa using hn
      exact hk'' _ _ hn ((Heap.get?_update_other _ _ (fun q => hn'.1 q.symm)).trans (hk _ _ (by simpa using hn'.2) e))
theorem retInt_wp {i : Int} {P : Fin → Shared → Prop} (h : ∀ tk tk', P (.done (.ret (.int i tk))) { s with toks := tk' }) : wpAny (model prog w) A (retInt i) P E s := by
  unfold retInt
  refine wpAny_bind (wpAny_mkInt (wpAny_pure (h _ _)))
theorem asInt_eq (x : Int) (t : Tok) : asInt? (.int x t) = pure (some x) := rfl
theorem hint_reversed {o : Obj} {i : Nat} {Q : Bool → Shared → Prop} (ho : s.heap.get? I = some o) (hc : o.cls = .type "reversed") (hd : o.data = .fields #[.ref b, rawInt (i : Int)]) (ht : IsT s.heap b items.toArray n) (hi : items.length = i + 1) (hsz : items.length ≤ 5000)
    (h : ∀ tk, Q true { s with toks := tk }) : wpAny (model prog w) A (Builtin.List.listLengthHint (.ref I)) Q E s := by
  have hT : s.TypeIs (.ref I) "reversed" := ⟨o, ho, hc⟩
  unfold Builtin.List.listLengthHint
  refine wpAny_bind (wpAny_specialOf hT nolen_reversed ?_)
  show wpAny _ A (specialOf (Value.ref I) (Str.ofString "__length_hint__") >>= _) _ _ _
  refine wpAny_bind (wpAny_specialOf hT slot_reversed_hint.lookup ?_)
  generalize hid : ("reversed.__length_hint__" : String) = id0
  wp_delta
  rw [show splitId id0 = some ("reversed", "__length_hint__") from by subst hid; decide +kernel]
  subst hid
  refine wpAny_bind (wpAny_isInstance (T := "reversed") (b := true) hT F.sub_reversed_self ?_)
  refine wpAny_ite_split (fun hab => absurd hab (by decide)) (fun _ => ?_)
  refine wpAny_ite_split (fun hab => absurd hab (by decide +kernel)) (fun _ => ?_)
  refine wpAny_bind (wpAny_rule ?_)
  refine wpAny_bind (wpAny_of_eq (slot_reversed_hint.bind _) ?_)
  try dsimp only
  refine wpAny_bind (wpAny_attempt (wpAny_call_entry slot_reversed_hint hT entry_reversed_hint ?_ (args_reversed_hint_1 _)))
  unfold Builtin.«reversed.__length_hint__»
  refine wpAny_bind (wpAny_of_eq (a := Value.ref I) rfl ?_)
  refine wpAny_bind (wpAny_field ho hd (x := .ref b) rfl ?_)
  show wpAny _ _ (call (.builtin "len") [.ref b] >>= _) _ _ s
  refine wpAny_bind (P.len_tuple ht (by simp; omega) ?_)
  refine wpAny_bind (m := asInt? (.int _ _)) (wpAny_pure ?_)
  dsimp only
  refine wpAny_bind (wpAny_field ho hd (x := rawInt (i : Int)) rfl ?_)
  show wpAny _ _ (if ((items.toArray.size : Nat) : Int) < (i : Int) + 1 then _ else _) _ _ _
  rw [if_neg (by simp; omega)]
  refine retInt_wp fun tk tk' => ⟨_, rfl, ?_⟩
  dsimp only
  with_reducible refine wpAny_bind ?_
  rw [asInt_eq]
  with_reducible refine wpAny_pure ?_
  dsimp only
  have e1 : Builtin.List.listFitsIndex ((i : Int) + 1) = true := by
    unfold Builtin.List.listFitsIndex
    rw [Bool.and_eq_true, decide_eq_true_eq, decide_eq_true_eq]
    omega
  have e2 : Builtin.List.listTooLong ((i : Int) + 1).toNat = false := by
    unfold Builtin.List.listTooLong
    rw [sizeLine_eq, decide_eq_false_iff_not]
    omega
  rw [e1, e2, if_neg (by decide), if_neg (by omega), if_neg (by decide)]
  have e : ((i : Int) + 1 != 0) = true := by simp; omega
  rw [e]
  exact wpAny_pure (h _)
theorem hint_listrev {Q : Bool → Shared → Prop} (hT : s.TypeIs (.ref I) "list_reverseiterator") (h : Q false s) : wpAny (model prog w) A (Builtin.List.listLengthHint (.ref I)) Q E s := by
  unfold Builtin.List.listLengthHint
  refine wpAny_bind (wpAny_specialOf hT (by rw [typeLookup_type, builtinLookup_eq_fast]; kernel_rfl : typeLookup (.type "list_reverseiterator") (Str.ofString "__len__") = pure none) ?_)
  show wpAny _ A (specialOf (Value.ref I) (Str.ofString "__length_hint__") >>= _) _ _ _
  refine wpAny_bind (wpAny_specialOf hT (by rw [typeLookup_type, builtinLookup_eq_fast]; kernel_rfl : typeLookup (.type "list_reverseiterator") (Str.ofString "__length_hint__") = pure (some (.builtin "list_reverseiterator.__length_hint__"))) ?_)
  generalize hid : ("list_reverseiterator.__length_hint__" : String) = id0
  wp_delta
  rw [show splitId id0 = some ("list_reverseiterator", "__length_hint__") from by subst hid; decide +kernel]
  subst hid
  refine wpAny_bind (wpAny_isInstance (T := "list_reverseiterator") (b := true) hT (by rw [isSubtype_type]; kernel_rfl) ?_)
  refine wpAny_ite_split (fun hab => absurd hab (by decide)) (fun _ => ?_)
  refine wpAny_ite_split (fun _ => ?_) (fun hab => absurd (by decide +kernel) hab)
  refine wpAny_ite_split (fun hab => absurd hab (by decide)) (fun _ => ?_)
  exact wpAny_pure h

theorem self_reversed {o : Obj} {Q : Value → Shared → Prop} (ho : s.heap.get? I = some o) (hc : o.cls = .type "reversed") (h : Q (.ref I) s) : wpAny (model prog w) A (pyIter (.ref I)) Q E s := by
  have hT : s.TypeIs (.ref I) "reversed" := ⟨o, ho, hc⟩
  refine wpAny_pyIter_slot hT slot_reversed_iter (wpAny_call_entry slot_reversed_iter hT entry_reversed_iter ?_ (args_reversed_iter_1 _))
  show wpAny _ _ (ret (.ref I)) _ _ s
  exact wpAny_pure ⟨_, rfl, "reversed", _, hT, slot_reversed_next.lookup, h⟩

/-- a list is extended by an iterator -/
theorem ext_with {T : String} {res : Value} {ys xs : List Value} {o : Obj} {n : Nat} {room : Bool} (hT : ∀ s' : Shared, s'.heap.get? I = some o → s'.TypeIs (.ref I) T) (h1 : (Value.type T == Value.type "list") = false) (h2 : (Value.type T == Value.type "tuple") = false)
    (h3 : ["set", "frozenset", "dict", "dict_keys", "dict_values", "dict_items"].any (Value.type T == .type ·) = false)
    (hself : ∀ Q : Value → Shared → Prop, Q (.ref I) s → wpAny (model prog w) A.in1 (pyIter (.ref I)) Q (fun e s' => R (.error e) s') s)
    (hhint : ∀ (Q : Bool → Shared → Prop), (∀ tk, Q room { s with toks := tk }) → wpAny (model prog w) A.in1 (Builtin.List.listLengthHint (.ref I)) Q (fun e s' => R (.error e) s') s)
    (hD : g.get? D = none) (hI : g.get? I = none) (hDI : @Ne Nat D I) (hc : Chain prog w A.in1 g I ys o) (k : Keep g s.heap) (hoI : s.heap.get? I = some o) (hoD : s.heap.get? D = some (W.listOf xs.toArray n)) (hsz : xs.length + ys.length ≤ 5000)
    (h : ∀ h' tk n', Keeps [D, I] s.heap h' → h'.get? D = some (W.listOf (xs ++ ys).toArray n') → R (.ok (.ret res)) { s with heap := h', toks := tk }) :
    wpAny (model prog w) A.in1 (Builtin.List.listExtendWith (.ref D) (.ref I) res)
      (fun fin s' => match fin with | .done f => R (.ok f) s' | .again c' => c'.quiet = true ∧ codeAny (model prog w) A c' R s') (fun e s' => R (.error e) s') s := by
  unfold Builtin.List.listExtendWith
  refine wpAny_bind (wpAny_typeOf (hT s hoI) ?_)
  have h0 : Builtin.List.listSameRef (.ref D) (.ref I) = false := by simpa [Builtin.List.listSameRef] using hDI
  simp only [h0, h1, h2, Bool.or_false, Bool.false_eq_true, if_false]
  refine wpAny_bind (hself _ ?_)
  refine wpAny_bind (wpAny_holding (hhint _ fun tk => ?_))
  refine wpAny_ite_split (fun _ => ?_) (fun _ => wpAny_pure ⟨plainId_quiet F.plain_extend_loop _, ext_loop hD hI hDI ys xs o n _ hc k hoI hoD hsz fun h' tk' n' => h h' tk' n'⟩)
  refine wpAny_bind (wpAny_rule ?_)
  refine wpAny_bind ?_
  show wpAny _ _ (updateSeq D (·.push .none) >>= fun _ => updateSeq D (·.pop)) _ _ _
  refine wpAny_bind (wpAny_updateSeq (hz := by rw [sizeLine_eq]; simp; omega) (_hz' := by rw [sizeLine_eq]; simp; omega) hoD rfl ?_)
  have hS₂ := Heap.get?_update_self (Obj.mapSeq (·.push Value.none)) hoD rfl
  refine wpAny_updateSeq (hz := by rw [sizeLine_eq]; simp; omega) (_hz' := by rw [sizeLine_eq]; simp; omega) hS₂ rfl ?_
  have hS₃ := Heap.get?_update_self (Obj.mapSeq (·.pop)) hS₂ rfl
  have hDn : ∀ c oc, g.get? c = some oc → D ≠ c := fun c oc e q => by rw [← q, hD] at e; cases e
  refine wpAny_pure ⟨plainId_quiet F.plain_extend_loop _, ext_loop hD hI hDI ys xs o (n + 1 + 1) _ hc (fun c oc e => ?_) ?_ ?_ hsz fun h' tk' n' hk ho => h h' tk' n' (fun c oc hn e => ?_) ho⟩
  · exact (Heap.get?_update_other _ _ (hDn _ _ e)).trans ((Heap.get?_update_other _ _ (hDn _ _ e)).trans (k _ _ e))
  · exact (Heap.get?_update_other _ _ hDI).trans ((Heap.get?_update_other _ _ hDI).trans hoI)
  · rw [hS₃]; simp [Obj.mapSeq, W.listOf]
  · have hn' : D ≠ c := fun q => hn (by simp [q])
    exact hk _ _ hn ((Heap.get?_update_other _ _ hn').trans ((Heap.get?_update_other _ _ hn').trans e))
end
end
section
section
variable {prog : Program} {w : World} {A : Around} {E : Value → Shared → Prop} {s : Shared} {g : Heap} {b I D L : Addr} {items xs : List Value} {n : Nat} {m : Str → Option Value} {news : List (Addr × Obj)} {gf : Obj → List (Addr × Obj)}

theorem rev_tuple {Q : Value → Shared → Prop} (F : Fr g L s.heap m) (N : News g L s.heap news) (ht : Tup g b items) (hsz : items.length ≤ 5000)
    (h : ∀ I h' tk, Fr g L h' m → News g L h' ((I, revT b ((items.length : Int) - 1)) :: news) → (∀ p ∈ news, p.1 < I) → Q (.ref I) { s with heap := h', toks := tk }) : wpAny (model prog w) A (call (.type "reversed") [.ref b]) Q E s := by
  obtain ⟨n, ht⟩ := ht
  refine call_reversed_tuple (F.keep _ _ ht) hsz fun tk => ?_
  exact h _ _ tk (F.push _) (News.push F N _) fun p hp => Heap.lt_size (N p hp).1

theorem ext_rev {Q : Value → Shared → Prop} {i : Nat} (hh : A.handled = none) (F : Fr g L s.heap m) (N : News g L s.heap ((I, revT b ((items.length : Int) - 1)) :: news)) (off : ∀ p ∈ news, p.1 ≠ I) (ht : Tup g b items) (hi : items.length = i + 1) (hsz : xs.length + items.length ≤ 5000)
    (U : UpdF D (W.listOf xs.toArray n) news gf)
    (h : ∀ h' tk n', Fr g L h' m → News g L h' (gf (W.listOf (xs ++ items.reverse).toArray n')) → Q .none { s with heap := h', toks := tk }) : wpAny (model prog w) A (call (.builtin "list.extend") [.ref D, .ref I]) Q E s := by
  obtain ⟨nb, ht⟩ := ht
  obtain ⟨pre, post, rfl, hg, ha, hc⟩ := U.split
  have zD := N (D, W.listOf xs.toArray n) (.tail _ (List.mem_append_right _ (.head _)))
  have zI := N _ (.head _)
  have hDI : @Ne Nat D I := off (D, _) (List.mem_append_right _ (.head _))
  have hT : s.TypeIs (.ref D) "list" := ⟨_, zD.1, rfl⟩
  have hch : Chain prog w A.in1 g I items.reverse (revT b ((items.length : Int) - 1)) := by
    have := chain_reversed (prog := prog) (w := w) (A := A.in1) (I := I) (g := g) (b := b) (items := items) (n := nb) hh ht (by omega) items.length (revT b ((items.length : Int) - 1)) (Nat.le_refl _) rfl rfl
    rwa [List.take_length] at this
  refine wpAny_call (codeAny_call_builtin PySem.F.slot_list_extend.plain PySem.F.entry_list_extend (PySem.F.slot_list_extend.check _ _ _ _ _ _ _ _ hT (PySem.F.args_list_extend_2 _ _) ?_))
  unfold Builtin.«list.extend»
  refine wpAny_bind (wpAny_of_eq (a := (Value.ref D, Value.ref I)) (by first | rfl | kernel_rfl) ?_)
  dsimp only
  refine ext_with (A := A) (T := "reversed") (room := true) (xs := xs) (n := n) (R := fun r s' => match r with | .ok (.ret v) => Q v s' | .ok _ => False | .error e => E e s') (fun s' e => ⟨_, e, rfl⟩) (by decide) (by decide) (by decide) (fun Q q => self_reversed zI.1 rfl q)
    (fun Q q => hint_reversed (i := i) zI.1 rfl (by show Data.fields _ = _; rw [hi]; simp) (F.keep _ _ ht) hi (by omega) q) zD.2.2 zI.2.2 hDI hch F.keep zI.1 zD.1 (by simpa using hsz) fun h' tk n' hk ho => ?_
  refine h h' tk n' (fr_keeps F hk (by simpa using ⟨Ne.symm zD.2.1, Ne.symm zI.2.1⟩) (by simpa using ⟨zD.2.2, zI.2.2⟩)) ?_
  rw [hg]
  intro p hp
  rcases List.mem_append.mp hp with hp | hp
  · have y := N p (.tail _ (List.mem_append.mpr (.inl hp)))
    exact ⟨hk _ _ (by simpa using ⟨ha p hp, off p (List.mem_append.mpr (.inl hp))⟩) y.1, y.2⟩
  · rcases List.mem_cons.mp hp with rfl | hp
    · exact ⟨ho, zD.2⟩
    · have y := N p (.tail _ (List.mem_append.mpr (.inr (.tail _ hp))))
      exact ⟨hk _ _ (by simpa using ⟨hc p hp, off p (List.mem_append.mpr (.inr (.tail _ hp)))⟩) y.1, y.2⟩

/-- reversed of a list of the base; a list of that -/
theorem rev_list {l : Addr} {Q : Value → Shared → Prop} (F : Fr g L s.heap m) (N : News g L s.heap news) (hl : g.IsList l items.toArray)
    (h : ∀ I h' , Fr g L h' m → News g L h' ((I, revObj l ((items.length : Int) - 1)) :: news) → (∀ p ∈ news, p.1 < I) → Q (.ref I) { s with heap := h' }) : wpAny (model prog w) A (call (.type "reversed") [.ref l]) Q E s :=
  krv_reversed F N (hl.at fun o e => F.keep _ _ e) fun D h' => h D h'
theorem list_rev {l : Addr} {Q : Value → Shared → Prop} (hh : A.handled = none) (F : Fr g L s.heap m) (N : News g L s.heap ((I, revObj l ((items.length : Int) - 1)) :: news)) (off : ∀ p ∈ news, p.1 ≠ I) (hl : g.IsList l items.toArray) (hsz : items.length ≤ 5000)
    (h : ∀ D h' tk n', Fr g L h' m → News g L h' ((D, W.listOf items.reverse.toArray n') :: news) → (∀ p ∈ news, p.1 < D) → Q (.ref D) { s with heap := h', toks := tk }) : wpAny (model prog w) A (call (.type "list") [.ref I]) Q E s := by
  have zI := N _ (.head _)
  have hlI : I < s.heap.objs.size := Heap.lt_size zI.1
  refine callType_codes (Q₁ := fun obj s₁ => obj = .ref s.heap.objs.size ∧ s₁ = { s with heap := s.heap.push { cls := .type "list", data := .seq #[] } }) PySem.F.called_list (PySem.F.typeCall_list_1 _) PySem.F.entry_list_init
    (code_list_new _ ⟨rfl, rfl⟩) fun obj s₁ h₁ => ?_
  obtain ⟨rfl, rfl⟩ := h₁
  have hS : (s.heap.push { cls := .type "list", data := .seq #[] }).get? s.heap.objs.size = some { cls := .type "list", data := .seq #[] } := Heap.get?_push_size _ rfl
  refine ⟨⟨_, hS, rfl⟩, PySem.F.args_list_init_2 _ _, ?_⟩
  show wpAny _ _ (do let old ← Builtin.List.listItems (.ref s.heap.objs.size); Builtin.List.listUpdate (.ref s.heap.objs.size) (fun _ => #[]); letGo old.toList.reverse; Builtin.List.listExtendWith (.ref s.heap.objs.size) (.ref I) .none) _ _ _
  refine wpAny_bind ?_
  unfold Builtin.List.listItems
  refine wpAny_bind (wpAny_seqItems hS rfl (wpAny_pure ?_))
  show wpAny _ _ (updateSeq s.heap.objs.size (fun _ => #[]) >>= fun _ => letGo (#[] : Array Value).toList.reverse >>= fun _ => Builtin.List.listExtendWith (.ref s.heap.objs.size) (.ref I) .none) _ _ _
  refine wpAny_bind (wpAny_updateSeq hS rfl ?_)
  have hS₂ := Heap.get?_update_self (Obj.mapSeq (fun _ => (#[] : Array Value))) hS rfl
  have oth : ∀ b o, s.heap.get? b = some o → ((s.heap.push { cls := .type "list", data := .seq #[] }).update s.heap.objs.size (Obj.mapSeq (fun _ => (#[] : Array Value)))).get? b = some o :=
    fun b o e => (Heap.get?_update_other _ _ (Nat.ne_of_gt (Heap.lt_size e))).trans (Heap.get?_push_of_some _ e)
  refine wpAny_bind (wpAny_letGo ?_)
  have hch : Chain prog w A.in1.in1 g I items.reverse (revObj l ((items.length : Int) - 1)) := by
    have := chain_listrev (prog := prog) (w := w) (A := A.in1.in1) (I := I) (g := g) (items := items) (l := l) hh hl items.length (revObj l ((items.length : Int) - 1)) (Nat.le_refl _) rfl rfl
    rwa [List.take_length] at this
  have hgS : g.get? s.heap.objs.size = none := by
    cases e : g.get? s.heap.objs.size with
    | none => rfl
    | some o => exact absurd (Heap.lt_size (F.keep _ _ e)) (Nat.lt_irrefl _)
  refine ext_with (A := A.in1) (T := "list_reverseiterator") (room := false) (xs := []) (n := 0) (fun s' e => ⟨_, e, rfl⟩) (by decide) (by decide) (by decide) (fun Q q => wpAny_pyIter_revIter (l := l) (i := (items.length : Int) - 1) ⟨_, oth _ _ zI.1, rfl, rfl⟩ q)
    (fun Q q => hint_listrev ⟨_, oth _ _ zI.1, rfl⟩ (q _)) hgS zI.2.2 (Nat.ne_of_gt hlI) hch (fun b o e => oth _ _ (F.keep _ _ e)) (oth _ _ zI.1) ?_ (by simpa using hsz) fun h' tk n' hk ho => ?_
  · rw [hS₂]; rfl
  · refine ⟨rfl, h _ h' tk n' ?_ ?_ fun p hp => Heap.lt_size (N p (.tail _ hp)).1⟩
    · have F2 : Fr g L _ m := F.keeps oth
      exact fr_keeps F2 hk (by simpa using ⟨Nat.ne_of_lt F.ns.lt, Ne.symm zI.2.1⟩) (by simpa using ⟨hgS, zI.2.2⟩)
    · intro p hp
      rcases List.mem_cons.mp hp with rfl | hp
      · exact ⟨by simpa using ho, Nat.ne_of_gt F.ns.lt, hgS⟩
      · have y := N p (.tail _ hp)
        exact ⟨hk _ _ (by simpa using ⟨Nat.ne_of_lt (Heap.lt_size y.1), off p hp⟩) (oth _ _ y.1), y.2⟩
end
end
section
section
variable {prog : Program} {w : World} {A : Around} {E : Value → Shared → Prop} {s : Shared} {g : Heap} {d L : Addr} {m : Str → Option Value} {kvs : List (Int × Value)} {k : Int} {tk : Tok} {dflt v : Value}
theorem bd_method {pl : Sem Bool} {Q : Value × List Value → Shared → Prop} (F : Fr g L s.heap m) (hd : g.DictOf (intKind prog w) d kvs) (h : Q (.builtin "dict.get", [.ref d]) s) : wpAny (model prog w) A (getMethod (.ref d) "get" pl) Q E s :=
  have hD := hd.keep (h' := s.heap) F.keep
  getMethod_builtin hD.typeIs PySem.F.plainAttrs_dict PySem.F.slot_dict_get PySem.F.type_dict_get hD.mapOf.noDict h
theorem bd_get2 {Q : Value → Shared → Prop} (F : Fr g L s.heap m) (hd : g.DictOf (intKind prog w) d kvs) (lo : (d == sysModules) = false) (x : Option Value) (hl : valueAt kvs k = x) (h : Q (x.getD dflt) { s with toks := s.toks + 1 }) :
    wpAny (model prog w) A (call (.builtin "dict.get") [.ref d, .int k tk, dflt]) Q E s :=
  have hD := hd.keep (h' := s.heap) F.keep
  call_meetsIn PySem.F.slot_dict_get hD.typeIs PySem.F.entry_dict_get (PySem.F.args_dict_get_3 _ _ _) (meets_dict_get_default (intKind prog w) d (intKind_is _ _ _ _) lo dflt) ⟨_, hD.mapOf, by rw [hl]; exact h⟩
theorem bd_in {Q : Value → Shared → Prop} (F : Fr g L s.heap m) (hd : g.DictOf (intKind prog w) d kvs) (lo : (d == sysModules) = false) (b : Bool) (hb : (valueAt kvs k).isSome = b) (h : Q (.bool b) { s with toks := s.toks + 1 }) :
    wpAny (model prog w) A (compareOp .In (.int k tk) (.ref d)) Q E s := wpAny_in_of (intKind_is _ _ _ _) lo (hd.keep (h' := s.heap) F.keep).mapOf (by rw [hb]; exact h)
theorem bd_item {value slice : PySem.Expr} {Q : Value → Shared → Prop} (F : Fr g L s.heap m) (hd : g.DictOf (intKind prog w) d kvs) (hl : valueAt kvs k = some v) (h : Q v { s with toks := s.toks + 1 })
    (hs : subscripted slice false (.ref d) (.int k tk) = operate [.ref d, .int k tk] (getItem (.ref d) (.int k tk)) := by with_unfolding_all rfl) (hg : ∀ r, letTemporaryGo value (.ref d) r = pure () := by intro _; with_unfolding_all rfl) :
    wpAny (model prog w) A (subscriptTail value slice (.ref d) (.int k tk)) Q E s :=
  have hD := hd.keep (h' := s.heap) F.keep
  subscriptTail_builtin hD.typeIs slot_dict_getitem.lookup (wpAny_getItem_of (intKind_is _ _ _ _) hD.mapOf hl h) hs hg
end
/-- what a name stands for -/
theorem subst_v_none {tab : Tab} {i : Int} (h : tab.lookup i = none) : (T.v i).subst tab = .v i := by simp [T.subst, h]
theorem subst_v_some {tab : Tab} {i : Int} {t : T} (h : tab.lookup i = some t) : (T.v i).subst tab = t := by simp [T.subst, h]
end
section
def TreeP (k : Addr) (f : Nat) (cells : List Int) (h : Heap) (r : Value) (h' : Heap) : Prop :=
  ∃ t c' o', TNew h t r h' ∧ t.ht ≤ f + 1 ∧ (∀ i ∈ t.leaves, 0 ≤ i ∧ i < 6) ∧ h'.get? k = some o' ∧ KeptIs o' c' cells

theorem treeP_leaf {k f : Nat} {cells : List Int} {s g h' : Heap} {L a : Addr} {l : List Value} {n : Nat} {o' : Obj} {c' : Int} {t : T} {news : List (Addr × Obj)} (KG : Keeps [k] s g) (N : News g L h' news)
    (hm : (a, ({ cls := .type "tuple", data := .seq l.toArray n } : Obj)) ∈ news) (hk : (k, o') ∈ news) (hak : @Ne Nat a k) (hK : KeptIs o' c' cells)
    (ht : ∀ h'' : Heap, h''.get? a = some { cls := .type "tuple", data := .seq l.toArray n } → TIn h'' t (.ref a)) (hh : t.ht ≤ f + 1) (hv : ∀ i ∈ t.leaves, 0 ≤ i ∧ i < 6) : TreeP k f cells s (.ref a) h' :=
  ⟨t, c', o', ⟨[(a, _)], AllTup.cons AllTup.nil, fresh_k KG (news_one N hm) (by simpa using hak), fun h'' q => ht h'' (q _ (.head _))⟩, hh, hv, (N _ hk).1, hK⟩

theorem treeP_s1 {k f : Nat} {cells : List Int} {s g h' : Heap} {L a b : Addr} {y : Value} {x : Int} {tk tk' : Tok} {n n' : Nat} {o' : Obj} {c' : Int} {t : T} {news tl : List (Addr × Obj)} (KG : Keeps [k] s g) (N : News g L h' news)
    (hm : (a, ({ cls := .type "tuple", data := .seq (List.toArray [.str (Str.ofString "s") tk, .int x tk', .ref b]) n } : Obj)) ∈ news) (hx : x = 34)
    (hm2 : (b, ({ cls := .type "tuple", data := .seq (List.toArray [y]) n' } : Obj)) ∈ news) (htl : ∀ p ∈ tl, p ∈ news) (A : AllTup tl)
    (hp : ∀ h'' : Heap, (∀ p ∈ tl, h''.get? p.1 = some p.2) → TIn h'' t y) (hk : (k, o') ∈ news) (hak : @Ne Nat a k) (hbk : @Ne Nat b k) (nk : ∀ p ∈ tl, p.1 ≠ k) (hK : KeptIs o' c' cells)
    (hh : t.ht ≤ f + 1) (hv : ∀ i ∈ t.leaves, 0 ≤ i ∧ i < 6) : TreeP k (f + 1) cells s (.ref a) h' := by
  subst hx
  refine ⟨.s1 t, c', o', ⟨(a, ({ cls := .type "tuple", data := .seq (List.toArray [.str (Str.ofString "s") tk, .int 34 tk', .ref b]) n } : Obj)) :: (b, ({ cls := .type "tuple", data := .seq (List.toArray [y]) n' } : Obj)) :: tl, AllTup.cons (AllTup.cons A), fresh_k (L := L) (h' := h') KG ?_ ?_, fun h'' q => ?_⟩, by simp only [T.ht]; omega, hv, (N _ hk).1, hK⟩
  · intro p hp
    rcases List.mem_cons.mp hp with rfl | hp
    · exact N _ hm
    · rcases List.mem_cons.mp hp with rfl | hp
      · exact N _ hm2
      · exact N _ (htl p hp)
  · intro p hp
    rcases List.mem_cons.mp hp with rfl | hp
    · exact hak
    · rcases List.mem_cons.mp hp with rfl | hp
      · exact hbk
      · exact nk p hp
  · exact ⟨a, b, y, tk, tk', rfl, ⟨_, q _ (.head _)⟩, ⟨_, q _ (.tail _ (.head _))⟩, hp h'' fun p hp => q p (.tail _ (.tail _ hp))⟩
theorem treeP_s2 {k f : Nat} {cells : List Int} {s g h' : Heap} {L a b : Addr} {y z : Value} {x : Int} {tk tk' : Tok} {n n' : Nat} {o' : Obj} {c' : Int} {t u : T} {news tl tl' : List (Addr × Obj)} (KG : Keeps [k] s g) (N : News g L h' news)
    (hm : (a, ({ cls := .type "tuple", data := .seq (List.toArray [.str (Str.ofString "s") tk, .int x tk', .ref b]) n } : Obj)) ∈ news) (hx : x = 35)
    (hm2 : (b, ({ cls := .type "tuple", data := .seq (List.toArray [y, z]) n' } : Obj)) ∈ news) (htl : ∀ p ∈ tl, p ∈ news) (A : AllTup tl) (htl' : ∀ p ∈ tl', p ∈ news) (A' : AllTup tl')
    (hp : ∀ h'' : Heap, (∀ p ∈ tl, h''.get? p.1 = some p.2) → TIn h'' t y) (hp' : ∀ h'' : Heap, (∀ p ∈ tl', h''.get? p.1 = some p.2) → TIn h'' u z) (hk : (k, o') ∈ news) (hak : @Ne Nat a k) (hbk : @Ne Nat b k) (nk : ∀ p ∈ tl, p.1 ≠ k) (nk' : ∀ p ∈ tl', p.1 ≠ k) (hK : KeptIs o' c' cells)
    (hh : t.ht ≤ f + 1) (hv : ∀ i ∈ t.leaves, 0 ≤ i ∧ i < 6) (hh' : u.ht ≤ f + 1) (hv' : ∀ i ∈ u.leaves, 0 ≤ i ∧ i < 6) : TreeP k (f + 1) cells s (.ref a) h' := by
  subst hx
  refine ⟨.s2 t u, c', o', ⟨(a, ({ cls := .type "tuple", data := .seq (List.toArray [.str (Str.ofString "s") tk, .int 35 tk', .ref b]) n } : Obj)) :: (b, ({ cls := .type "tuple", data := .seq (List.toArray [y, z]) n' } : Obj)) :: (tl ++ tl'), AllTup.cons (AllTup.cons (A.append A')), fresh_k (L := L) (h' := h') KG ?_ ?_, fun h'' q => ?_⟩, by simp only [T.ht]; omega, fun i hi => ?_, (N _ hk).1, hK⟩
  · intro p hp
    rcases List.mem_cons.mp hp with rfl | hp
    · exact N _ hm
    · rcases List.mem_cons.mp hp with rfl | hp
      · exact N _ hm2
      · rcases List.mem_append.mp hp with hp | hp
        · exact N _ (htl p hp)
        · exact N _ (htl' p hp)
  · intro p hp
    rcases List.mem_cons.mp hp with rfl | hp
    · exact hak
    · rcases List.mem_cons.mp hp with rfl | hp
      · exact hbk
      · rcases List.mem_append.mp hp with hp | hp
        · exact nk p hp
        · exact nk' p hp
  · exact ⟨a, b, y, z, tk, tk', rfl, ⟨_, q _ (.head _)⟩, ⟨_, q _ (.tail _ (.head _))⟩, hp h'' fun p hp => q p (.tail _ (.tail _ (List.mem_append.mpr (.inl hp)))), hp' h'' fun p hp => q p (.tail _ (.tail _ (List.mem_append.mpr (.inr hp))))⟩
  · rcases List.mem_append.mp hi with hi | hi
    · exact hv i hi
    · exact hv' i hi
end
local macro_rules | `(tactic| walk_at "MY enterC") => `(tactic| (
  k_dflt (refine' enterC ?k1 ?k2 ?k3 ?k6 ?k7 ?k8 ?k9 ?kB ?kD ?_ ?c2 ?c3 ?c4; (case k1 => assumption); (case k2 => assumption); (case k3 => exact rfl); (case k6 => k_is); (case k7 => k_is); (case k8 => exact room_e (by assumption)); (case k9 => exact BindsTo.of_eq rfl); (case kB => exact rfl); (case kD => decide +kernel); (case c2 => exact rfl); (case c3 => exact rfl); (case c4 => exact rfl); k_whole)
  skip))
local macro_rules | `(tactic| walk_at "MY steps") => `(tactic| repeat' (first | (k_unfold; (try dsimp only)) | with_reducible refine at_while ?_ | (with_reducible refine at_for ?_) | (with_reducible refine at_comp ?_) | walk1 | (dsimp only; walk1) | (dsimp only; k_unfold; dsimp only)))
local macro_rules | `(tactic| k_all) => `(tactic| first | exact List.forall_mem_nil _ | (with_reducible refine List.forall_mem_cons.mpr ⟨?_, ?_⟩; (focus k_ne); k_all) | with_reducible assumption | (with_reducible refine List.forall_mem_append.mpr ⟨?_, ?_⟩ <;> k_all))
local macro_rules | `(tactic| walk_at "call builtin:list.append") => `(tactic| (k_dflt (refine' list_app ?F ?N ?U ?r ?_; (case F => k_asm); (case N => k_asm); (case U => k_upd); (case r => first | omega | (simp only [List.length_append, List.length_cons, List.length_nil]; omega))); intro h' F' N'))
section
local macro_rules | `(tactic| walk_at "MY steps") => `(tactic| repeat' (first | (k_unfold; (try dsimp only)) | walk1 | (dsimp only; walk1) | (dsimp only; k_unfold; dsimp only)))
local macro_rules | `(tactic| walk_at "eval ListComp") => `(tactic| (k_here; k_dflt (refine' comp_tup ?c1 ?c2 ?c3 ?c4 ?c5 ?c6 ?_; (case c1 => with_unfolding_all rfl); (case c2 => decide); (case c3 => exact rfl); (case c4 => decide); (case c5 => exact rfl); (case c6 => k_asm); k_whole)))
local macro_rules | `(tactic| walk_at "TupSrc") => `(tactic| (k_dflt (refine TupSrc.intro (by exact rfl) (by k_asm) (by k_asm) (by assumption) (by exact Nat.le_of_ble_eq_true rfl) ?_); intro g'; lcg_lit))
set_option pp.deepTerms false
set_option pp.deepTerms.threshold 6
set_option pp.maxSteps 2000
theorem count_spec {w : World} : ∀ (t : T) (s : Shared) (x : Value), TIn s.heap t x →
    Does w (hd.heap_39 w.params) PySem.Challenge.rw_ok0006_01.row.prog 99 [x] t.ht [] s (fun r _ => ∃ tk, r = .int t.sz tk) := by
  unfold Does
  k_fill
  have hrl : recursionLimit = 1000 := rfl
  intro t
  induction t with
  | v i =>
    intro s x ht p loose mean mg mb dp un gd env outer L h₀ base m A₀ E C N hd' hu
    obtain ⟨a, tk, tk', rfl, ht⟩ := ht
    walk_at "MY enter"; intro g' L' h' KG' F' N' B' X' T'; (try dsimp only); (try k_fold)
    replace ht := (Tup.keeps ht (Keeps.all KG')).is
    walk_at "MY steps"
    exact Back.intro (by k_asm) ⟨_, rfl⟩
  | c i =>
    intro s x ht p loose mean mg mb dp un gd env outer L h₀ base m A₀ E C N hd' hu
    obtain ⟨a, tk, tk', rfl, rfl | rfl, ht⟩ := ht
    all_goals (
      walk_at "MY enter"; intro g' L' h' KG' F' N' B' X' T'; (try dsimp only); (try k_fold)
      replace ht := (Tup.keeps ht (Keeps.all KG')).is
      walk_at "MY steps"
      exact Back.intro (by k_asm) ⟨_, rfl⟩)
  | s1 t ih =>
    intro s x ht p loose mean mg mb dp un gd env outer L h₀ base m A₀ E C N hd' hu
    obtain ⟨a, b, y, tk, tk', rfl, ht, ht1, ht2⟩ := ht
    simp only [T.ht] at hd' hu
    walk_at "MY enter"; intro g' L' h' KG' F' N' B' X' T'; (try dsimp only); (try k_fold)
    replace ht := (Tup.keeps ht (Keeps.all KG')).is
    replace ht1 := (Tup.keeps ht1 (Keeps.all KG')).is
    replace ht2 := TIn.keep (Keeps.all KG') ht2
    walk_at "MY steps"
    refine AtCall.does (ih _ _ (TIn.keep (Fr.keep (by k_asm)) ht2)) (by k_asm) (by k_asm) (by k_asm) (by k_asm) rfl rfl News.nil (by show dp + 1 + _ < 900; exact room_d hd' (by first | exact Nat.le_refl _ | exact Nat.le_add_left _ _ | omega)) (by show un + 3 + 8 * _ < 9000; exact room_u hu (by first | exact Nat.le_refl _ | exact Nat.le_add_left _ _ | omega)) ?_
    (rename Fr _ _ _ _ => F9); (rename News _ _ _ _ => N9)
    intro r h2 tk2 K2 P2
    obtain ⟨tk3, rfl⟩ := P2
    replace F9 := fr_keep F9 K2; replace N9 := news_keep N9 K2
    walk_at "MY steps"
    exact Back.intro (by k_asm) (ktn_int (by simp [T.sz]; try omega))
  | s2 t u ih ih' =>
    intro s x ht p loose mean mg mb dp un gd env outer L h₀ base m A₀ E C N hd' hu
    obtain ⟨a, b, y, z, tk, tk', rfl, ht, ht1, ht2, ht3⟩ := ht
    simp only [T.ht] at hd' hu
    walk_at "MY enter"; intro g' L' h' KG' F' N' B' X' T'; (try dsimp only); (try k_fold)
    replace ht := (Tup.keeps ht (Keeps.all KG')).is
    replace ht1 := (Tup.keeps ht1 (Keeps.all KG')).is
    replace ht2 := TIn.keep (Keeps.all KG') ht2
    replace ht3 := TIn.keep (Keeps.all KG') ht3
    walk_at "MY steps"
    refine AtCall.does (ih _ _ (TIn.keep (Fr.keep (by k_asm)) ht2)) (by k_asm) (by k_asm) (by k_asm) (by k_asm) rfl rfl News.nil (by show dp + 1 + _ < 900; exact room_d hd' (by first | exact Nat.le_refl _ | exact Nat.le_add_left _ _ | omega)) (by show un + 3 + 8 * _ < 9000; exact room_u hu (by first | exact Nat.le_refl _ | exact Nat.le_add_left _ _ | omega)) ?_
    (rename Fr _ _ _ _ => F9); (rename News _ _ _ _ => N9)
    intro r h2 tk2 K2 P2
    obtain ⟨tk3, rfl⟩ := P2
    replace F9 := fr_keep F9 K2; replace N9 := news_keep N9 K2
    walk_at "MY steps"
    refine AtCall.does (ih' _ _ (TIn.keep (Fr.keep (by k_asm)) ht3)) (by k_asm) (by k_asm) (by k_asm) (by k_asm) rfl rfl News.nil (by show dp + 1 + _ < 900; exact room_d hd' (by first | exact Nat.le_refl _ | exact Nat.le_add_left _ _ | omega)) (by show un + 3 + 8 * _ < 9000; exact room_u hu (by first | exact Nat.le_refl _ | exact Nat.le_add_left _ _ | omega)) ?_
    (rename Fr _ _ _ _ => F9); (rename News _ _ _ _ => N9)
    intro r h2 tk2 K2 P2
    obtain ⟨tk3, rfl⟩ := P2
    replace F9 := fr_keep F9 K2; replace N9 := news_keep N9 K2
    walk_at "MY steps"
    exact Back.intro (by k_asm) (ktn_int (by simp [T.sz]; try omega))
end
section
local macro_rules | `(tactic| walk_at "inplaceOp Add ref ref") => `(tactic| (k_dflt (refine' list_inplace ?q1 ?q2 ?q3 ?q4 (list_iadd ?F ?N ?q5 ?U ?q6 ?_); (case F => k_asm); (case N => k_asm); (case q5 => k_mem); (case U => k_upd); (case q1 => exact (News.get (by k_asm) (by k_mem))); (case q2 => exact rfl); (case q3 => exact (News.get (by k_asm) (by k_mem))); (case q4 => exact rfl); (case q6 => first | omega | (simp only [List.length_nil, List.length_cons, List.length_append]; omega) | (simp; omega))); intro h' F' N'))

def GivesInts (h : Heap) (ns : List Int) (r : Value) (h' : Heap) : Prop := ∃ l vs n, r = .ref l ∧ h.get? l = none ∧ h'.get? l = some (listOf vs.toArray n) ∧ IntsAre vs ns

theorem leaves_spec {w : World} : ∀ (t : T) (s : Shared) (x : Value), TIn s.heap t x → t.sz ≤ 4000 →
    Does w (hd.heap_39 w.params) PySem.Challenge.rw_ok0006_01.row.prog 106 [x] t.ht [] s (GivesInts s.heap t.leaves) := by
  unfold Does
  k_fill
  have hrl : recursionLimit = 1000 := rfl
  intro t
  induction t with
  | v i =>
    intro s x ht hsz p loose mean mg mb dp un gd env outer L h₀ base m A₀ E C N hd' hu
    obtain ⟨a, tk, tk', rfl, ht⟩ := ht
    walk_at "MY enter"; intro g' L' h' KG' F' N' B' X' T'; (try dsimp only); (try k_fold)
    replace ht := (Tup.keeps ht (Keeps.all KG')).is
    walk_at "MY steps"
    (rename News _ _ _ _ => N9)
    exact Back.intro (by k_asm) ⟨_, _, _, rfl, new_of KG' N9 (.head _), (N9 _ (.head _)).1, .cons _ _ .nil⟩
  | c k i =>
    intro s x ht hsz p loose mean mg mb dp un gd env outer L h₀ base m A₀ E C N hd' hu
    obtain ⟨a, tk, tk', rfl, rfl | rfl, ht⟩ := ht
    all_goals (
      walk_at "MY enter"; intro g' L' h' KG' F' N' B' X' T'; (try dsimp only); (try k_fold)
      replace ht := (Tup.keeps ht (Keeps.all KG')).is
      walk_at "MY steps"
      (rename News _ _ _ _ => N9)
      exact Back.intro (by k_asm) ⟨_, _, _, rfl, new_of KG' N9 (.head _), (N9 _ (.head _)).1, .nil⟩)
  | s1 t ih =>
    intro s x ht hsz p loose mean mg mb dp un gd env outer L h₀ base m A₀ E C N hd' hu
    obtain ⟨a, b, y, tk, tk', rfl, ht, ht1, ht2⟩ := ht
    simp only [T.ht] at hd' hu
    simp only [T.sz] at hsz
    have hle := t.leaves_le
    walk_at "MY enter"; intro g' L' h' KG' F' N' B' X' T'; (try dsimp only); (try k_fold)
    replace ht := (Tup.keeps ht (Keeps.all KG')).is
    replace ht1 := (Tup.keeps ht1 (Keeps.all KG')).is
    replace ht2 := TIn.keep (Keeps.all KG') ht2
    walk_at "MY steps"
    refine AtFor.turns PassesOwn.never ?_
    walk_at "MY steps"
    refine tup_iter (items := [y]) (by k_asm) (by k_asm) ht1 ?_
    intro I h2 o2 F2 N2 l2 hc2 hd2 W turn; k_lt l2
    refine turn _ ?_
    refine tup_next F2 N2 (by k_all) hc2 hd2 ht1 rfl rfl ?_
    intro h3 o3 F3 N3 hc3 hd3
    walk_at "MY steps"
    refine AtCall.does (ih _ _ (TIn.keep (Fr.keep (by k_asm)) ht2) (by omega)) (by k_asm) (by k_asm) (by k_asm) (by k_asm) rfl rfl News.nil (by show dp + 1 + _ < 900; exact room_d hd' (by first | exact Nat.le_refl _ | exact Nat.le_add_left _ _ | omega)) (by show un + 3 + 8 * _ < 9000; exact room_u hu (by first | exact Nat.le_refl _ | exact Nat.le_add_left _ _ | omega)) ?_
    (rename Fr _ _ _ _ => F9); (rename News _ _ _ _ => N9)
    intro r h2 tk2 K2 P2
    obtain ⟨l, vs, n, rfl, hn, hl, hi⟩ := P2
    have ne := new_ne N9 hn; simp only [AllNe, and_true] at ne
    replace N9 := news_add F9 N9 K2 hn hl
    replace F9 := fr_keep F9 K2
    have hlen := hi.length
    walk_at "MY steps"
    (rename Fr _ _ _ _ => F9); (rename News _ _ _ _ => N9)
    replace N9 := news_tl N9
    refine turn _ ?_
    refine tup_end F9 N9 (by k_all) hc3 hd3 ht1 rfl rfl ?_
    intro h4 F4 N4
    walk_at "MY steps"
    exact Back.intro (by k_asm) ⟨_, _, _, rfl, new_of KG' N4 (.head _), (N4 _ (.head _)).1, by simpa [T.leaves] using hi⟩
  | s2 t t' ih ih' =>
    intro s x ht hsz p loose mean mg mb dp un gd env outer L h₀ base m A₀ E C N hd' hu
    obtain ⟨a, b, y, z, tk, tk', rfl, ht, ht1, ht2, ht3⟩ := ht
    simp only [T.ht] at hd' hu
    simp only [T.sz] at hsz
    have hle := t.leaves_le
    have hle' := t'.leaves_le
    walk_at "MY enter"; intro g' L' h' KG' F' N' B' X' T'; (try dsimp only); (try k_fold)
    replace ht := (Tup.keeps ht (Keeps.all KG')).is
    replace ht1 := (Tup.keeps ht1 (Keeps.all KG')).is
    replace ht2 := TIn.keep (Keeps.all KG') ht2
    replace ht3 := TIn.keep (Keeps.all KG') ht3
    walk_at "MY steps"
    refine AtFor.turns PassesOwn.never ?_
    walk_at "MY steps"
    refine tup_iter (items := [y, z]) (by k_asm) (by k_asm) ht1 ?_
    intro I h2 o2 F2 N2 l2 hc2 hd2 W turn; k_lt l2
    refine turn _ ?_
    refine tup_next F2 N2 (by k_all) hc2 hd2 ht1 rfl rfl ?_
    intro h3 o3 F3 N3 hc3 hd3
    walk_at "MY steps"
    refine AtCall.does (ih _ _ (TIn.keep (Fr.keep (by k_asm)) ht2) (by omega)) (by k_asm) (by k_asm) (by k_asm) (by k_asm) rfl rfl News.nil (by show dp + 1 + _ < 900; exact room_d hd' (by first | exact Nat.le_refl _ | exact Nat.le_add_left _ _ | omega)) (by show un + 3 + 8 * _ < 9000; exact room_u hu (by first | exact Nat.le_refl _ | exact Nat.le_add_left _ _ | omega)) ?_
    (rename Fr _ _ _ _ => F9); (rename News _ _ _ _ => N9)
    intro r h2 tk2 K2 P2
    obtain ⟨l, vs, n, rfl, hn, hl, hi⟩ := P2
    have ne := new_ne N9 hn; simp only [AllNe, and_true] at ne
    replace N9 := news_add F9 N9 K2 hn hl
    replace F9 := fr_keep F9 K2
    have hlen := hi.length
    walk_at "MY steps"
    (rename Fr _ _ _ _ => F9); (rename News _ _ _ _ => N9)
    replace N9 := news_tl N9
    refine turn _ ?_
    refine tup_next F9 N9 (by k_all) hc3 hd3 ht1 rfl rfl ?_
    intro h3 o3 F3 N3 hc3 hd3
    walk_at "MY steps"
    refine AtCall.does (ih' _ _ (TIn.keep (Fr.keep (by k_asm)) ht3) (by omega)) (by k_asm) (by k_asm) (by k_asm) (by k_asm) rfl rfl News.nil (by show dp + 1 + _ < 900; exact room_d hd' (by first | exact Nat.le_refl _ | exact Nat.le_add_left _ _ | omega)) (by show un + 3 + 8 * _ < 9000; exact room_u hu (by first | exact Nat.le_refl _ | exact Nat.le_add_left _ _ | omega)) ?_
    (rename Fr _ _ _ _ => F9); (rename News _ _ _ _ => N9)
    intro r h2 tk2 K2 P2
    obtain ⟨l, vs', n, rfl, hn, hl, hi'⟩ := P2
    have ne := new_ne N9 hn; simp only [AllNe, and_true] at ne
    replace N9 := news_add F9 N9 K2 hn hl
    replace F9 := fr_keep F9 K2
    have hlen' := hi'.length
    walk_at "MY steps"
    (rename Fr _ _ _ _ => F9); (rename News _ _ _ _ => N9)
    replace N9 := news_tl N9
    refine turn _ ?_
    refine tup_end F9 N9 (by k_all) hc3 hd3 ht1 rfl rfl ?_
    intro h4 F4 N4
    walk_at "MY steps"
    exact Back.intro (by k_asm) ⟨_, _, _, rfl, new_of KG' N4 (.head _), (N4 _ (.head _)).1, IntsAre.append hi hi'⟩
end
section
theorem tree_spec {w : World} (k : Addr) (cells : List Int) : ∀ (f : Nat) (s : Shared) (o : Obj) (c d : Int) (td : Tok), d + f = 4 → KeptIs o c cells →
    Does w (hd.heap_39 w.params) PySem.Challenge.rw_ok0006_01.row.prog 82 [.ref k, .int d td] (f + 2) [(k, o)] s (TreeP k f cells s.heap) := by
  unfold Does
  k_fill
  have hrl : recursionLimit = 1000 := rfl
  intro f
  induction f with
  | zero =>
    intro s o c d td hdf hk p loose mean mg mb dp un gd env outer L h₀ base m A₀ E C N hd' hu
    have hd4 : d = 4 := by omega
    subst hd4
    walk_at "MY enterC"; intro g' L' h' tk' cells' KG' F' N' Y' l1 B' X' T'; k_lt l1; k_cells Y'; (try simp only [List.cons_append, List.nil_append] at N'); (try dsimp only); (try k_fold)
    walk_at "MY steps"
    (rename Fr _ _ _ _ => F9); (rename News _ _ _ _ => N9)
    refine AtCall.does (next_spec _ k _ _ cells 6 _ (by decide) hk) (by k_asm) F9 (by k_asm) (by k_asm) rfl rfl (news_one N9 (by k_mem)) (by show dp + 1 + _ < 900; exact room_d hd' (by first | exact Nat.le_refl _ | exact Nat.le_add_left _ _ | omega)) (by show un + 3 + 8 * _ < 9000; exact room_u hu (by first | exact Nat.le_refl _ | exact Nat.le_add_left _ _ | omega)) ?_
    intro r h2 tk2 K2 P2
    obtain ⟨x, tx, o3, rfl, hx0, hx1, ho3, hk3⟩ := P2
    have AU := after_upd (k := k) (o' := o3) F9 N9 (by k_upd) K2 ho3
    clear F9 N9; obtain ⟨F9, N9⟩ := AU
    walk_at "MY steps"
    all_goals (
      (rename Fr _ _ _ _ => F9); (rename News _ _ _ _ => N9)
      refine AtCall.does (next_spec _ k _ _ cells 6 _ (by decide) hk3) (by k_asm) F9 (by k_asm) (by k_asm) rfl rfl (news_one N9 (by k_mem)) (by show dp + 1 + _ < 900; exact room_d hd' (by first | exact Nat.le_refl _ | exact Nat.le_add_left _ _ | omega)) (by show un + 3 + 8 * _ < 9000; exact room_u hu (by first | exact Nat.le_refl _ | exact Nat.le_add_left _ _ | omega)) ?_
      intro r h2 tk2 K2 P2
      obtain ⟨y, tx, o3, rfl, hy0, hy1, ho3, hk4⟩ := P2
      have AU := after_upd (k := k) (o' := o3) F9 N9 (by k_upd) K2 ho3
      clear F9 N9; obtain ⟨F9, N9⟩ := AU
      walk_at "MY steps"
      (rename News _ _ _ _ => N8); (rename Fr _ _ _ _ => F8)
      exact Back.intro F8 (treeP_leaf (t := .v y) KG' N8 (by k_mem) (by k_mem) (by k_ne) hk4 (fun h'' hq => ⟨_, _, _, rfl, _, hq⟩) (Nat.le_add_left _ _) (fun i hi => by rw [List.mem_singleton.mp hi]; exact ⟨hy0, hy1⟩)))
  | succ f ih =>
    intro s o c d td hdf hk p loose mean mg mb dp un gd env outer L h₀ base m A₀ E Cx N hd' hu
    have hd3 : d ≤ 3 := by omega
    walk_at "MY enterC"; intro g' L' h' tk' cells' KG' F' N' Y' l1 B' X' T'; k_lt l1; k_cells Y'; (try simp only [List.cons_append, List.nil_append] at N'); (try dsimp only); (try k_fold)
    walk_at "MY steps"
    (rename Fr _ _ _ _ => F9); (rename News _ _ _ _ => N9)
    refine AtCall.does (next_spec _ k _ _ cells 6 _ (by decide) hk) (by k_asm) F9 (by k_asm) (by k_asm) rfl rfl (news_one N9 (by k_mem)) (by show dp + 1 + _ < 900; exact room_d hd' (by first | exact Nat.le_refl _ | exact Nat.le_add_left _ _ | omega)) (by show un + 3 + 8 * _ < 9000; exact room_u hu (by first | exact Nat.le_refl _ | exact Nat.le_add_left _ _ | omega)) ?_
    intro r h2 tk2 K2 P2
    obtain ⟨x, tx, o3, rfl, hx0, hx1, ho3, hk3⟩ := P2
    have AU := after_upd (k := k) (o' := o3) F9 N9 (by k_upd) K2 ho3
    clear F9 N9; obtain ⟨F9, N9⟩ := AU
    have hx : x = 0 ∨ x = 1 ∨ x = 2 ∨ x = 3 ∨ x = 4 ∨ x = 5 := by omega
    rcases hx with rfl | rfl | rfl | rfl | rfl | rfl
    · walk_at "MY steps"
      (rename Fr _ _ _ _ => F9); (rename News _ _ _ _ => N9)
      refine AtCall.does (next_spec _ k _ _ cells 6 _ (by decide) hk3) (by k_asm) F9 (by k_asm) (by k_asm) rfl rfl (news_one N9 (by k_mem)) (by show dp + 1 + _ < 900; exact room_d hd' (by first | exact Nat.le_refl _ | exact Nat.le_add_left _ _ | omega)) (by show un + 3 + 8 * _ < 9000; exact room_u hu (by first | exact Nat.le_refl _ | exact Nat.le_add_left _ _ | omega)) ?_
      intro r h2 tk2 K2 P2
      obtain ⟨y, tx, o3, rfl, hy0, hy1, ho3, hk4⟩ := P2
      have AU := after_upd (k := k) (o' := o3) F9 N9 (by k_upd) K2 ho3
      clear F9 N9; obtain ⟨F9, N9⟩ := AU
      walk_at "MY steps"
      (rename News _ _ _ _ => N8); (rename Fr _ _ _ _ => F8)
      exact Back.intro F8 (treeP_leaf (t := .v y) KG' N8 (by k_mem) (by k_mem) (by k_ne) hk4 (fun h'' hq => ⟨_, _, _, rfl, _, hq⟩) (Nat.le_add_left _ _) (fun i hi => by rw [List.mem_singleton.mp hi]; exact ⟨hy0, hy1⟩))
    · walk_at "MY steps"
      (rename Fr _ _ _ _ => F9); (rename News _ _ _ _ => N9)
      refine AtCall.does (next_spec _ k _ _ cells 6 _ (by decide) hk3) (by k_asm) F9 (by k_asm) (by k_asm) rfl rfl (news_one N9 (by k_mem)) (by show dp + 1 + _ < 900; exact room_d hd' (by first | exact Nat.le_refl _ | exact Nat.le_add_left _ _ | omega)) (by show un + 3 + 8 * _ < 9000; exact room_u hu (by first | exact Nat.le_refl _ | exact Nat.le_add_left _ _ | omega)) ?_
      intro r h2 tk2 K2 P2
      obtain ⟨y, tx, o3, rfl, hy0, hy1, ho3, hk4⟩ := P2
      have AU := after_upd (k := k) (o' := o3) F9 N9 (by k_upd) K2 ho3
      clear F9 N9; obtain ⟨F9, N9⟩ := AU
      walk_at "MY steps"
      (rename News _ _ _ _ => N8); (rename Fr _ _ _ _ => F8)
      exact Back.intro F8 (treeP_leaf (t := .v y) KG' N8 (by k_mem) (by k_mem) (by k_ne) hk4 (fun h'' hq => ⟨_, _, _, rfl, _, hq⟩) (Nat.le_add_left _ _) (fun i hi => by rw [List.mem_singleton.mp hi]; exact ⟨hy0, hy1⟩))
    · walk_at "MY steps"
      (rename Fr _ _ _ _ => F9); (rename News _ _ _ _ => N9)
      refine AtCall.does (next_spec _ k _ _ cells 3 _ (by decide) hk3) (by k_asm) F9 (by k_asm) (by k_asm) rfl rfl (news_one N9 (by k_mem)) (by show dp + 1 + _ < 900; exact room_d hd' (by first | exact Nat.le_refl _ | exact Nat.le_add_left _ _ | omega)) (by show un + 3 + 8 * _ < 9000; exact room_u hu (by first | exact Nat.le_refl _ | exact Nat.le_add_left _ _ | omega)) ?_
      intro r h2 tk2 K2 P2
      obtain ⟨y, tx, o3, rfl, hy0, hy1, ho3, hk4⟩ := P2
      have AU := after_upd (k := k) (o' := o3) F9 N9 (by k_upd) K2 ho3
      clear F9 N9; obtain ⟨F9, N9⟩ := AU
      walk_at "MY steps"
      (rename News _ _ _ _ => N8); (rename Fr _ _ _ _ => F8)
      exact Back.intro F8 (treeP_leaf (t := .c (Str.ofString "a") y) KG' N8 (by k_mem) (by k_mem) (by k_ne) hk4 (fun h'' hq => ⟨_, _, _, rfl, .inl rfl, _, hq⟩) (Nat.le_add_left _ _) (fun i hi => nomatch hi))
    · walk_at "MY steps"
      (rename Fr _ _ _ _ => F9); (rename News _ _ _ _ => N9)
      refine AtCall.does (next_spec _ k _ _ cells 3 _ (by decide) hk3) (by k_asm) F9 (by k_asm) (by k_asm) rfl rfl (news_one N9 (by k_mem)) (by show dp + 1 + _ < 900; exact room_d hd' (by first | exact Nat.le_refl _ | exact Nat.le_add_left _ _ | omega)) (by show un + 3 + 8 * _ < 9000; exact room_u hu (by first | exact Nat.le_refl _ | exact Nat.le_add_left _ _ | omega)) ?_
      intro r h2 tk2 K2 P2
      obtain ⟨y, tx, o3, rfl, hy0, hy1, ho3, hk4⟩ := P2
      have AU := after_upd (k := k) (o' := o3) F9 N9 (by k_upd) K2 ho3
      clear F9 N9; obtain ⟨F9, N9⟩ := AU
      walk_at "MY steps"
      (rename News _ _ _ _ => N8); (rename Fr _ _ _ _ => F8)
      exact Back.intro F8 (treeP_leaf (t := .c (Str.ofString "i") y) KG' N8 (by k_mem) (by k_mem) (by k_ne) hk4 (fun h'' hq => ⟨_, _, _, rfl, .inr rfl, _, hq⟩) (Nat.le_add_left _ _) (fun i hi => nomatch hi))
    · walk_at "MY steps"
      refine AtComp.turns (by with_unfolding_all rfl) (by decide) (by rfl) (by decide) ?_
      walk_at "MY steps"
      (rename Fr _ _ _ _ => F9); (rename News _ _ _ _ => N9); (rename IsRange _ _ _ _ _ _ _ _ => R9)
      refine comp_range (n := 1) R9 (by decide) (by first | rfl | decide) F9 N9 ?_
      intro I h3 F3 N3 lI hself; k_lt lI
      refine comp_start F3 N3 hself ?_
      intro D C h4 tk4 oC W F4 N4 hC0 lD lC turn; k_lt lD; k_lt2 lC
      refine turn _ _ ?_
      refine comp_next F4 N4 (next_range (by decide)) hC0 (by k_ne) (by k_ne) (by k_ne) (by k_all) (by k_all) rfl (by rfl) ?_
      rintro v o5 h5 tk5 oC5 m5 ⟨⟨t5, rfl⟩, rfl⟩ F5 N5 hC5 hx5
      walk_at "MY steps"
      (rename Fr _ _ _ _ => F9); (rename News _ _ _ _ => N9)
      refine AtCall.does (ih _ _ _ (d + 1) _ (by omega) hk3) (by k_asm) F9 (by k_asm) (by k_asm) rfl rfl (news_one N9 (by k_mem)) (by show dp + 1 + _ < 900; exact room_d hd' (by first | exact Nat.le_refl _ | exact Nat.le_add_left _ _ | omega)) (by show un + 3 + 8 * _ < 9000; exact room_u hu (by first | exact Nat.le_refl _ | exact Nat.le_add_left _ _ | omega)) ?_
      intro r1 h2 tk2 K2 P2
      obtain ⟨t1, c1, o41, ⟨tl1, at1, hf1, hp1⟩, hh1, hv1, ho4, hk41⟩ := P2
      have nI1 := tl_ne (a := I) N9 (by k_mem) hf1; have nC1 := tl_ne (a := C) N9 (by k_mem) hf1; have nD1 := tl_ne (a := D) N9 (by k_mem) hf1; have nk1 := tl_ne (a := k) N9 (by k_mem) hf1
      have NT := tl_news F9 hf1
      have AU := after_upd (k := k) (o' := o41) F9 N9 (by k_upd) K2 ho4
      clear F9 N9; obtain ⟨F9, N9⟩ := AU
      replace N9 := nApp N9 NT; simp only [List.cons_append, List.nil_append] at N9
      dsimp only
      refine comp_el F9 N9 (by k_upd) (by simp) ?_
      intro h6 F6 N6
      refine turn _ _ ?_
      refine comp_end F6 N6 (end_range rfl (by decide)) hC5 (by k_ne) (by k_ne) (by k_ne) (by k_all) (by k_all) ?_
      intro h7 tk7 F7 N7
      walk_at "MY steps"
      (rename News _ _ _ _ => N8); (rename Fr _ _ _ _ => F8)
      exact Back.intro F8 (treeP_s1 (tl := tl1) KG' N8 (by k_mem) rfl (by k_mem) (by intro p hp; (repeat' first | exact hp | refine List.Mem.tail _ ?_)) at1 hp1 (by k_mem) (by k_ne) (by k_ne) nk1 hk41 hh1 hv1)
    · walk_at "MY steps"
      refine AtComp.turns (by with_unfolding_all rfl) (by decide) (by rfl) (by decide) ?_
      walk_at "MY steps"
      (rename Fr _ _ _ _ => F9); (rename News _ _ _ _ => N9); (rename IsRange _ _ _ _ _ _ _ _ => R9)
      refine comp_range (n := 2) R9 (by decide) (by first | rfl | decide) F9 N9 ?_
      intro I h3 F3 N3 lI hself; k_lt lI
      refine comp_start F3 N3 hself ?_
      intro D C h4 tk4 oC W F4 N4 hC0 lD lC turn; k_lt lD; k_lt2 lC
      refine turn _ _ ?_
      refine comp_next F4 N4 (next_range (by decide)) hC0 (by k_ne) (by k_ne) (by k_ne) (by k_all) (by k_all) rfl (by rfl) ?_
      rintro v o5 h5 tk5 oC5 m5 ⟨⟨t5, rfl⟩, rfl⟩ F5 N5 hC5 hx5
      walk_at "MY steps"
      (rename Fr _ _ _ _ => F9); (rename News _ _ _ _ => N9)
      refine AtCall.does (ih _ _ _ (d + 1) _ (by omega) hk3) (by k_asm) F9 (by k_asm) (by k_asm) rfl rfl (news_one N9 (by k_mem)) (by show dp + 1 + _ < 900; exact room_d hd' (by first | exact Nat.le_refl _ | exact Nat.le_add_left _ _ | omega)) (by show un + 3 + 8 * _ < 9000; exact room_u hu (by first | exact Nat.le_refl _ | exact Nat.le_add_left _ _ | omega)) ?_
      intro r1 h2 tk2 K2 P2
      obtain ⟨t1, c1, o41, ⟨tl1, at1, hf1, hp1⟩, hh1, hv1, ho4, hk41⟩ := P2
      have nI1 := tl_ne (a := I) N9 (by k_mem) hf1; have nC1 := tl_ne (a := C) N9 (by k_mem) hf1; have nD1 := tl_ne (a := D) N9 (by k_mem) hf1; have nk1 := tl_ne (a := k) N9 (by k_mem) hf1
      have NT := tl_news F9 hf1
      have AU := after_upd (k := k) (o' := o41) F9 N9 (by k_upd) K2 ho4
      clear F9 N9; obtain ⟨F9, N9⟩ := AU
      replace N9 := nApp N9 NT; simp only [List.cons_append, List.nil_append] at N9
      dsimp only
      refine comp_el F9 N9 (by k_upd) (by simp) ?_
      intro h6 F6 N6
      refine turn _ _ ?_
      refine comp_next F6 N6 (next_range (by decide)) hC5 (by k_ne) (by k_ne) (by k_ne) (by k_all) (by k_all) rfl (by rfl) ?_
      rintro v o5 h5 tk5 oC5 m5 ⟨⟨t5, rfl⟩, rfl⟩ F5 N5 hC5 hx5
      walk_at "MY steps"
      (rename Fr _ _ _ _ => F9); (rename News _ _ _ _ => N9)
      refine AtCall.does (ih _ _ _ (d + 1) _ (by omega) hk41) (by k_asm) F9 (by k_asm) (by k_asm) rfl rfl (news_one N9 (by k_mem)) (by show dp + 1 + _ < 900; exact room_d hd' (by first | exact Nat.le_refl _ | exact Nat.le_add_left _ _ | omega)) (by show un + 3 + 8 * _ < 9000; exact room_u hu (by first | exact Nat.le_refl _ | exact Nat.le_add_left _ _ | omega)) ?_
      intro r2 h2 tk2 K2 P2
      obtain ⟨t2, c2, o42, ⟨tl2, at2, hf2, hp2⟩, hh2, hv2, ho4, hk42⟩ := P2
      have nI2 := tl_ne (a := I) N9 (by k_mem) hf2; have nC2 := tl_ne (a := C) N9 (by k_mem) hf2; have nD2 := tl_ne (a := D) N9 (by k_mem) hf2; have nk2 := tl_ne (a := k) N9 (by k_mem) hf2
      have NT := tl_news F9 hf2
      have AU := after_upd (k := k) (o' := o42) F9 N9 (by k_upd) K2 ho4
      clear F9 N9; obtain ⟨F9, N9⟩ := AU
      replace N9 := nApp N9 NT; simp only [List.cons_append, List.nil_append] at N9
      dsimp only
      refine comp_el F9 N9 (by k_upd) (by simp) ?_
      intro h6 F6 N6
      refine turn _ _ ?_
      refine comp_end F6 N6 (end_range rfl (by decide)) hC5 (by k_ne) (by k_ne) (by k_ne) (by k_all) (by k_all) ?_
      intro h7 tk7 F7 N7
      walk_at "MY steps"
      (rename News _ _ _ _ => N8); (rename Fr _ _ _ _ => F8)
      exact Back.intro F8 (treeP_s2 (tl := tl1) (tl' := tl2) KG' N8 (by k_mem) rfl (by k_mem) (by intro p hp; (repeat' first | exact List.mem_append.mpr (.inl hp) | refine List.Mem.tail _ ?_)) at1 (by intro p hp; (repeat' first | exact List.mem_append.mpr (.inr hp) | refine List.Mem.tail _ ?_)) at2 hp1 hp2 (by k_mem) (by k_ne) (by k_ne) nk1 nk2 hk42 hh1 hv1 hh2 hv2)
end
section
def CellsP (h : Heap) (r : Value) (h' : Heap) : Prop := ∃ k o cells, r = .ref k ∧ h.get? k = none ∧ h'.get? k = some o ∧ KeptIs o 0 cells

theorem cells_spec {w : World} (s : Shared) (l : Addr) (vs : List Value) (ns : List Int) (hl : s.heap.IsList l vs.toArray) (hi : IntsAre vs ns) (hlen : ns.length ≤ 63) :
    Does w (hd.heap_39 w.params) PySem.Challenge.rw_ok0006_01.row.prog 70 [.ref l] 1 [] s (CellsP s.heap) := by
  unfold Does
  k_fill
  have hrl : recursionLimit = 1000 := rfl
  intro p loose mean mg mb dp un gd env outer L h₀ base m A₀ E C N hd' hu
  walk_at "MY enter"; intro g' L' h' KG' F' N' B' X' T'; (try dsimp only); (try k_fold)
  have hl' : g'.IsList l vs.toArray := hl.at fun o e => KG'.all _ _ e
  walk_at "MY steps"
  refine AtFor.turns PassesOwn.never ?_
  walk_at "MY steps"
  (rename Fr _ _ _ _ => F9); (rename News _ _ _ _ => N9); (rename IntsAre _ _ => hW)
  have hms : (List.take 60 ns).length ≤ 60 := by simp; omega
  generalize List.take 60 ns = ms at hW hms
  refine list_iter F9 N9 (.head _) ?_
  intro I h2 o2 F2 N2 lI hc2 hd2 W turn; k_lt lI
  have key : ∀ (D K : Addr) (ws : List Value) (hW : IntsAre ws ms) (hKD : @LT.lt Nat _ K D) (hDI : @LT.lt Nat _ D I) (j i : Nat) (h : Heap) (tk : Nat) (u : Str → Option Value) (o : Obj) (kv : List Value) (cells : List Int) (kn : Nat), j + i = ms.length → cells.length ≤ 2 * i → IntsAre kv (0 :: cells) →
      Fr g' L' h (fun y => if y = Str.ofString "kept" then some (.ref K) else u y) → News g' L' h [(I, o), (D, listOf ws.toArray 0), (K, listOf kv.toArray kn)] → o.cls = .type "list_iterator" → o.data = .fields #[.ref D, .int (i : Nat) 0] →
      W { s with heap := h, toks := tk } := by
    intro D K ws hW hKD hDI j
    induction j with
    | zero =>
      intro i h tk u o kv cells kn hj hc hk F N ho1 ho2
      refine turn _ ?_
      refine list_end F N (by k_all) ho1 ho2 (by k_mem) rfl (by rw [hW.length]; omega) ?_
      intro h3 F3 N3
      walk_at "MY steps"
      exact Back.intro (by k_asm) ⟨K, _, cells, rfl, new_of KG' N3 (.tail _ (.head _)), (N3 _ (.tail _ (.head _))).1, ⟨_, _, rfl, hk⟩, by omega, by omega⟩
    | succ j ih =>
      intro i h tk u o kv cells kn hj hc hk F N ho1 ho2
      refine turn _ ?_
      obtain ⟨t, hx⟩ := hW.get i (ms[i]'(by omega)) (by simp)
      have hkl := hk.length; simp only [List.length_cons] at hkl
      refine list_next F N (by k_all) ho1 ho2 (by k_mem) hx ?_
      intro h3 o3 F3 N3 hc3 hd3
      walk_at "MY steps"
      all_goals (
        (rename Fr _ _ _ _ => F8); (rename News _ _ _ _ => N8)
        first
        | exact ih (i + 1) _ _ _ _ _ (cells ++ [_] ++ [_]) _ (by omega) (by simp; omega) (IntsAre.append (IntsAre.append hk (.cons _ _ .nil)) (.cons _ _ .nil)) (fr_shape1 F8 rfl) N8 hc3 hd3
        | exact ih (i + 1) _ _ _ _ _ (cells ++ [_]) _ (by omega) (by simp; omega) (IntsAre.append hk (.cons _ _ .nil)) (fr_shape1 F8 rfl) N8 hc3 hd3)
  exact key _ _ _ hW (by omega) (by omega) _ 0 _ _ _ _ _ [] _ rfl (Nat.le_refl _) (.cons _ _ .nil) (fr_shape1 F2 rfl) N2 hc2 hd2
end
section
local macro_rules | `(tactic| walk_at "setItem ref int") => `(tactic| (k_dflt (refine' kda_set (knd := PySem.intKind _ _) ?F ?N ?U ?d (intKind_is _ _ _ _) ?z ?_; (case F => k_asm); (case N => k_asm); (case U => k_updF); (case d => k_asm); (case z => rw [sizeLine_eq]; omega)); intro h' o' F' N' hd'; (try dsimp only at N')))
/-- what a table's names and terms are like -/
structure TabOk (n : Int) (f : Nat) (tab : Tab) : Prop where
  names : ∀ p ∈ tab, 0 ≤ p.1 ∧ p.1 < n
  terms : ∀ p ∈ tab, p.2.ht ≤ f + 1 ∧ ∀ i ∈ p.2.leaves, 0 ≤ i ∧ i < 6
  apart : (tab.map (·.1)).Nodup
theorem TabOk.wider {n n' : Int} {f : Nat} {tab : Tab} (h : TabOk n f tab) (e : n ≤ n') : TabOk n' f tab := ⟨fun p hp => ⟨(h.names p hp).1, Int.lt_of_lt_of_le (h.names p hp).2 e⟩, h.terms, h.apart⟩
theorem TabOk.more {n n' : Int} {f : Nat} {tab : Tab} {t : T} (h : TabOk n f tab) (hn : 0 ≤ n) (e : n < n') (h1 : t.ht ≤ f + 1) (h2 : ∀ i ∈ t.leaves, 0 ≤ i ∧ i < 6) : TabOk n' f (put tab n t) := by
  have hno : tab.lookup n = none := lookup_none_of fun p hp => by have := (h.names p hp).2; omega
  rw [put_new hno]
  refine ⟨fun p hp => ?_, fun p hp => ?_, ?_⟩
  · rcases List.mem_append.mp hp with hp | hp
    · exact ⟨(h.names p hp).1, by have := (h.names p hp).2; omega⟩
    · rw [List.mem_singleton.mp hp]; exact ⟨hn, e⟩
  · rcases List.mem_append.mp hp with hp | hp
    · exact h.terms p hp
    · rw [List.mem_singleton.mp hp]; exact ⟨h1, h2⟩
  · rw [List.map_append, List.nodup_append]
    refine ⟨h.apart, by simp, ?_⟩
    intro a ha b hb
    obtain ⟨p, hp, rfl⟩ := List.mem_map.mp ha
    simp only [List.map_cons, List.map_nil, List.mem_singleton] at hb
    have := (h.names p hp).2
    omega
theorem put_length {α : Type} (l : List (Int × α)) (k : Int) (a : α) : (put l k a).length ≤ l.length + 1 := by unfold put; split <;> simp
def TabP (prog : Program) (w : World) (k : Addr) (cells : List Int) (h : Heap) (r : Value) (h' : Heap) : Prop :=
  ∃ d o kvs tab tl c' o', r = .ref d ∧ h.get? d = none ∧ h'.get? d = some o ∧ o.IsDictOf (intKind prog w) kvs ∧ (d == sysModules) = false ∧ AllTup tl ∧ (∀ p ∈ tl, h.get? p.1 = none ∧ h'.get? p.1 = some p.2) ∧
    (∀ h'' : Heap, (∀ p ∈ tl, h''.get? p.1 = some p.2) → KR (TIn h'') kvs tab) ∧ (TabOk 6 2 tab ∧ tab.length ≤ 6) ∧ h'.get? k = some o' ∧ KeptIs o' c' cells

set_option pp.maxSteps 3000
theorem table_spec {w : World} (k : Addr) (cells : List Int) (s : Shared) (o : Obj) (c : Int) (td : Tok) (hk : KeptIs o c cells) :
    Does w (hd.heap_39 w.params) PySem.Challenge.rw_ok0006_01.row.prog 89 [.ref k, .int 2 td] 5 [(k, o)] s (TabP PySem.Challenge.rw_ok0006_01.row.prog w k cells s.heap) := by
  unfold Does
  k_fill
  have hrl : recursionLimit = 1000 := rfl
  intro p loose mean mg mb dp un gd env outer L h₀ base m A₀ E Cx N hd' hu
  walk_at "MY enter"; intro g' L' h' KG' F' N' B' X' T'; (try dsimp only); (try k_fold)
  walk_at "MY steps"
  refine AtFor.turns PassesOwn.never ?_
  walk_at "MY steps"
  (rename Fr _ _ _ _ => F9); (rename News _ _ _ _ => N9); (rename IsRange _ _ _ _ _ _ _ _ => R9)
  refine for_range (n := 6) R9 (by decide) (by first | rfl | decide) F9 N9 ?_
  intro I h2 F2 N2 lI W turn; k_lt lI
  (rename (_ == sysModules) = false => LO); (rename Obj.IsDictOf (intKind _ _) _ _ => HI)
  have key : ∀ (D : Addr) (LO : (D == sysModules) = false) (hkD : @LT.lt Nat _ k D) (hDI : @LT.lt Nat _ D I) (j i : Nat) (h : Heap) (tk : Nat) (u : Str → Option Value) (oD ok : Obj) (c : Int) (kvs : List (Int × Value)) (tab : Tab) (tl : List (Addr × Obj)), j + i = 6 →
      Fr g' L' h (fun y => if y = Str.ofString "table" then some (.ref D) else if y = Str.ofString "kept" then some (.ref k) else if y = Str.ofString "first" then some (.int 2 td) else u y) →
      News g' L' h ((I, itR i j) :: (D, oD) :: (k, ok) :: tl) → (∀ p ∈ tl, p.1 ≠ I) → (∀ p ∈ tl, p.1 ≠ D) → (∀ p ∈ tl, p.1 ≠ k) → AllTup tl → oD.IsDictOf (intKind PySem.Challenge.rw_ok0006_01.row.prog w) kvs → KeptIs ok c cells →
      (∀ h'' : Heap, (∀ p ∈ tl, h''.get? p.1 = some p.2) → KR (TIn h'') kvs tab) → TabOk i 2 tab → kvs.length = tab.length → tab.length ≤ i →
      W { s with heap := h, toks := tk } := by
    intro D LO hkD hDI j
    induction j with
    | zero =>
      intro i h tk u oD ok c kvs tab tl hj F N nI nD nk AT HD HK hR hT hl1 hl2
      have hi : i = 6 := by omega
      subst hi
      refine turn _ ?_
      refine for_end F N (by k_all) (end_range rfl (by decide)) ?_
      intro h3 tk3 F3 N3
      walk_at "MY steps"
      exact Back.intro (by k_asm) ⟨D, oD, kvs, tab, tl, c, ok, rfl, (fresh_k KG' (news_one N3 (.head _)) (by simpa using Nat.ne_of_gt hkD) _ (.head _)).1, (N3 _ (.head _)).1, HD, LO, AT, fresh_k KG' (fun p hp => N3 p (.tail _ (.tail _ hp))) nk, hR, ⟨hT, hl2⟩, (N3 _ (.tail _ (.head _))).1, HK⟩
    | succ j ih =>
      intro i h tk u oD ok c kvs tab tl hj F N nI nD nk AT HD HK hR hT hl1 hl2
      refine turn _ ?_
      refine for_next F N (by k_all) (next_range (by omega)) ?_
      rintro v o5 h5 tk5 ⟨⟨t5, rfl⟩, rfl⟩ F5 N5
      walk_at "MY steps"
      (rename Fr _ _ _ _ => F9); (rename News _ _ _ _ => N9)
      refine AtCall.does (next_spec _ k _ _ cells 2 _ (by decide) HK) (by k_asm) F9 (by k_asm) (by k_asm) rfl rfl (news_one N9 (by k_mem)) (by show dp + 1 + _ < 900; exact room_d hd' (by first | exact Nat.le_refl _ | exact Nat.le_add_left _ _ | omega)) (by show un + 3 + 8 * _ < 9000; exact room_u hu (by first | exact Nat.le_refl _ | exact Nat.le_add_left _ _ | omega)) ?_
      intro r h2 tk2 K2 P2
      obtain ⟨x, tx, o3, rfl, hx0, hx1, ho3, hk3⟩ := P2
      have AU := after_upd (k := k) (o' := o3) F9 N9 (by k_upd) K2 ho3
      clear F9 N9; obtain ⟨F9, N9⟩ := AU
      have hx : x = 0 ∨ x = 1 := by omega
      rcases hx with rfl | rfl
      · walk_at "MY steps"
        (rename Fr _ _ _ _ => F8); (rename News _ _ _ _ => N8)
        have e1 : ((i : Int) + 1) = ((i + 1 : Nat) : Int) := by omega
        have e2 : (((j + 1 : Nat) : Int) - 1) = ((j : Nat) : Int) := by omega
        rw [e1, e2] at N8
        exact ih (i + 1) _ _ _ _ _ _ _ _ _ (by omega) (fr_shape3 F8 rfl rfl rfl) N8 nI nD nk AT HD hk3 hR (hT.wider (by omega)) hl1 (by omega)
      · walk_at "MY steps"
        (rename Fr _ _ _ _ => F9); (rename News _ _ _ _ => N9)
        refine AtCall.does (tree_spec k cells 2 _ _ _ 2 _ (by decide) hk3) (by k_asm) F9 (by k_asm) (by k_asm) rfl rfl (news_one N9 (by k_mem)) (by show dp + 1 + _ < 900; exact room_d hd' (by first | exact Nat.le_refl _ | exact Nat.le_add_left _ _ | omega)) (by show un + 3 + 8 * _ < 9000; exact room_u hu (by first | exact Nat.le_refl _ | exact Nat.le_add_left _ _ | omega)) ?_
        intro r1 h2 tk2 K2 P2
        obtain ⟨t1, c1, o41, ⟨tl1, at1, hf1, hp1⟩, hh1, hv1, ho4, hk41⟩ := P2
        have nI1 := tl_ne (a := I) N9 (by k_mem) hf1; have nD1 := tl_ne (a := D) N9 (by k_mem) hf1; have nk1 := tl_ne (a := k) N9 (by k_mem) hf1
        have NT := tl_news F9 hf1
        have AU := after_upd (k := k) (o' := o41) F9 N9 (by k_upd) K2 ho4
        clear F9 N9; obtain ⟨F9, N9⟩ := AU
        replace N9 := nApp N9 NT; simp only [List.cons_append, List.nil_append] at N9
        have nI2 : ∀ p ∈ tl ++ tl1, p.1 ≠ I := List.forall_mem_append.mpr ⟨nI, nI1⟩
        have nD2 : ∀ p ∈ tl ++ tl1, p.1 ≠ D := List.forall_mem_append.mpr ⟨nD, nD1⟩
        have nk2 : ∀ p ∈ tl ++ tl1, p.1 ≠ k := List.forall_mem_append.mpr ⟨nk, nk1⟩
        walk_at "MY steps"
        (rename Fr _ _ _ _ => F8); (rename News _ _ _ _ => N8); (rename Obj.IsDictOf (intKind _ _) _ (stored _ _ _) => H8)
        have e1 : ((i : Int) + 1) = ((i + 1 : Nat) : Int) := by omega
        have e2 : (((j + 1 : Nat) : Int) - 1) = ((j : Nat) : Int) := by omega
        rw [e1, e2] at N8
        have hk9 := stored_length_le kvs (i : Int) r1
        have hk8 : (stored kvs (i : Int) r1).length = (put tab (i : Int) t1).length := by
          exact ((hR _ (fun p hp => (N8 p (by simp [hp])).1)).stored (hp1 _ fun p hp => (N8 p (by simp [hp])).1)).length
        exact ih (i + 1) _ _ _ _ _ _ _ _ _ (by omega) (fr_shape3 F8 rfl rfl rfl) N8 nI2 nD2 nk2 (AT.append at1) H8 hk41 (fun h'' q => (hR h'' fun p hp => q p (List.mem_append.mpr (.inl hp))).stored (hp1 h'' fun p hp => q p (List.mem_append.mpr (.inr hp)))) (hT.more (by omega) (by omega) hh1 hv1) hk8 (by have := put_length tab (i : Int) t1; omega)
  exact key _ LO (by omega) (by omega) 6 0 _ _ _ _ _ c [] [] [] rfl (fr_shape3 F2 rfl rfl rfl) N2 (fun _ hp => nomatch hp) (fun _ hp => nomatch hp) (fun _ hp => nomatch hp) AllTup.nil HI hk (fun _ _ => .nil) ⟨(fun _ hp => nomatch hp), (fun _ hp => nomatch hp), List.nodup_nil⟩ rfl (Nat.le_refl _)
end
section
local macro_rules | `(tactic| walk_at "truthy ref") => `(tactic| (k_dflt (refine todo_true (by k_asm) (by k_mem) (by omega) ?_)))
local macro_rules | `(tactic| walk_at "call builtin:list.pop") => `(tactic| (k_dflt (refine' todo_pop ?F ?N ?U ?r ?_; (case F => k_asm); (case N => k_asm); (case U => k_upd); (case r => omega)); intro h' F' N'))
local macro_rules | `(tactic| walk_at "call type:reversed") => `(tactic| (k_dflt (refine' rev_tuple ?F ?N ?t ?r ?_; (case F => k_asm); (case N => k_asm); (case t => assumption); (case r => (simp only [List.length_cons, List.length_nil]; omega))); intro I' h' tk' F' N' l'; (try k_lt l')))
local macro_rules | `(tactic| walk_at "call builtin:list.extend") => `(tactic| (k_dflt (refine' ext_rev rfl ?F ?N ?o ?t ?i ?r ?U ?_; (case F => k_asm); (case N => k_asm); (case o => k_all); (case t => assumption); (case i => exact rfl); (case U => k_updF); (case r => (simp only [List.length_cons, List.length_nil]; omega))); intro h' tk' n' F' N'; (try dsimp only at N')))
local macro_rules | `(tactic| walk_at "call builtin:dict.get") => `(tactic| (k_dflt (refine kdg_get2 (knd := PySem.intKind _ _) (by k_asm) (by k_mem) (by k_asm) (by k_asm) (intKind_is _ _ _ _) _ (by assumption) ?_); (try dsimp only [Option.getD])))
local macro_rules | `(tactic| walk_at "setItem ref int") => `(tactic| (k_dflt (refine' kda_set (knd := PySem.intKind _ _) ?F ?N ?U ?d (intKind_is _ _ _ _) ?z ?_; (case F => k_asm); (case N => k_asm); (case U => k_updF); (case d => k_asm); (case z => rw [sizeLine_eq]; omega)); intro h' o' F' N' hd'; (try dsimp only at N')))
section
local macro_rules | `(tactic| walk_at "call builtin:list.extend") => `(tactic| (k_dflt (refine' todo_extend ?F ?N ?b ?y ?U ?r ?_; (case F => k_asm); (case N => k_asm); (case b => assumption); (case y => exact List.cons_ne_nil _ _); (case U => k_upd); (case r => (simp only [List.length_cons, List.length_nil]; omega))); intro h' F' N'))

theorem size_spec {w : World} : ∀ (t : T) (s : Shared) (x : Value), TIn s.heap t x → t.sz ≤ 4000 →
    Does w (hd.heap_39 w.params) PySem.Challenge.rw_ok0006_01.row.prog 49 [x] 1 [] s (fun r _ => ∃ tk, r = .int t.sz tk) := by
  unfold Does
  k_fill
  have hrl : recursionLimit = 1000 := rfl
  intro t s x ht hsz p loose mean mg mb dp un gd env outer L h₀ base m A₀ E C N hd' hu
  walk_at "MY enter"; intro g' L' h' KG' F' N' B' X' T'; (try dsimp only); (try k_fold)
  replace ht := TIn.keep (Keeps.all KG') ht
  walk_at "MY steps"
  refine AtWhile.turns PassesOwn.never ?_
  intro W turn
  (rename Fr _ _ _ _ => F9); (rename News _ _ _ _ => N9)
  have key : ∀ (D : Addr) (t : T) (rest : List Value) (v : Value) (n : Int) (k : Nat) (h : Heap) (tk : Nat) (u : Str → Option Value) (tn : Tok), TIn g' t v → rest.length + t.sz ≤ 5000 →
      Fr g' L' h (fun y => if y = Str.ofString "todo" then some (.ref D) else if y = Str.ofString "total" then some (.int n tn) else u y) →
      News g' L' h [(D, listOf (rest ++ [v]).toArray k)] →
      (∀ (k : Nat) (h : Heap) (tk : Nat) (u : Str → Option Value) (tn : Tok),
        Fr g' L' h (fun y => if y = Str.ofString "todo" then some (.ref D) else if y = Str.ofString "total" then some (.int (n + t.sz) tn) else u y) →
        News g' L' h [(D, listOf rest.toArray k)] → W { s with heap := h, toks := tk }) →
      W { s with heap := h, toks := tk } := by
    intro D t
    induction t with
    | v i =>
      intro rest v n k h tk u tn ht hr F N hK
      obtain ⟨a, t1, t2, rfl, ht⟩ := ht
      replace ht := ht.is
      simp only [T.sz] at hr
      refine turn _ ?_
      walk_at "MY steps"
      (rename Fr _ _ _ _ => F8)
      exact hK _ _ _ _ _ (fr_shape2 F8 rfl rfl) (by k_asm)
    | c kk i =>
      intro rest v n k h tk u tn ht hr F N hK
      obtain ⟨a, t1, t2, rfl, rfl | rfl, ht⟩ := ht
      all_goals (
        replace ht := ht.is
        simp only [T.sz] at hr
        refine turn _ ?_
        walk_at "MY steps"
        (rename Fr _ _ _ _ => F8)
        exact hK _ _ _ _ _ (fr_shape2 F8 rfl rfl) (by k_asm))
    | s1 t ih =>
      intro rest v n k h tk u tn ht hr F N hK
      obtain ⟨a, b, y, t1, t2, rfl, ht, ht1, ht2⟩ := ht
      replace ht := ht.is
      simp only [T.sz] at hr
      refine turn _ ?_
      walk_at "MY steps"
      (rename Fr _ _ _ _ => F8)
      refine ih rest y _ _ _ _ _ _ ht2 (by omega) (fr_shape2 F8 rfl rfl) (by k_asm) ?_
      intro k h tk u tn F N
      refine hK _ _ _ u tn ?_ N
      have e : n + ((1 + t.sz : Nat) : Int) = n + 1 + (t.sz : Int) := by omega
      simp only [T.sz]
      rw [e]; exact F
    | s2 t t' ih ih' =>
      intro rest v n k h tk u tn ht hr F N hK
      obtain ⟨a, b, y, z, t1, t2, rfl, ht, ht1, ht2, ht3⟩ := ht
      have p1 := t.sz_pos; have p2 := t'.sz_pos
      replace ht := ht.is
      simp only [T.sz] at hr
      refine turn _ ?_
      walk_at "MY steps"
      (rename Fr _ _ _ _ => F8); (rename News _ _ _ _ => N9)
      have e9 : rest ++ [y, z] = (rest ++ [y]) ++ [z] := by simp
      rw [e9] at N9
      refine ih' (rest ++ [y]) z _ _ _ _ _ _ ht3 (by simp; omega) (fr_shape2 F8 rfl rfl) N9 ?_
      intro k h tk u tn F N
      refine ih rest y _ _ _ _ _ _ ht2 (by omega) F N ?_
      intro k h tk u tn F N
      refine hK _ _ _ u tn ?_ N
      have e : n + ((1 + (t.sz + t'.sz) : Nat) : Int) = n + 1 + (t'.sz : Int) + (t.sz : Int) := by omega
      simp only [T.sz]
      rw [e]; exact F
  refine key _ t [] x 0 0 _ _ _ _ (TIn.keep (fun b o e => e) ht) (by simp; omega) (fr_shape2 F9 rfl rfl) N9 ?_
  intro k h tk u tn F N
  refine turn _ ?_
  walk_at "MY steps"
  exact Back.intro (by k_asm) (ktn_int (by simp))

theorem ground_spec {w : World} : ∀ (t : T) (s : Shared) (x : Value), TIn s.heap t x → t.sz ≤ 4000 →
    Does w (hd.heap_39 w.params) PySem.Challenge.rw_ok0006_01.row.prog 42 [x] 1 [] s (fun r _ => r = .bool t.ground) := by
  unfold Does
  k_fill
  have hrl : recursionLimit = 1000 := rfl
  intro t s x ht hsz p loose mean mg mb dp un gd env outer L h₀ base m A₀ E C N hd' hu
  walk_at "MY enter"; intro g' L' h' KG' F' N' B' X' T'; (try dsimp only); (try k_fold)
  replace ht := TIn.keep (Keeps.all KG') ht
  walk_at "MY steps"
  refine AtWhile.turns PassesOwn.never ?_
  intro W turn
  (rename Fr _ _ _ _ => F9); (rename News _ _ _ _ => N9)
  have key : ∀ (D : Addr) (t₁ : T) (rest : List Value) (v : Value) (k : Nat) (h : Heap) (tk : Nat) (u : Str → Option Value), TIn g' t₁ v → rest.length + t₁.sz ≤ 5000 →
      Fr g' L' h (fun y => if y = Str.ofString "todo" then some (.ref D) else u y) →
      News g' L' h [(D, listOf (rest ++ [v]).toArray k)] → (t₁.ground = false → t.ground = false) →
      (t₁.ground = true → ∀ (k : Nat) (h : Heap) (tk : Nat) (u : Str → Option Value),
        Fr g' L' h (fun y => if y = Str.ofString "todo" then some (.ref D) else u y) →
        News g' L' h [(D, listOf rest.toArray k)] → W { s with heap := h, toks := tk }) →
      W { s with heap := h, toks := tk } := by
    intro D t₁
    induction t₁ with
    | v i =>
      intro rest v k h tk u ht hr F N hG hK
      obtain ⟨a, t1, t2, rfl, ht⟩ := ht
      replace ht := ht.is
      simp only [T.sz] at hr
      refine turn _ ?_
      walk_at "MY steps"
      show Back g' s (fun r _ => r = Value.bool t.ground) (Value.bool false) _
      exact Back.intro (by k_asm) (by rw [hG rfl])
    | c kk i =>
      intro rest v k h tk u ht hr F N hG hK
      obtain ⟨a, t1, t2, rfl, rfl | rfl, ht⟩ := ht
      all_goals (
        replace ht := ht.is
        simp only [T.sz] at hr
        refine turn _ ?_
        walk_at "MY steps"
        (rename Fr _ _ _ _ => F8)
        exact hK rfl _ _ _ _ (fr_shape1 F8 rfl) (by k_asm))
    | s1 t ih =>
      intro rest v k h tk u ht hr F N hG hK
      obtain ⟨a, b, y, t1, t2, rfl, ht, ht1, ht2⟩ := ht
      replace ht := ht.is
      simp only [T.sz] at hr
      refine turn _ ?_
      walk_at "MY steps"
      (rename Fr _ _ _ _ => F8)
      exact ih rest y _ _ _ _ ht2 (by omega) (fr_shape1 F8 rfl) (by k_asm) hG hK
    | s2 t t' ih ih' =>
      intro rest v k h tk u ht hr F N hG hK
      obtain ⟨a, b, y, z, t1, t2, rfl, ht, ht1, ht2, ht3⟩ := ht
      have p1 := t.sz_pos; have p2 := t'.sz_pos
      replace ht := ht.is
      simp only [T.sz] at hr
      refine turn _ ?_
      walk_at "MY steps"
      (rename Fr _ _ _ _ => F8); (rename News _ _ _ _ => N9)
      have e9 : rest ++ [y, z] = (rest ++ [y]) ++ [z] := by simp
      rw [e9] at N9
      refine ih' (rest ++ [y]) z _ _ _ _ ht3 (by simp; omega) (fr_shape1 F8 rfl) N9 (fun q => hG (by simp [T.ground, q])) ?_
      intro q k h tk u F N
      exact ih rest y _ _ _ _ ht2 (by omega) F N (fun q' => hG (by simp [T.ground, q'])) fun q' => hK (by simp [T.ground, q, q'])
  refine key _ t [] x 0 _ _ _ (TIn.keep (fun b o e => e) ht) (by simp; omega) (fr_shape1 F9 rfl) N9 (fun q => q) ?_
  intro q k h tk u F N
  refine turn _ ?_
  walk_at "MY steps"
  exact Back.intro (by k_asm) (by rw [q])
end
section
/-- how often a name stands in a list of names -/
def tally : List (Int × Nat) → List Int → List (Int × Nat)
  | c, [] => c
  | c, i :: r => tally (put c i ((c.lookup i).getD 0 + 1)) r
theorem tally_length : ∀ (c : List (Int × Nat)) (l : List Int), (tally c l).length ≤ c.length + l.length
  | _, [] => Nat.le_refl _
  | c, i :: r => by
    have := tally_length (put c i ((c.lookup i).getD 0 + 1)) r
    have h : (put c i ((c.lookup i).getD 0 + 1)).length ≤ c.length + 1 := by unfold put; split <;> simp
    simp only [tally, List.length_cons]; omega
theorem tally_append : ∀ (c : List (Int × Nat)) (a b : List Int), tally c (a ++ b) = tally (tally c a) b
  | _, [], _ => rfl
  | c, i :: r, b => tally_append _ r b
def CountR (n : Nat) (x : Value) : Prop := ∃ tk, x = .int n tk

def OccP (prog : Program) (w : World) (t : T) (h : Heap) (r : Value) (h' : Heap) : Prop :=
  ∃ d o kvs, r = .ref d ∧ h.get? d = none ∧ h'.get? d = some o ∧ o.IsDictOf (intKind prog w) kvs ∧ (d == sysModules) = false ∧ KR CountR kvs (tally [] t.leaves)

theorem occ_spec {w : World} : ∀ (t : T) (s : Shared) (x : Value), TIn s.heap t x → t.sz ≤ 2000 →
    Does w (hd.heap_39 w.params) PySem.Challenge.rw_ok0006_01.row.prog 35 [x] 1 [] s (OccP PySem.Challenge.rw_ok0006_01.row.prog w t s.heap) := by
  unfold Does
  k_fill
  have hrl : recursionLimit = 1000 := rfl
  intro t s x ht hsz p loose mean mg mb dp un gd env outer L h₀ base m A₀ E Cx N hd' hu
  walk_at "MY enter"; intro g' L' h' KG' F' N' B' X' T'; (try dsimp only); (try k_fold)
  replace ht := TIn.keep (Keeps.all KG') ht
  walk_at "MY steps"
  refine AtWhile.turns PassesOwn.never ?_
  intro W turn
  (rename Fr _ _ _ _ => F9); (rename News _ _ _ _ => N9)
  (rename (_ == sysModules) = false => LO); (rename Obj.IsDictOf (intKind _ _) _ _ => HI)
  have key : ∀ (D C : Addr) (LO : (C == sysModules) = false) (hCD : @LT.lt Nat _ C D) (t₁ : T) (rest : List Value) (v : Value) (k : Nat) (h : Heap) (tk : Nat) (u : Str → Option Value) (o : Obj) (kvs : List (Int × Value)) (c : List (Int × Nat)), TIn g' t₁ v → rest.length + t₁.sz ≤ 4000 → c.length + t₁.sz ≤ 4000 →
      Fr g' L' h (fun y => if y = Str.ofString "todo" then some (.ref D) else if y = Str.ofString "counts" then some (.ref C) else u y) →
      News g' L' h [(D, PySem.W.listOf (rest ++ [v]).toArray k), (C, o)] → o.IsDictOf (intKind PySem.Challenge.rw_ok0006_01.row.prog w) kvs → KR CountR kvs c →
      (∀ (k : Nat) (h : Heap) (tk : Nat) (u : Str → Option Value) (o : Obj) (kvs : List (Int × Value)),
        Fr g' L' h (fun y => if y = Str.ofString "todo" then some (.ref D) else if y = Str.ofString "counts" then some (.ref C) else u y) →
        News g' L' h [(D, PySem.W.listOf rest.toArray k), (C, o)] → o.IsDictOf (intKind PySem.Challenge.rw_ok0006_01.row.prog w) kvs → KR CountR kvs (tally c t₁.leaves) → W { s with heap := h, toks := tk }) →
      W { s with heap := h, toks := tk } := by
    intro D C LO hCD t₁
    induction t₁ with
    | v i =>
      intro rest v k h tk u o kvs c ht hr hcl F N HD HK hK
      obtain ⟨a, t1, t2, rfl, ht⟩ := ht
      replace ht := ht.is
      simp only [T.sz] at hr hcl
      have hkl := HK.length
      refine turn _ ?_
      rcases HK.find i with ⟨hv, hl⟩ | ⟨x, n, hv, hl, tx, rfl⟩
      · walk_at "MY steps"
        (rename Fr _ _ _ _ => F8); (rename News _ _ _ _ => N8); (rename Obj.IsDictOf (intKind _ _) _ (stored _ _ _) => H8)
        refine hK _ _ _ _ _ _ (fr_shape2 F8 rfl rfl) N8 H8 (KR.stored HK ?_)
        rw [hl]; exact ⟨_, rfl⟩
      · walk_at "MY steps"
        (rename Fr _ _ _ _ => F8); (rename News _ _ _ _ => N8); (rename Obj.IsDictOf (intKind _ _) _ (stored _ _ _) => H8)
        refine hK _ _ _ _ _ _ (fr_shape2 F8 rfl rfl) N8 H8 (KR.stored HK ?_)
        rw [hl]; exact ⟨_, rfl⟩
    | c kk i =>
      intro rest v k h tk u o kvs c ht hr hcl F N HD HK hK
      obtain ⟨a, t1, t2, rfl, rfl | rfl, ht⟩ := ht
      all_goals (
        replace ht := ht.is
        simp only [T.sz] at hr
        refine turn _ ?_
        walk_at "MY steps"
        (rename Fr _ _ _ _ => F8); (rename News _ _ _ _ => N8)
        exact hK _ _ _ _ _ _ (fr_shape2 F8 rfl rfl) N8 HD HK)
    | s1 t ih =>
      intro rest v k h tk u o kvs c ht hr hcl F N HD HK hK
      obtain ⟨a, b, y, t1, t2, rfl, ht, ht1, ht2⟩ := ht
      replace ht := ht.is
      simp only [T.sz] at hr hcl
      refine turn _ ?_
      walk_at "MY steps"
      (rename Fr _ _ _ _ => F8); (rename News _ _ _ _ => N8)
      exact ih rest y _ _ _ _ _ _ _ ht2 (by omega) (by omega) (fr_shape2 F8 rfl rfl) N8 HD HK hK
    | s2 t t' ih ih' =>
      intro rest v k h tk u o kvs c ht hr hcl F N HD HK hK
      obtain ⟨a, b, y, z, t1, t2, rfl, ht, ht1, ht2, ht3⟩ := ht
      have p1 := t.sz_pos; have p2 := t'.sz_pos
      replace ht := ht.is
      simp only [T.sz] at hr hcl
      refine turn _ ?_
      walk_at "MY steps"
      (rename Fr _ _ _ _ => F8); (rename News _ _ _ _ => N9)
      have e9 : rest ++ [y, z].reverse = (rest ++ [z]) ++ [y] := by simp
      rw [e9] at N9
      have q1 := tally_length c t.leaves
      have q2 := t.leaves_le
      refine ih (rest ++ [z]) y _ _ _ _ _ _ _ ht2 (by simp; omega) (by omega) (fr_shape2 F8 rfl rfl) N9 HD HK ?_
      intro k h tk u o kvs F N HD HK
      refine ih' rest z _ _ _ _ _ _ _ ht3 (by omega) (by omega) F N HD HK ?_
      intro k h tk u o kvs F N HD HK
      exact hK _ _ _ _ _ _ F N HD (by simpa [T.leaves, tally_append] using HK)
  refine key _ _ LO (by omega) t [] x 0 _ _ _ _ _ [] ht (by simp; omega) (by simp; omega) (fr_shape2 F9 rfl rfl) N9 HI .nil ?_
  intro k h tk u o kvs F N HD HK
  refine turn _ ?_
  walk_at "MY steps"
  (rename Fr _ _ _ _ => F8); (rename News _ _ _ _ => N8)
  exact Back.intro F8 ⟨_, o, kvs, rfl, new_of KG' N8 (.tail _ (.head _)), (N8 _ (.tail _ (.head _))).1, HD, LO, HK⟩
end
section
local macro_rules | `(tactic| walk_at "compareOp NotIn int ref") => `(tactic| (k_dflt (refine kdg_notin (knd := PySem.intKind _ _) (by k_asm) (by k_mem) (by k_asm) (by k_asm) (intKind_is _ _ _ _) _ (by assumption) ?_); (try dsimp only [Bool.not_true, Bool.not_false])))
local macro_rules | `(tactic| walk_at "call type:list") => `(tactic| (k_dflt (refine' list_rev rfl ?F ?N ?o ?l ?r ?_; (case F => k_asm); (case N => k_asm); (case o => k_all); (case l => assumption); (case r => (simp only [List.length_cons, List.length_nil]; omega))); intro I' h' tk' n' F' N' l'; (try k_lt l')))
local macro_rules | `(tactic| walk_at "call type:reversed") => `(tactic| (k_dflt (refine' rev_list ?F ?N ?t ?_; (case F => k_asm); (case N => k_asm); (case t => assumption)); intro I' h' F' N' l'; (try k_lt l')))

def VarsP (t : T) (h : Heap) (r : Value) (h' : Heap) : Prop :=
  ∃ l vs ns n, r = .ref l ∧ h.get? l = none ∧ h'.get? l = some (PySem.W.listOf (List.toArray vs) n) ∧ IntsAre vs ns ∧ (ns = [] ↔ t.leaves = [])

theorem varsof_spec {w : World} : ∀ (t : T) (s : Shared) (l : Addr) (x : Value), s.heap.IsList l [x].toArray → TIn s.heap t x → t.sz ≤ 2000 →
    Does w (hd.heap_39 w.params) PySem.Challenge.rw_ok0006_01.row.prog 28 [.ref l] 1 [] s (VarsP t s.heap) := by
  unfold Does
  k_fill
  have hrl : recursionLimit = 1000 := rfl
  intro t s l x hl ht hsz p loose mean mg mb dp un gd env outer L h₀ base m A₀ E Cx N hd' hu
  walk_at "MY enter"; intro g' L' h' KG' F' N' B' X' T'; (try dsimp only); (try k_fold)
  replace ht := TIn.keep (Keeps.all KG') ht
  replace hl : g'.IsList l [x].toArray := hl.at fun o e => KG'.all _ _ e
  walk_at "MY steps"
  refine AtWhile.turns PassesOwn.never ?_
  intro W turn
  (rename Fr _ _ _ _ => F9); (rename News _ _ _ _ => N9)
  (rename (_ == sysModules) = false => LO); (rename Obj.IsDictOf (intKind _ _) _ _ => HI)
  have key : ∀ (D C R : Addr) (LO : (C == sysModules) = false) (hCR : @LT.lt Nat _ C R) (hCD : @LT.lt Nat _ R D) (t₁ : T) (rest : List Value) (v : Value) (k : Nat) (h : Heap) (tk : Nat) (u : Str → Option Value) (o : Obj) (kvs : List (Int × Value)) (c : List (Int × Unit)) (vs : List Value) (ns : List Int) (nr : Nat), TIn g' t₁ v → rest.length + t₁.sz ≤ 4000 → c.length + t₁.sz ≤ 4000 →
      Fr g' L' h (fun y => if y = Str.ofString "todo" then some (.ref D) else if y = Str.ofString "result" then some (.ref R) else if y = Str.ofString "seen" then some (.ref C) else u y) →
      News g' L' h [(D, PySem.W.listOf (rest ++ [v]).toArray k), (R, PySem.W.listOf (List.toArray vs) nr), (C, o)] → o.IsDictOf (intKind PySem.Challenge.rw_ok0006_01.row.prog w) kvs → KR (fun _ _ => True) kvs c → IntsAre vs ns → c.length = ns.length →
      (∀ (k : Nat) (h : Heap) (tk : Nat) (u : Str → Option Value) (o : Obj) (kvs : List (Int × Value)) (c' : List (Int × Unit)) (vs : List Value) (ns' : List Int) (nr : Nat), 
        Fr g' L' h (fun y => if y = Str.ofString "todo" then some (.ref D) else if y = Str.ofString "result" then some (.ref R) else if y = Str.ofString "seen" then some (.ref C) else u y) →
        News g' L' h [(D, PySem.W.listOf rest.toArray k), (R, PySem.W.listOf (List.toArray vs) nr), (C, o)] → o.IsDictOf (intKind PySem.Challenge.rw_ok0006_01.row.prog w) kvs → KR (fun _ _ => True) kvs c' → IntsAre vs ns' → c'.length = ns'.length → c'.length ≤ c.length + t₁.sz → (ns' = [] ↔ ns = [] ∧ t₁.leaves = []) → W { s with heap := h, toks := tk }) →
      W { s with heap := h, toks := tk } := by
    intro D C R LO hCR hRD t₁
    induction t₁ with
    | v i =>
      intro rest v k h tk u o kvs c vs ns nr ht hr hcl F N HD HK HI2 hcn hK
      obtain ⟨a, t1, t2, rfl, ht⟩ := ht
      replace ht := ht.is
      simp only [T.sz] at hr hcl
      have hkl := HK.length
      have hvl := HI2.length
      refine turn _ ?_
      rcases HK.find i with ⟨hv, hl⟩ | ⟨x, n, hv, hl, _⟩
      · have hv' : (valueAt kvs i).isSome = false := by rw [hv]; rfl
        walk_at "MY steps"
        (rename Fr _ _ _ _ => F8); (rename News _ _ _ _ => N8); (rename Obj.IsDictOf (intKind _ _) _ (stored _ _ _) => H8)
        have hp : (put c i ()).length = c.length + 1 := by rw [put_new hl]; simp
        exact hK _ _ _ _ _ _ (put c i ()) _ (ns ++ [i]) _ (fr_shape3 F8 rfl rfl rfl) N8 H8 (KR.stored HK trivial) (IntsAre.append HI2 (.cons _ _ .nil)) (by simp [hp, hcn]) (by simp [hp, T.sz]) (by simp [T.leaves])
      · have hv' : (valueAt kvs i).isSome = true := by rw [hv]; rfl
        walk_at "MY steps"
        (rename Fr _ _ _ _ => F8); (rename News _ _ _ _ => N8)
        have hne : ns ≠ [] := fun e => by
          rw [e] at hcn
          have : c = [] := List.length_eq_zero_iff.mp (by simpa using hcn)
          rw [this] at hl; cases hl
        exact hK _ _ _ _ _ _ c _ ns _ (fr_shape3 F8 rfl rfl rfl) N8 HD HK HI2 hcn (by omega) (by simp [hne])
    | c kk i =>
      intro rest v k h tk u o kvs c vs ns nr ht hr hcl F N HD HK HI2 hcn hK
      obtain ⟨a, t1, t2, rfl, rfl | rfl, ht⟩ := ht
      all_goals (
        replace ht := ht.is
        simp only [T.sz] at hr
        refine turn _ ?_
        walk_at "MY steps"
        (rename Fr _ _ _ _ => F8); (rename News _ _ _ _ => N8)
        exact hK _ _ _ _ _ _ c _ ns _ (fr_shape3 F8 rfl rfl rfl) N8 HD HK HI2 hcn (by omega) (by simp [T.leaves]))
    | s1 t ih =>
      intro rest v k h tk u o kvs c vs ns nr ht hr hcl F N HD HK HI2 hcn hK
      obtain ⟨a, b, y, t1, t2, rfl, ht, ht1, ht2⟩ := ht
      replace ht := ht.is
      simp only [T.sz] at hr hcl
      refine turn _ ?_
      walk_at "MY steps"
      (rename Fr _ _ _ _ => F8); (rename News _ _ _ _ => N8)
      refine ih rest y _ _ _ _ _ _ c _ ns _ ht2 (by omega) (by omega) (fr_shape3 F8 rfl rfl rfl) N8 HD HK HI2 hcn ?_
      intro k h tk u o kvs c' vs ns' nr F N HD HK HI2 hcn hb he
      exact hK _ _ _ _ _ _ c' _ ns' _ F N HD HK HI2 hcn (by simp only [T.sz]; omega) he
    | s2 t t' ih ih' =>
      intro rest v k h tk u o kvs c vs ns nr ht hr hcl F N HD HK HI2 hcn hK
      obtain ⟨a, b, y, z, t1, t2, rfl, ht, ht1, ht2, ht3⟩ := ht
      have p1 := t.sz_pos; have p2 := t'.sz_pos
      replace ht := ht.is
      simp only [T.sz] at hr hcl
      refine turn _ ?_
      walk_at "MY steps"
      (rename Fr _ _ _ _ => F8); (rename News _ _ _ _ => N9)
      have e9 : rest ++ [y, z].reverse = (rest ++ [z]) ++ [y] := by simp
      rw [e9] at N9
      refine ih (rest ++ [z]) y _ _ _ _ _ _ c _ ns _ ht2 (by simp; omega) (by omega) (fr_shape3 F8 rfl rfl rfl) N9 HD HK HI2 hcn ?_
      intro k h tk u o kvs c' vs ns' nr F N HD HK HI2 hcn hb he
      refine ih' rest z _ _ _ _ _ _ c' _ ns' _ ht3 (by omega) (by omega) F N HD HK HI2 hcn ?_
      intro k h tk u o kvs c'' vs ns'' nr F N HD HK HI2 hcn hb' he'
      exact hK _ _ _ _ _ _ c'' _ ns'' _ F N HD HK HI2 hcn (by simp only [T.sz]; omega) (by rw [he', he]; simp [T.leaves, and_assoc])
  refine key _ _ _ LO (by omega) (by omega) t [] x _ _ _ _ _ _ [] [] [] 0 ht (by simp; omega) (by simp; omega) (fr_shape3 F9 rfl rfl rfl) N9 HI .nil .nil rfl ?_
  intro k h tk u o kvs c vs ns nr F N HD HK HI2 hcn hb he
  refine turn _ ?_
  walk_at "MY steps"
  (rename Fr _ _ _ _ => F8); (rename News _ _ _ _ => N8)
  exact Back.intro F8 ⟨_, vs, ns, _, rfl, new_of KG' N8 (.tail _ (.head _)), (N8 _ (.tail _ (.head _))).1, HI2, by simpa using he⟩

theorem vars_spec {w : World} : ∀ (t : T) (s : Shared) (x : Value), TIn s.heap t x → t.sz ≤ 2000 →
    Does w (hd.heap_39 w.params) PySem.Challenge.rw_ok0006_01.row.prog 21 [x] 2 [] s (VarsP t s.heap) := by
  unfold Does
  k_fill
  have hrl : recursionLimit = 1000 := rfl
  intro t s x ht hsz p loose mean mg mb dp un gd env outer L h₀ base m A₀ E Cx N hd' hu
  walk_at "MY enter"; intro g' L' h' KG' F' N' B' X' T'; (try dsimp only); (try k_fold)
  replace ht := TIn.keep (Keeps.all KG') ht
  walk_at "MY steps"
  (rename Fr _ _ _ _ => F9); (rename News _ _ _ _ => N9)
  refine AtCall.does (varsof_spec t _ _ x (News.isList N9 (.head _)) (TIn.keep (Fr.keep (by k_asm)) ht) hsz) (by k_asm) (by k_asm) (by k_asm) (by k_asm) rfl rfl News.nil (by show dp + 1 + _ < 900; exact room_d hd' (by first | exact Nat.le_refl _ | exact Nat.le_add_left _ _ | omega)) (by show un + 3 + 8 * _ < 9000; exact room_u hu (by first | exact Nat.le_refl _ | exact Nat.le_add_left _ _ | omega)) ?_
  intro r h2 tk2 K2 P2
  obtain ⟨l, vs, ns, n, rfl, hn, hl, hi, he⟩ := P2
  have ne := new_ne N9 hn; simp only [AllNe, and_true] at ne
  replace N9 := news_add F9 N9 K2 hn hl
  replace F9 := fr_keep F9 K2
  walk_at "MY steps"
  (rename Fr _ _ _ _ => F8); (rename News _ _ _ _ => N8)
  exact Back.intro F8 ⟨_, vs, ns, _, rfl, new_of KG' N8 (.head _), (N8 _ (.head _)).1, hi, he⟩
end
end
section
local macro_rules | `(tactic| walk_at "getMethod ref") => `(tactic| (k_dflt (refine' bd_method ?F ?d ?_; (case F => k_asm); (case d => assumption))))
local macro_rules | `(tactic| walk_at "call builtin:dict.get") => `(tactic| (k_dflt (refine' bd_get2 ?F ?d ?lo _ ?v ?_; (case F => k_asm); (case d => assumption); (case lo => assumption); (case v => assumption)); (try dsimp only [Option.getD])))

theorem put_spec {w : World} (d : Addr) (tab : Tab) : ∀ (t : T) (s : Shared) (x : Value), TIn s.heap t x → TabIn PySem.Challenge.rw_ok0006_01.row.prog w s.heap d tab →
    Does w (hd.heap_39 w.params) PySem.Challenge.rw_ok0006_01.row.prog 94 [x, .ref d] t.ht [] s (fun r h' => TIn h' (t.subst tab) r) := by
  unfold Does
  k_fill
  have hrl : recursionLimit = 1000 := rfl
  intro t
  induction t with
  | v i =>
    intro s x ht htab p loose mean mg mb dp un gd env outer L h₀ base m A₀ E Cx N hd' hu
    obtain ⟨a, t1, t2, rfl, ht⟩ := ht
    walk_at "MY enterC"; intro g' L' h' tk' cells' KG' F' N' Y' l1 B' X' T'; k_lt l1; k_cells Y'; (try simp only [List.cons_append, List.nil_append] at N'); (try dsimp only); (try k_fold)
    obtain ⟨kvs, hD, LO, HK⟩ := htab.keep (Keeps.all KG')
    have hT := ht.keeps (Keeps.all KG')
    replace ht := hT.is
    rcases HK.find i with ⟨hv, hl⟩ | ⟨y, t, hv, hl, hy⟩
    · walk_at "MY steps"
      (rename Fr _ _ _ _ => F8)
      exact Back.intro F8 (by rw [subst_v_none hl]; exact ⟨a, t1, t2, rfl, hT.keeps F8.keep⟩)
    · walk_at "MY steps"
      (rename Fr _ _ _ _ => F8)
      exact Back.intro F8 (by rw [subst_v_some hl]; exact TIn.keep F8.keep hy)
  | c k i =>
    intro s x ht htab p loose mean mg mb dp un gd env outer L h₀ base m A₀ E Cx N hd' hu
    have hx := ht
    obtain ⟨a, t1, t2, rfl, rfl | rfl, ht⟩ := ht
    all_goals (
      walk_at "MY enterC"; intro g' L' h' tk' cells' KG' F' N' Y' l1 B' X' T'; k_lt l1; k_cells Y'; (try simp only [List.cons_append, List.nil_append] at N'); (try dsimp only); (try k_fold)
      replace ht := (Tup.keeps ht (Keeps.all KG')).is
      walk_at "MY steps"
      (rename Fr _ _ _ _ => F8)
      exact Back.intro F8 (TIn.keep F8.keep (TIn.keep (Keeps.all KG') hx)))
  | s1 t ih =>
    intro s x ht htab p loose mean mg mb dp un gd env outer L h₀ base m A₀ E Cx N hd' hu
    obtain ⟨a, b, y, tk, tk', rfl, ht, ht1, ht2⟩ := ht
    simp only [T.ht] at hd' hu
    walk_at "MY enterC"; intro g' L' h' tk' cells' KG' F' N' Y' l1 B' X' T'; k_lt l1; k_cells Y'; (try simp only [List.cons_append, List.nil_append] at N'); (try dsimp only); (try k_fold)
    replace ht := (Tup.keeps ht (Keeps.all KG')).is
    replace ht1 := (Tup.keeps ht1 (Keeps.all KG')).is
    replace ht2 := TIn.keep (Keeps.all KG') ht2
    replace htab := htab.keep (Keeps.all KG')
    walk_at "MY steps"
    refine AtComp.turns (by with_unfolding_all rfl) (by decide) (by rfl) (by decide) ?_
    walk_at "MY steps"
    (rename Fr _ _ _ _ => F9); (rename News _ _ _ _ => N9)
    refine comp_tuple (items := [y]) ht1 F9 N9 ?_
    intro I oI h3 F3 N3 lI hcI hdI hself; k_lt lI
    refine comp_start F3 N3 hself ?_
    intro D C h4 tk4 oC W F4 N4 hC0 lD lC turn; k_lt lD; k_lt2 lC
    refine turn _ _ ?_
    refine comp_next F4 N4 (next_tup hcI hdI ht1 rfl) hC0 (by k_ne) (by k_ne) (by k_ne) (by k_all) (by k_all) rfl (by rfl) ?_
    rintro v o5 h5 tk5 oC5 m5 ⟨rfl, hcI5, hdI5⟩ F5 N5 hC5 hx5
    walk_at "MY steps"
    (rename Fr _ _ _ _ => F9); (rename News _ _ _ _ => N9)
    refine AtCall.does (ih _ _ (TIn.keep F9.keep ht2) (htab.keep F9.keep)) (by k_asm) F9 (by k_asm) (by k_asm) rfl rfl News.nil (by show dp + 1 + _ < 900; exact room_d hd' (by first | exact Nat.le_refl _ | exact Nat.le_add_left _ _ | omega)) (by show un + 3 + 8 * _ < 9000; exact room_u hu (by first | exact Nat.le_refl _ | exact Nat.le_add_left _ _ | omega)) ?_
    intro r1 h2 tk2 K2 P2
    replace F9 := fr_keep F9 K2; replace N9 := news_keep N9 K2
    obtain ⟨tl1, NT, at1, hp1⟩ := TIn.persist F9 P2
    have nI1 := AllTup.ne (k := I) at1 NT N9 (by k_mem) (by rw [hcI5]; simp); have nD1 := AllTup.ne (k := D) at1 NT N9 (by k_mem) (by simp [PySem.W.listOf]); have nC1 := AllTup.ne_ns (k := C) at1 NT N9 (by k_mem) hC5
    replace N9 := nApp N9 NT; simp only [List.cons_append, List.nil_append] at N9
    dsimp only
    refine comp_el F9 N9 (by k_upd) (by simp) ?_
    intro h6 F6 N6
    refine turn _ _ ?_
    refine comp_end F6 N6 (end_tup rfl hcI5 hdI5 ht1 rfl) hC5 (by k_ne) (by k_ne) (by k_ne) (by k_all) (by k_all) ?_
    intro h7 tk7 F7 N7
    walk_at "MY steps"
    (rename Fr _ _ _ _ => F8); (rename News _ _ _ _ => N8)
    exact Back.intro F8 ⟨_, _, r1, _, _, rfl, tup_of N8 (by k_mem), tup_of N8 (by k_mem), hp1 _ F8.keep fun p hp => N8 p (by (repeat' first | exact hp | refine List.Mem.tail _ ?_))⟩
  | s2 t u ih ih' =>
    intro s x ht htab p loose mean mg mb dp un gd env outer L h₀ base m A₀ E Cx N hd' hu
    obtain ⟨a, b, y, z, tk, tk', rfl, ht, ht1, ht2, ht3⟩ := ht
    simp only [T.ht] at hd' hu
    walk_at "MY enterC"; intro g' L' h' tk' cells' KG' F' N' Y' l1 B' X' T'; k_lt l1; k_cells Y'; (try simp only [List.cons_append, List.nil_append] at N'); (try dsimp only); (try k_fold)
    replace ht := (Tup.keeps ht (Keeps.all KG')).is
    replace ht1 := (Tup.keeps ht1 (Keeps.all KG')).is
    replace ht2 := TIn.keep (Keeps.all KG') ht2
    replace ht3 := TIn.keep (Keeps.all KG') ht3
    replace htab := htab.keep (Keeps.all KG')
    walk_at "MY steps"
    refine AtComp.turns (by with_unfolding_all rfl) (by decide) (by rfl) (by decide) ?_
    walk_at "MY steps"
    (rename Fr _ _ _ _ => F9); (rename News _ _ _ _ => N9)
    refine comp_tuple (items := [y, z]) ht1 F9 N9 ?_
    intro I oI h3 F3 N3 lI hcI hdI hself; k_lt lI
    refine comp_start F3 N3 hself ?_
    intro D C h4 tk4 oC W F4 N4 hC0 lD lC turn; k_lt lD; k_lt2 lC
    refine turn _ _ ?_
    refine comp_next F4 N4 (next_tup hcI hdI ht1 rfl) hC0 (by k_ne) (by k_ne) (by k_ne) (by k_all) (by k_all) rfl (by rfl) ?_
    rintro v o5 h5 tk5 oC5 m5 ⟨rfl, hcI5, hdI5⟩ F5 N5 hC5 hx5
    walk_at "MY steps"
    (rename Fr _ _ _ _ => F9); (rename News _ _ _ _ => N9)
    refine AtCall.does (ih _ _ (TIn.keep F9.keep ht2) (htab.keep F9.keep)) (by k_asm) F9 (by k_asm) (by k_asm) rfl rfl News.nil (by show dp + 1 + _ < 900; exact room_d hd' (by first | exact Nat.le_refl _ | exact Nat.le_add_left _ _ | omega)) (by show un + 3 + 8 * _ < 9000; exact room_u hu (by first | exact Nat.le_refl _ | exact Nat.le_add_left _ _ | omega)) ?_
    intro r1 h2 tk2 K2 P2
    replace F9 := fr_keep F9 K2; replace N9 := news_keep N9 K2
    obtain ⟨tl1, NT, at1, hp1⟩ := TIn.persist F9 P2
    have nI1 := AllTup.ne (k := I) at1 NT N9 (by k_mem) (by rw [hcI5]; simp); have nD1 := AllTup.ne (k := D) at1 NT N9 (by k_mem) (by simp [PySem.W.listOf]); have nC1 := AllTup.ne_ns (k := C) at1 NT N9 (by k_mem) hC5
    replace N9 := nApp N9 NT; simp only [List.cons_append, List.nil_append] at N9
    dsimp only
    refine comp_el F9 N9 (by k_upd) (by simp) ?_
    intro h6 F6 N6
    refine turn _ _ ?_
    refine comp_next F6 N6 (next_tup hcI5 hdI5 ht1 rfl) hC5 (by k_ne) (by k_ne) (by k_ne) (by k_all) (by k_all) rfl (by rfl) ?_
    rintro v' o6 h7 tk6 oC6 m6 ⟨rfl, hcI6, hdI6⟩ F7 N7 hC6 hx6
    walk_at "MY steps"
    (rename Fr _ _ _ _ => F9); (rename News _ _ _ _ => N9)
    refine AtCall.does (ih' _ _ (TIn.keep F9.keep ht3) (htab.keep F9.keep)) (by k_asm) F9 (by k_asm) (by k_asm) rfl rfl News.nil (by show dp + 1 + _ < 900; exact room_d hd' (by first | exact Nat.le_refl _ | exact Nat.le_add_left _ _ | omega)) (by show un + 3 + 8 * _ < 9000; exact room_u hu (by first | exact Nat.le_refl _ | exact Nat.le_add_left _ _ | omega)) ?_
    intro r2 h2 tk2 K2 P2
    replace F9 := fr_keep F9 K2; replace N9 := news_keep N9 K2
    obtain ⟨tl2, NT, at2, hp2⟩ := TIn.persist F9 P2
    have nI2 := AllTup.ne (k := I) at2 NT N9 (by k_mem) (by rw [hcI6]; simp); have nD2 := AllTup.ne (k := D) at2 NT N9 (by k_mem) (by simp [PySem.W.listOf]); have nC2 := AllTup.ne_ns (k := C) at2 NT N9 (by k_mem) hC6
    replace N9 := nApp N9 NT; simp only [List.cons_append, List.nil_append] at N9
    dsimp only
    refine comp_el F9 N9 (by k_upd) (by simp) ?_
    intro h6 F6 N6
    refine turn _ _ ?_
    refine comp_end F6 N6 (end_tup rfl hcI6 hdI6 ht1 rfl) hC6 (by k_ne) (by k_ne) (by k_ne) (by k_all) (by k_all) ?_
    intro h7 tk7 F7 N7
    walk_at "MY steps"
    (rename Fr _ _ _ _ => F8); (rename News _ _ _ _ => N8)
    exact Back.intro F8 ⟨_, _, r1, r2, _, _, rfl, tup_of N8 (by k_mem), tup_of N8 (by k_mem), hp1 _ F8.keep fun p hp => N8 p (by (repeat' first | exact List.mem_append.mpr (.inl hp) | refine List.Mem.tail _ ?_)), hp2 _ F8.keep fun p hp => N8 p (by (repeat' first | exact List.mem_append.mpr (.inr hp) | refine List.Mem.tail _ ?_))⟩
end
section
section
variable {prog : Program} {w : World} {s : Shared} {K : Frag} {L : Addr} {h₀ base : Heap} {m mg mb : Str → Option Value} {p : Program} {loose : List Str} {mean : ExcName → Option Value} {A₀ : Around}
  {dp un : Nat} {gd : Option (List Code)} {env : Env} {outer : List Env}
/-- a nested def's object is called -/
theorem enterX {E : Value → Shared → Prop} {P : Value → Heap → Prop} {name qual : Str} {params : Arguments} {body : List Stmt} {scope : Scope} {cl : List (Str × Addr)} {dV kV doc pm cdv ct : Value} {an : Option Addr} {f : Addr} {fo : Obj} {vs : List Value} {binds : List (Str × Value)}
    (C : Cx K p loose mean mg mb A₀ base h₀ env outer L m s.heap)
    (ho : s.heap.get? f = some fo) (hd : fo.data = .func (fnX name qual params body scope cl dV kV doc pm an cdv ct)) (hcd : s.heap.CodeRec cdv qual) (hroom : dp < recursionLimit)
    (hbind : BindsTo s (fnX name qual params body scope cl dV kV doc pm an cdv ct) ⟨vs, []⟩ binds) (hloc : ∀ y ∈ binds, scope.names.lookup y.1 = some .local)
    (h : ∀ g L' h₁, Keeps [] s.heap g → Fr g L' h₁ (fun y => binds.reverse.lookup y) → Below (Arr dp un gd env outer) base (env :: outer) g → K.In g → Top p loose mean mg mb g →
      wpAny (model prog w) ((Arr dp un gd env outer).deeper (envX qual scope L' f cdv cl)) (execs body (envX qual scope L' f cdv cl))
        (fun fl s' => Back g s P (match fl with | .ret v => v | _ => .none) s')
        (fun _ _ => False)
        { s with heap := h₁, toks := s.toks + binds.length })
    (hco : scope.isCoroutine = false) (hgen : scope.isGenerator = false) (hk : scope.kind = .function)
    (hcell : ∀ x ∈ scope.names, x.2 ≠ .cell) :
    wpAny (model prog w) (Arr dp un gd env outer) (call (.ref f) vs) (Gives [] s P) E s := by
  have hA : (Arr dp un gd env outer).frames = some (env :: outer) := rfl
  obtain ⟨FG, BG, st, lv⟩ := groundX (R := fun r s' => match r with | .ok (.ret v) => Gives [] s P v s' | .ok _ => False | .error e => E e s') C.B C.F (News.nil (h₀ := h₀) (L := L) (h := s.heap)) hA C.hf C.hk
  have hlim := C.T.nolimit
  refine wpAny_call (codeAny_call_def (fd := fnX name qual params body scope cl dV kV doc pm an cdv ct) (body := body) (binds := binds) hroom ho hd (hlim.keeps C.F.keep) hcd rfl hbind hcell hloc (fun h₁ hns hk₁ => ?_) hco hgen hk)
  refine wpAny_mono (h (hideAll s.heap ([] : List Addr)) s.heap.objs.size h₁ (fun b o hb e => hideAll_get _ e hb) ⟨hns, fun b o e => hk₁ b o (of_hideAll _ e), Nat.le_of_eq (hideAll_size _ _)⟩
    BG (C.X.keeps fun b o e => st b o e) (C.T.keeps fun b o e => st b o e)) (fun fl s' hl => ?_) (fun _ _ y => y.elim)
  obtain ⟨h', tk', rfl, ⟨L', m', F'⟩, hp⟩ := hl
  exact ⟨h', tk', rfl, fun b o hb e => F'.keep b o (hideAll_get _ e hb), hp⟩
end

theorem FnAt.keep {h h' : Heap} {q : Addr} (k : Keep h h') (x : FnAt q h) : FnAt q h' := let ⟨a, b, c, d, e⟩ := x; ⟨a, b, c, d, k _ _ e⟩
section
variable {prog : Program} {w : World} {A : Around} {E : Value → Shared → Prop} {s : Shared} {h₀ h : Heap} {L D : Addr} {m : Str → Option Value} {news : List (Addr × Obj)} {n : Nat}
/-- the last of a ledger list -/
theorem item_last {rest : List Value} {v : Value} {t : Tok} {value slice : PySem.Expr} {Q : Value → Shared → Prop} (N : News h₀ L s.heap news) (hm : (D, PySem.W.listOf (rest ++ [v]).toArray n) ∈ news) (hr : rest.length ≤ 5000)
    (h : Q v s) (hs : subscripted slice false (.ref D) (.int (-1) t) = operate [.ref D, .int (-1) t] (getItem (.ref D) (.int (-1) t)) := by with_unfolding_all rfl) :
    wpAny (model prog w) A (subscriptTail value slice (.ref D) (.int (-1) t)) Q E s := by
  have hl : s.heap.IsList D (rest ++ [v]).toArray := ⟨_, (N _ hm).1, rfl, n, rfl⟩
  refine tail_any hl.typeIs slot_list_getitem.lookup (wpAny_getItem_list_neg hl (by decide) (by simp; omega) (by decide) ?_ h) hs
  have e : ((-1 : Int) + ((rest ++ [v]).toArray.size : Nat)).toNat = rest.length := by simp; omega
  rw [e]; simp
theorem len_base {g : Heap} {b : Addr} {items : List Value} {k : Int} {Q : Value → Shared → Prop} (F : Fr g L s.heap m) (ht : IsTup g b items.toArray) (hk : (items.length : Int) = k) (hb : items.length ≤ 5000)
    (h : Q (.int k (s.toks + 1)) { s with toks := s.toks + 1 + 1 }) : wpAny (model prog w) A (call (.builtin "len") [.ref b]) Q E s := by
  subst hk
  refine PyProof.Rows.len_tuple (ht.keeps F.keep) (by simp; omega) ?_
  simpa using h
theorem fr_shape4 {x y z u : Str} {a b c d : Value} (F : Fr h₀ L h m) (hx : m x = some a) (hy : m y = some b) (hz : m z = some c) (hu : m u = some d) : Fr h₀ L h (fun q => if q = x then some a else if q = y then some b else if q = z then some c else if q = u then some d else m q) := by
  have e : (fun q => if q = x then some a else if q = y then some b else if q = z then some c else if q = u then some d else m q) = m := by
    funext q
    by_cases h1 : q = x
    · subst h1; simp [hx]
    · by_cases h2 : q = y
      · subst h2; simp [h1, hy]
      · by_cases h3 : q = z
        · subst h3; simp [h1, h2, hz]
        · by_cases h4 : q = u
          · subst h4; simp [h1, h2, h3, hu]
          · simp [h1, h2, h3, h4]
  rw [e]; exact F
end
end
section
local macro_rules | `(tactic| walk_at "MY one") => `(tactic| (first | (k_unfold; (try dsimp only)) | with_reducible refine at_while ?_ | (with_reducible refine at_for ?_) | (with_reducible refine at_comp ?_) | walk1 | (dsimp only; walk1) | (dsimp only; k_unfold; dsimp only) | skip))
local macro_rules | `(tactic| walk_at "callWith ref") => `(tactic| (k_dflt (refine' callWith_F ?k1 ?_; (case k1 => exact FnAt.keep (Fr.keep (by k_asm)) (by assumption)); k_whole)))
local macro_rules | `(tactic| walk_at "FnAt") => `(tactic| (k_dflt (exact FnAt.keep (Fr.keep (by k_asm)) (by assumption))))
local macro_rules | `(tactic| walk_at "truthy ref") => `(tactic| (k_dflt (refine todo_true (by k_asm) (by k_mem) (by (try simp only [List.length_append, List.length_cons, List.length_nil]); omega) ?_)))
local macro_rules | `(tactic| walk_at "call builtin:list.pop") => `(tactic| (k_dflt (refine' todo_pop ?F ?N ?U ?r ?_; (case F => k_asm); (case N => k_asm); (case U => k_upd); (case r => (try simp only [List.length_append, List.length_cons, List.length_nil]); omega)); intro h' F' N'))
local macro_rules | `(tactic| walk_at "call builtin:list.append") => `(tactic| (k_dflt (refine' list_app ?F ?N ?U ?r ?_; (case F => k_asm); (case N => k_asm); (case U => k_upd); (case r => (try simp only [List.length_append, List.length_cons, List.length_nil]); omega)); intro h' F' N'))
local macro_rules | `(tactic| walk_at "subscriptTail Name UnaryOp ref int") => `(tactic| ((with_reducible show wpAny _ _ (subscriptTail _ _ (Value.ref _) (Value.int (-1) _)) _ _ _); k_dflt (refine' item_last ?N ?m ?r ?_; (case N => k_asm); (case m => k_mem); (case r => (try simp only [List.length_append, List.length_cons, List.length_nil]); omega))))
local macro_rules | `(tactic| walk_at "call builtin:len") => `(tactic| ((with_reducible show wpAny _ _ (call (Value.builtin "len") [Value.ref _]) _ _ _); k_dflt (refine' len_base ?F ?t ?k ?b ?_; (case F => k_asm); (case t => assumption); (case k => first | exact (rfl : ((_ : Nat) : Int) = 1) | exact (rfl : ((_ : Nat) : Int) = 2)); (case b => (simp only [List.length_cons, List.length_nil]; omega)))))
section
local macro_rules | `(tactic| walk_at "subscriptTail Name Call") => `(tactic| ((with_reducible show wpAny _ _ (subscriptTail _ _ (Value.ref _) (Value.int _ _)) _ _ _); refine item_tupleL (by first | with_reducible assumption | exact Fr.tup (by with_reducible assumption) (by with_reducible assumption)) (by first | decide | omega) (by first | decide | omega) (by first | rfl | decide) (by first | rfl | simp) ?_))
local macro_rules | `(tactic| walk_at "subscriptTail Subscript") => `(tactic| ((with_reducible show wpAny _ _ (subscriptTail _ _ (Value.ref _) (Value.int _ _)) _ _ _); refine item_tupleL (News.isTup (by k_asm) (by k_mem)) (by first | decide | omega) (by first | decide | omega) (by first | rfl | decide) (by first | rfl | simp) ?_))


theorem push_perm {g h : Heap} {L : Addr} {o1 o2 o3 o4 o5 : Addr × Obj} {TL : List (Addr × Obj)} (N : News g L h (o1 :: o2 :: o3 :: o4 :: o5 :: TL)) : News g L h (o3 :: o1 :: o2 :: o4 :: o5 :: TL) := fun p hp => by
  simp only [List.mem_cons] at hp
  rcases hp with rfl | rfl | rfl | rfl | rfl | hp <;> exact N _ (by simp [*])
theorem pop_perm {g h : Heap} {L : Addr} {o1 o2 o3 o4 o5 o6 o7 : Addr × Obj} {TL tl : List (Addr × Obj)} (N : News g L h (o1 :: o2 :: o3 :: o4 :: o5 :: o6 :: o7 :: (TL ++ tl))) : News g L h (o3 :: o6 :: o7 :: (TL ++ (o1 :: o2 :: tl))) := fun p hp => by
  simp only [List.mem_cons, List.mem_append] at hp
  rcases hp with rfl | rfl | rfl | hp | rfl | rfl | hp <;> exact N _ (by simp [*])
theorem news_sub {g h : Heap} {L : Addr} {l l' : List (Addr × Obj)} (N : News g L h l) (k : ∀ p ∈ l', p ∈ l) : News g L h l' := fun p hp => N p (k p hp)
/-- a node's kids -/
def Kids (h : Heap) (t : T) (q : Int) (args : List Value) : Prop :=
  (∃ k y, t = .s1 k ∧ q = 34 ∧ args = [y] ∧ TIn h k y) ∨ (∃ k k' y z, t = .s2 k k' ∧ q = 35 ∧ args = [y, z] ∧ TIn h k y ∧ TIn h k' z)

theorem rebuild_s {w : World} (f : Addr) (tab : Tab) : ∀ (t : T) (s : Shared) (a b : Addr) (q : Int) (t1 t2 : Tok) (args : List Value), Tup s.heap a [.str (Str.ofString "s") t1, .int q t2, .ref b] → Tup s.heap b args → Kids s.heap t q args → t.ht ≤ 50 → FnAt f s.heap →
    (∀ (s' : Shared), Keep s.heap s'.heap → ∀ i tk, Does w (hd.heap_39 w.params) PySem.Challenge.rw_ok0006_01.row.prog f [.int i tk] 1 [] s' (fun r h' => TIn h' ((T.v i).subst tab) r)) →
    Does w (hd.heap_39 w.params) PySem.Challenge.rw_ok0006_01.row.prog 56 [.ref a, .ref f, .bool false] 2 [] s (fun r h' => TIn h' (t.subst tab) r) := by
  unfold Does
  k_fill
  have hrl : recursionLimit = 1000 := rfl
  intro t s a b q t1 t2 args ht ht1 hk hht hf hC p loose mean mg mb dp un gd env outer L h₀ base m A₀ E Cx N hd' hu
  walk_at "MY enter"; intro g' L' h' KG' F' N' B' X' T'; (try dsimp only); (try k_fold)
  have hf' : FnAt f g' := FnAt.keep (Keeps.all KG') hf
  replace ht := (Tup.keeps ht (Keeps.all KG')).is
  replace ht1 := (Tup.keeps ht1 (Keeps.all KG')).is
  have hC' := fun (s' : Shared) (k : Keep g' s'.heap) => hC s' (fun b o e => k b o (KG'.all b o e))
  walk_at "MY steps"
  refine AtWhile.turns PassesOwn.never ?_
  intro W turn
  (rename Fr _ _ _ _ => F9); (rename News _ _ _ _ => N9)
  obtain ⟨X, hX, hXv, hXc, hXs⟩ : ∃ X : Value → Shared → Prop,
      (∀ (FR : Addr) (rest : List Value) (fp dn a b : Addr) (q : Int) (t1 t2 : Tok) (args : List Value) (y : Value) (done : List Value) (TL : List (Addr × Obj)) (n1 n2 n3 : Nat) (h : Heap) (tk : Nat) (uu : Str → Option Value),
        IsTup g' a (List.toArray [.str (Str.ofString "s") t1, .int q t2, .ref b]) → IsTup g' b args.toArray → (args = [y] ∧ done = [] ∨ (∃ z, args = [y, z] ∧ done = []) ∨ (∃ z r, args = [z, y] ∧ done = [r])) → rest.length ≤ 100 →
        Fr g' L' h (fun y => if y = Str.ofString "frames" then some (.ref FR) else if y = Str.ofString "change" then some (.ref f) else if y = Str.ofString "again" then some (.bool false) else uu y) → News g' L' h ((FR, PySem.W.listOf (rest ++ [Value.ref fp]).toArray n1) :: (fp, { cls := .type "tuple", data := .seq (List.toArray [.ref a, .ref dn]) n3 }) :: (dn, PySem.W.listOf done.toArray n2) :: TL) →
        (∀ (sz : Shared) (h : Heap) (tk : Nat) (uu : Str → Option Value), { s with heap := h, toks := tk } = sz → Fr g' L' h (fun z => if z = Str.ofString "part" then some y else if z = Str.ofString "done" then some (.ref dn) else if z = Str.ofString "frames" then some (.ref FR) else if z = Str.ofString "change" then some (.ref f) else if z = Str.ofString "again" then some (.bool false) else uu z) → News g' L' h ((FR, PySem.W.listOf (rest ++ [Value.ref fp]).toArray n1) :: (fp, { cls := .type "tuple", data := .seq (List.toArray [.ref a, .ref dn]) n3 }) :: (dn, PySem.W.listOf done.toArray n2) :: TL) → X y sz) → W { s with heap := h, toks := tk }) ∧
      (∀ (FR : Addr) (rest : List Value) (fp dn a c : Addr) (i : Int) (t3 t4 : Tok) (done : List Value) (TL : List (Addr × Obj)) (n1 n2 n3 : Nat) (sz : Shared) (h : Heap) (tk : Nat) (uu : Str → Option Value), { s with heap := h, toks := tk } = sz →
        IsTup g' c (List.toArray [.str (Str.ofString "v") t3, .int i t4]) → done.length ≤ 5 → @LT.lt Nat _ dn fp → @Ne Nat fp FR → @Ne Nat dn FR → (∀ p ∈ TL, p.1 ≠ FR) → (∀ p ∈ TL, p.1 ≠ dn) →
        Fr g' L' h (fun z => if z = Str.ofString "part" then some (.ref c) else if z = Str.ofString "done" then some (.ref dn) else if z = Str.ofString "frames" then some (.ref FR) else if z = Str.ofString "change" then some (.ref f) else if z = Str.ofString "again" then some (.bool false) else uu z) → News g' L' h ((FR, PySem.W.listOf (rest ++ [Value.ref fp]).toArray n1) :: (fp, { cls := .type "tuple", data := .seq (List.toArray [.ref a, .ref dn]) n3 }) :: (dn, PySem.W.listOf done.toArray n2) :: TL) →
        (∀ (r : Value) (tl : List (Addr × Obj)) (n1 n2 : Nat) (h : Heap) (tk : Nat) (uu : Str → Option Value), AllTup tl → (∀ h'', Keep g' h'' → News g' L' h'' tl → TIn h'' ((T.v i).subst tab) r) →
          Fr g' L' h (fun y => if y = Str.ofString "frames" then some (.ref FR) else if y = Str.ofString "change" then some (.ref f) else if y = Str.ofString "again" then some (.bool false) else uu y) → News g' L' h ((FR, PySem.W.listOf (rest ++ [Value.ref fp]).toArray n1) :: (fp, { cls := .type "tuple", data := .seq (List.toArray [.ref a, .ref dn]) n3 }) :: (dn, PySem.W.listOf (done ++ [r]).toArray n2) :: (TL ++ tl)) → W { s with heap := h, toks := tk }) → X (.ref c) sz) ∧
      (∀ (FR : Addr) (rest : List Value) (fp dn a c : Addr) (nm : Str) (x : Value) (t3 : Tok) (done : List Value) (TL : List (Addr × Obj)) (n1 n2 n3 : Nat) (sz : Shared) (h : Heap) (tk : Nat) (uu : Str → Option Value), { s with heap := h, toks := tk } = sz →
        IsTup g' c (List.toArray [.str nm t3, x]) → nm = Str.ofString "a" ∨ nm = Str.ofString "i" → done.length ≤ 5 → @LT.lt Nat _ dn fp → @Ne Nat fp FR → @Ne Nat dn FR → (∀ p ∈ TL, p.1 ≠ FR) → (∀ p ∈ TL, p.1 ≠ dn) →
        Fr g' L' h (fun z => if z = Str.ofString "part" then some (.ref c) else if z = Str.ofString "done" then some (.ref dn) else if z = Str.ofString "frames" then some (.ref FR) else if z = Str.ofString "change" then some (.ref f) else if z = Str.ofString "again" then some (.bool false) else uu z) → News g' L' h ((FR, PySem.W.listOf (rest ++ [Value.ref fp]).toArray n1) :: (fp, { cls := .type "tuple", data := .seq (List.toArray [.ref a, .ref dn]) n3 }) :: (dn, PySem.W.listOf done.toArray n2) :: TL) →
        (∀ (n1 n2 : Nat) (h : Heap) (tk : Nat) (uu : Str → Option Value),
          Fr g' L' h (fun y => if y = Str.ofString "frames" then some (.ref FR) else if y = Str.ofString "change" then some (.ref f) else if y = Str.ofString "again" then some (.bool false) else uu y) → News g' L' h ((FR, PySem.W.listOf (rest ++ [Value.ref fp]).toArray n1) :: (fp, { cls := .type "tuple", data := .seq (List.toArray [.ref a, .ref dn]) n3 }) :: (dn, PySem.W.listOf (done ++ [Value.ref c]).toArray n2) :: TL) → W { s with heap := h, toks := tk }) → X (.ref c) sz) ∧
      (∀ (FR : Addr) (rest : List Value) (fp dn a c d : Addr) (q : Int) (t3 t4 : Tok) (done : List Value) (TL : List (Addr × Obj)) (n1 n2 n3 : Nat) (sz : Shared) (h : Heap) (tk : Nat) (uu : Str → Option Value), { s with heap := h, toks := tk } = sz →
        IsTup g' c (List.toArray [.str (Str.ofString "s") t3, .int q t4, .ref d]) → done.length ≤ 5 → rest.length ≤ 100 → @LT.lt Nat _ dn fp → @Ne Nat fp FR → @Ne Nat dn FR → (∀ p ∈ TL, p.1 ≠ FR) → (∀ p ∈ TL, p.1 ≠ dn) →
        Fr g' L' h (fun z => if z = Str.ofString "part" then some (.ref c) else if z = Str.ofString "done" then some (.ref dn) else if z = Str.ofString "frames" then some (.ref FR) else if z = Str.ofString "change" then some (.ref f) else if z = Str.ofString "again" then some (.bool false) else uu z) → News g' L' h ((FR, PySem.W.listOf (rest ++ [Value.ref fp]).toArray n1) :: (fp, { cls := .type "tuple", data := .seq (List.toArray [.ref a, .ref dn]) n3 }) :: (dn, PySem.W.listOf done.toArray n2) :: TL) →
        (∀ (fp2 dn2 : Addr) (n1 n4 n5 : Nat) (h : Heap) (tk : Nat) (uu : Str → Option Value), @LT.lt Nat _ dn2 fp2 → @LT.lt Nat _ FR dn2 → @LT.lt Nat _ fp dn2 → @LT.lt Nat _ dn dn2 → (∀ p ∈ TL, p.1 < dn2) →
          Fr g' L' h (fun y => if y = Str.ofString "frames" then some (.ref FR) else if y = Str.ofString "change" then some (.ref f) else if y = Str.ofString "again" then some (.bool false) else uu y) →
          News g' L' h ((fp2, { cls := .type "tuple", data := .seq (List.toArray [.ref c, .ref dn2]) n5 }) :: (dn2, PySem.W.listOf (List.toArray []) n4) :: (FR, PySem.W.listOf (rest ++ [Value.ref fp] ++ [Value.ref fp2]).toArray n1) :: (fp, { cls := .type "tuple", data := .seq (List.toArray [.ref a, .ref dn]) n3 }) :: (dn, PySem.W.listOf done.toArray n2) :: TL) → W { s with heap := h, toks := tk }) → X (.ref c) sz) := by
    refine ⟨?X, ?p1, ?p2, ?p3, ?p4⟩
    case p1 =>
      try clear hC' hC
      intro FR rest fp dn a b q t1 t2 args y done TL n1 n2 n3 h tk uu ht ht1 harg hlen F N hK
      rcases harg with ⟨rfl, rfl⟩ | ⟨z, rfl, rfl⟩ | ⟨z, r, rfl, rfl⟩
      all_goals (
        refine turn _ ?_
        walk_at "MY steps"
        (rename Fr _ _ _ _ => F8); (rename News _ _ _ _ => N8)
        generalize hsz : Shared.mk _ _ _ _ _ = sz
        exact hK sz _ _ _ hsz (fr_shape1 (fr_shape1 (fr_shape3 F8 rfl rfl rfl) rfl) rfl) N8)
    case p2 =>
      intro FR rest fp dn a c i t3 t4 done TL n1 n2 n3 sz h tk uu hsz hc hdl hdf hfF hdF nF nd F N hK
      subst hsz
      try dsimp only
      walk_at "MY steps"
      (rename Fr _ _ _ _ => F9); (rename News _ _ _ _ => N9)
      refine AtCall.does (hC' _ F9.keep i t4) (by k_asm) F9 (by k_asm) (by k_asm) rfl rfl News.nil (by show dp + 1 + _ < 900; exact room_d hd' (by first | exact Nat.le_refl _ | exact Nat.le_add_left _ _ | omega)) (by show un + 3 + 8 * _ < 9000; exact room_u hu (by first | exact Nat.le_refl _ | exact Nat.le_add_left _ _ | omega)) ?_
      intro r' h2 tk2 K2 P2
      replace F9 := fr_keep F9 K2; replace N9 := news_keep N9 K2
      obtain ⟨tl, NT, AT, hp⟩ := TIn.persist F9 P2
      have nF1 := AllTup.ne (k := FR) AT NT N9 (by k_mem) (by simp); have nd1 := AllTup.ne (k := dn) AT NT N9 (by k_mem) (by simp)
      replace N9 := nApp N9 NT; simp only [List.cons_append, List.nil_append] at N9
      try dsimp only
      walk_at "MY steps"
      (rename Fr _ _ _ _ => F8); (rename News _ _ _ _ => N8)
      exact hK _ tl _ _ _ _ _ AT hp (fr_shape3 F8 rfl rfl rfl) N8
    case p3 =>
      try clear hC' hC
      intro FR rest fp dn a c nm x t3 done TL n1 n2 n3 sz h tk uu hsz hc hnm hdl hdf hfF hdF nF nd F N hK
      subst hsz
      try dsimp only
      rcases hnm with rfl | rfl
      all_goals (
        walk_at "MY steps"
        (rename Fr _ _ _ _ => F8); (rename News _ _ _ _ => N8)
        exact hK _ _ _ _ _ (fr_shape3 F8 rfl rfl rfl) N8)
    case p4 =>
      try clear hC' hC
      intro FR rest fp dn a c d q t3 t4 done TL n1 n2 n3 sz h tk uu hsz hc hdl hlen hdf hfF hdF nF nd F N hK
      subst hsz
      try dsimp only
      walk_at "MY steps"
      (rename Fr _ _ _ _ => F8); (rename News _ _ _ _ => N8)
      (rename (_ < _ ∧ _ < _ ∧ _ < _ ∧ AllLt _ TL) => l4); (rename (_ < _ ∧ _ < _ ∧ _ < _ ∧ _ < _ ∧ AllLt _ TL) => l5)
      exact hK _ _ _ _ _ _ _ _ (by omega) (by omega) (by omega) (by omega) (ktn_ltOf l4.2.2.2) (fr_shape3 F8 rfl rfl rfl) N8
  have key : ∀ (FR : Addr) (u : T) (rest : List Value) (fp dn a b : Addr) (q : Int) (t1 t2 : Tok) (args : List Value) (y : Value) (done : List Value) (TL : List (Addr × Obj)) (n1 n2 n3 : Nat) (h : Heap) (tk : Nat) (uu : Str → Option Value),
      IsTup g' a (List.toArray [.str (Str.ofString "s") t1, .int q t2, .ref b]) → IsTup g' b args.toArray → (args = [y] ∧ done = [] ∨ (∃ z, args = [y, z] ∧ done = []) ∨ (∃ z r, args = [z, y] ∧ done = [r])) → TIn g' u y → rest.length + u.ht ≤ 100 →
      @LT.lt Nat _ dn fp → @LT.lt Nat _ FR fp ∨ @LT.lt Nat _ fp FR → @Ne Nat fp FR → @Ne Nat dn FR → (∀ p ∈ TL, p.1 ≠ FR) → (∀ p ∈ TL, p.1 ≠ dn) →
      Fr g' L' h (fun y => if y = Str.ofString "frames" then some (.ref FR) else if y = Str.ofString "change" then some (.ref f) else if y = Str.ofString "again" then some (.bool false) else uu y) →
      News g' L' h ((FR, PySem.W.listOf (rest ++ [Value.ref fp]).toArray n1) :: (fp, { cls := .type "tuple", data := .seq (List.toArray [.ref a, .ref dn]) n3 }) :: (dn, PySem.W.listOf done.toArray n2) :: TL) →
      (∀ (r : Value) (tl : List (Addr × Obj)) (n1 n2 : Nat) (h : Heap) (tk : Nat) (uu : Str → Option Value), AllTup tl → (∀ h'', Keep g' h'' → News g' L' h'' tl → TIn h'' (u.subst tab) r) →
        Fr g' L' h (fun y => if y = Str.ofString "frames" then some (.ref FR) else if y = Str.ofString "change" then some (.ref f) else if y = Str.ofString "again" then some (.bool false) else uu y) →
        News g' L' h ((FR, PySem.W.listOf (rest ++ [Value.ref fp]).toArray n1) :: (fp, { cls := .type "tuple", data := .seq (List.toArray [.ref a, .ref dn]) n3 }) :: (dn, PySem.W.listOf (done ++ [r]).toArray n2) :: (TL ++ tl)) →
        W { s with heap := h, toks := tk }) →
      W { s with heap := h, toks := tk } := by
    intro FR u
    have hdl : ∀ {args done : List Value} {y : Value}, (args = [y] ∧ done = [] ∨ (∃ z, args = [y, z] ∧ done = []) ∨ (∃ z r, args = [z, y] ∧ done = [r])) → done.length ≤ 5 := fun h => by rcases h with ⟨_, rfl⟩ | ⟨z, _, rfl⟩ | ⟨z, r, _, rfl⟩ <;> simp
    induction u with
    | v i =>
      intro rest fp dn a b q t1 t2 args y done TL n1 n2 n3 h tk uu ht ht1 harg hy hlen hdf _ hfF hdF nF nd F N hK
      obtain ⟨c, t3, t4, rfl, hy⟩ := hy
      exact hX _ _ _ _ _ _ _ _ _ _ _ _ _ _ _ _ _ _ _ ht ht1 harg (by omega) F N fun sz h tk uu e F N => hXv _ _ _ _ _ _ _ _ _ _ _ _ _ _ sz h tk uu e hy.is (hdl harg) hdf hfF hdF nF nd F N hK
    | c k i =>
      intro rest fp dn a b q t1 t2 args y done TL n1 n2 n3 h tk uu ht ht1 harg hy hlen hdf _ hfF hdF nF nd F N hK
      have hy0 := hy
      obtain ⟨c, t3, t4, rfl, hkk, hy⟩ := hy
      exact hX _ _ _ _ _ _ _ _ _ _ _ _ _ _ _ _ _ _ _ ht ht1 harg (by omega) F N fun sz h tk uu e F N => hXc _ _ _ _ _ _ _ _ _ _ _ _ _ _ sz h tk uu e hy.is hkk (hdl harg) hdf hfF hdF nF nd F N fun n1 n2 h tk uu F N => hK _ [] _ _ _ _ _ AllTup.nil (fun h'' k _ => TIn.keep k hy0) F (by rw [List.append_nil]; exact N)
    | s1 k ih =>
      intro rest fp dn a b q t1 t2 args y done TL n1 n2 n3 h tk uu ht ht1 harg hy hlen hdf _ hfF hdF nF nd F N hK
      obtain ⟨c, d, z1, t3, t4, rfl, hc, hd1, hz⟩ := hy
      replace hc := hc.is; replace hd1 := hd1.is
      simp only [T.ht] at hlen
      have go : ∀ (fp2 dn2 : Addr) (n1 n4 n5 : Nat) (h : Heap) (tk : Nat) (uu : Str → Option Value), @LT.lt Nat _ dn2 fp2 → @LT.lt Nat _ FR dn2 → @LT.lt Nat _ fp dn2 → @LT.lt Nat _ dn dn2 → (∀ p ∈ TL, p.1 < dn2) →
          Fr g' L' h (fun y => if y = Str.ofString "frames" then some (.ref FR) else if y = Str.ofString "change" then some (.ref f) else if y = Str.ofString "again" then some (.bool false) else uu y) →
          News g' L' h ((fp2, { cls := .type "tuple", data := .seq (List.toArray [.ref c, .ref dn2]) n5 }) :: (dn2, PySem.W.listOf (List.toArray []) n4) :: (FR, PySem.W.listOf (rest ++ [Value.ref fp] ++ [Value.ref fp2]).toArray n1) :: (fp, { cls := .type "tuple", data := .seq (List.toArray [.ref a, .ref dn]) n3 }) :: (dn, PySem.W.listOf done.toArray n2) :: TL) → W { s with heap := h, toks := tk } := by
        intro fp2 dn2 n1 n4 n5 h tk uu l1 l2 l3 l4 n4' F8 N8
        have hdl' := hdl harg
        clear hX hXv hXc hXs
        have nd0 : ∀ p ∈ (fp, ({ cls := .type "tuple", data := .seq (List.toArray [.ref a, .ref dn]) n3 } : Obj)) :: (dn, PySem.W.listOf done.toArray n2) :: TL, p.1 ≠ dn2 := List.forall_mem_cons.mpr ⟨by show @Ne Nat _ _; omega, List.forall_mem_cons.mpr ⟨by show @Ne Nat _ _; omega, fun p hp => Nat.ne_of_lt (n4' p hp)⟩⟩
        refine ih (rest ++ [Value.ref fp]) fp2 dn2 c d 34 t3 t4 [z1] z1 [] _ _ _ _ _ _ _ hc hd1 (.inl ⟨rfl, rfl⟩) hz (by simp; omega) (by omega) (.inl (by omega)) (by omega) (by omega) (by k_all) nd0 F8 (push_perm N8) ?_
        clear F8 N8
        intro r' tl n1' n2' h9 tk9 uu9 AT hp F N
        simp only [List.cons_append, List.nil_append] at N
        have NT : News g' L' h9 tl := news_sub N (fun p hp => by simp [hp])
        have nF1 := AllTup.ne (k := FR) AT NT N (by k_mem) (by simp); have nd1 := AllTup.ne (k := dn) AT NT N (by k_mem) (by simp)
        clear NT
        refine turn _ ?_
        walk_at "MY steps"
        (rename Fr _ _ _ _ => F7); (rename News _ _ _ _ => N7)
        refine hK _ _ _ _ _ _ _ ?cat ?chp (fr_shape3 F7 rfl rfl rfl) (pop_perm N7)
        case cat => exact AllTup.cons (AllTup.cons AT)
        case chp => exact fun h'' k N => ⟨_, _, r', _, _, rfl, tup_of N (.head _), tup_of N (.tail _ (.head _)), hp h'' k (news_tl (news_tl N))⟩
      exact hX _ _ _ _ _ _ _ _ _ _ _ _ _ _ _ _ _ _ _ ht ht1 harg (by omega) F N fun sz h tk uu e F N => hXs _ _ _ _ _ _ _ _ _ _ _ _ _ _ _ sz h tk uu e hc (hdl harg) (by omega) hdf hfF hdF nF nd F N go
    | s2 k k' ih ih' =>
      intro rest fp dn a b q t1 t2 args y done TL n1 n2 n3 h tk uu ht ht1 harg hy hlen hdf _ hfF hdF nF nd F N hK
      obtain ⟨c, d, z1, z2, t3, t4, rfl, hc, hd1, hz, hz2⟩ := hy
      replace hc := hc.is; replace hd1 := hd1.is
      simp only [T.ht] at hlen
      have go : ∀ (fp2 dn2 : Addr) (n1 n4 n5 : Nat) (h : Heap) (tk : Nat) (uu : Str → Option Value), @LT.lt Nat _ dn2 fp2 → @LT.lt Nat _ FR dn2 → @LT.lt Nat _ fp dn2 → @LT.lt Nat _ dn dn2 → (∀ p ∈ TL, p.1 < dn2) →
          Fr g' L' h (fun y => if y = Str.ofString "frames" then some (.ref FR) else if y = Str.ofString "change" then some (.ref f) else if y = Str.ofString "again" then some (.bool false) else uu y) →
          News g' L' h ((fp2, { cls := .type "tuple", data := .seq (List.toArray [.ref c, .ref dn2]) n5 }) :: (dn2, PySem.W.listOf (List.toArray []) n4) :: (FR, PySem.W.listOf (rest ++ [Value.ref fp] ++ [Value.ref fp2]).toArray n1) :: (fp, { cls := .type "tuple", data := .seq (List.toArray [.ref a, .ref dn]) n3 }) :: (dn, PySem.W.listOf done.toArray n2) :: TL) → W { s with heap := h, toks := tk } := by
        intro fp2 dn2 n1 n4 n5 h tk uu l1 l2 l3 l4 n4' F8 N8
        have hdl' := hdl harg
        clear hX hXv hXc hXs
        have nd0 : ∀ p ∈ (fp, ({ cls := .type "tuple", data := .seq (List.toArray [.ref a, .ref dn]) n3 } : Obj)) :: (dn, PySem.W.listOf done.toArray n2) :: TL, p.1 ≠ dn2 := List.forall_mem_cons.mpr ⟨by show @Ne Nat _ _; omega, List.forall_mem_cons.mpr ⟨by show @Ne Nat _ _; omega, fun p hp => Nat.ne_of_lt (n4' p hp)⟩⟩
        refine ih (rest ++ [Value.ref fp]) fp2 dn2 c d 35 t3 t4 [z1, z2] z1 [] _ _ _ _ _ _ _ hc hd1 (.inr (.inl ⟨z2, rfl, rfl⟩)) hz (by simp; omega) (by omega) (.inl (by omega)) (by omega) (by omega) (by k_all) nd0 F8 (push_perm N8) ?_
        clear F8 N8
        intro r1 tl1 n1' n2' h8 tk8 uu8 AT1 hp1 F1 N1
        simp only [List.nil_append] at N1
        have NT1 : News g' L' h8 tl1 := news_sub N1 (fun p hp => by simp [hp])
        have nF1 := AllTup.ne (k := FR) AT1 NT1 N1 (by k_mem) (by simp); have nd1 := AllTup.ne (k := dn) AT1 NT1 N1 (.tail _ (.tail _ (.tail _ (List.mem_append.mpr (.inl (.tail _ (.head _))))))) (by simp)
        have nd2 := AllTup.ne (k := dn2) AT1 NT1 N1 (.tail _ (.tail _ (.head _))) (by simp)
        clear NT1
        refine ih' (rest ++ [Value.ref fp]) fp2 dn2 c d 35 t3 t4 [z1, z2] z2 [r1] _ _ _ _ _ _ _ hc hd1 (.inr (.inr ⟨z1, r1, rfl, rfl⟩)) hz2 (by simp; omega) (by omega) (.inl (by omega)) (by omega) (by omega) (by k_all) (List.forall_mem_append.mpr ⟨nd0, nd2⟩) F1 N1 ?_
        clear F1 N1
        intro r' tl n1' n2' h9 tk9 uu9 AT hp F N
        simp only [List.cons_append, List.nil_append] at N
        have NT : News g' L' h9 tl := news_sub N (fun p hp => by simp [hp])
        have nF3 := AllTup.ne (k := FR) AT NT N (by k_mem) (by simp); have nd3 := AllTup.ne (k := dn) AT NT N (by k_mem) (by simp)
        clear NT
        rw [List.append_assoc TL tl1 tl] at N
        refine turn _ ?_
        walk_at "MY steps"
        (rename Fr _ _ _ _ => F7); (rename News _ _ _ _ => N7)
        refine hK _ _ _ _ _ _ _ ?cat ?chp (fr_shape3 F7 rfl rfl rfl) (pop_perm N7)
        case cat => exact AllTup.cons (AllTup.cons (AT1.append AT))
        case chp => exact fun h'' k N => ⟨_, _, r1, r', _, _, rfl, tup_of N (.head _), tup_of N (.tail _ (.head _)), hp1 h'' k (nL (news_tl (news_tl N))), hp h'' k (nR (news_tl (news_tl N)))⟩
      exact hX _ _ _ _ _ _ _ _ _ _ _ _ _ _ _ _ _ _ _ ht ht1 harg (by omega) F N fun sz h tk uu e F N => hXs _ _ _ _ _ _ _ _ _ _ _ _ _ _ _ sz h tk uu e hc (hdl harg) (by omega) hdf hfF hdF nF nd F N go
  clear hX hXv hXc hXs
  rcases hk with ⟨k, y, rfl, rfl, rfl, hy⟩ | ⟨k, k', y, z, rfl, rfl, rfl, hy, hz⟩
  · simp only [T.ht] at hht
    refine key _ k [] _ _ a b _ _ _ [y] y [] [] _ _ _ _ _ _ ht ht1 (.inl ⟨rfl, rfl⟩) (TIn.keep (Keeps.all KG') hy) (by simp; omega) (by omega) (.inr (by omega)) (by k_ne) (by k_ne) (fun _ hp => nomatch hp) (fun _ hp => nomatch hp) (fr_shape3 F9 rfl rfl rfl) N9 ?_
    clear F9 N9
    intro r' tl n1' n2' h9 tk9 uu9 AT hp F N
    simp only [List.nil_append] at N
    have NT : News g' L' h9 tl := news_sub N (fun p hp => by simp [hp])
    have nF1 := AllTup.ne AT NT N (.head _) (by simp)
    clear NT
    refine turn _ ?_
    walk_at "MY steps"
    refine turn _ ?_
    walk_at "MY steps"
    (rename Fr _ _ _ _ => F7); (rename News _ _ _ _ => N7)
    exact Back.intro F7 ⟨_, _, r', _, _, rfl, tup_of N7 (by k_mem), tup_of N7 (by k_mem), hp _ F7.keep (news_sub N7 (fun p hp => by simp [hp]))⟩
  · simp only [T.ht] at hht
    refine key _ k [] _ _ a b _ _ _ [y, z] y [] [] _ _ _ _ _ _ ht ht1 (.inr (.inl ⟨z, rfl, rfl⟩)) (TIn.keep (Keeps.all KG') hy) (by simp; omega) (by omega) (.inr (by omega)) (by k_ne) (by k_ne) (fun _ hp => nomatch hp) (fun _ hp => nomatch hp) (fr_shape3 F9 rfl rfl rfl) N9 ?_
    clear F9 N9
    intro r1 tl1 n1' n2' h8 tk8 uu8 AT1 hp1 F1 N1
    simp only [List.nil_append] at N1
    have NT1 : News g' L' h8 tl1 := news_sub N1 (fun p hp => by simp [hp])
    have nF1 := AllTup.ne AT1 NT1 N1 (.head _) (by simp)
    have nd1 := AllTup.ne AT1 NT1 N1 (.tail _ (.tail _ (.head _))) (by simp)
    clear NT1
    refine key _ k' [] _ _ a b _ _ _ [y, z] z [r1] tl1 _ _ _ _ _ _ ht ht1 (.inr (.inr ⟨y, r1, rfl, rfl⟩)) (TIn.keep (Keeps.all KG') hz) (by simp; omega) (by omega) (.inr (by omega)) (by k_ne) (by k_ne) nF1 nd1 F1 N1 ?_
    clear F1 N1
    intro r' tl n1' n2' h9 tk9 uu9 AT hp F N
    simp only [List.cons_append, List.nil_append] at N
    have NT : News g' L' h9 tl := news_sub N (fun p hp => by simp [hp])
    have nF3 := AllTup.ne AT NT N (.head _) (by simp)
    clear NT
    refine turn _ ?_
    walk_at "MY steps"
    refine turn _ ?_
    walk_at "MY steps"
    (rename Fr _ _ _ _ => F7); (rename News _ _ _ _ => N7)
    exact Back.intro F7 ⟨_, _, r1, r', _, _, rfl, tup_of N7 (by k_mem), tup_of N7 (by k_mem), hp1 _ F7.keep (news_sub N7 (fun p hp => by simp [hp])), hp _ F7.keep (news_sub N7 (fun p hp => by simp [hp]))⟩
end
section
theorem rebuild_spec {w : World} (f : Addr) (tab : Tab) : ∀ (t : T) (s : Shared) (x : Value), TIn s.heap t x → t.ht ≤ 50 → FnAt f s.heap →
    (∀ (s' : Shared), Keep s.heap s'.heap → ∀ i tk, Does w (hd.heap_39 w.params) PySem.Challenge.rw_ok0006_01.row.prog f [.int i tk] 1 [] s' (fun r h' => TIn h' ((T.v i).subst tab) r)) →
    Does w (hd.heap_39 w.params) PySem.Challenge.rw_ok0006_01.row.prog 56 [x, .ref f, .bool false] 2 [] s (fun r h' => TIn h' (t.subst tab) r) := by
  intro t s x ht hht hf hC
  cases t with
  | v i =>
    unfold Does at *
    k_fill
    have hrl : recursionLimit = 1000 := rfl
    intro p loose mean mg mb dp un gd env outer L h₀ base m A₀ E Cx N hd' hu
    obtain ⟨a, t1, t2, rfl, ht⟩ := ht
    walk_at "MY enter"; intro g' L' h' KG' F' N' B' X' T'; (try dsimp only); (try k_fold)
    have hf' : FnAt f g' := FnAt.keep (Keeps.all KG') hf
    replace ht := (Tup.keeps ht (Keeps.all KG')).is
    walk_at "MY steps"
    (rename Fr _ _ _ _ => F9); (rename News _ _ _ _ => N9)
    refine AtCall.does (hC _ (fun b o e => F9.keep _ _ (KG'.all b o e)) i t2) (by k_asm) F9 (by k_asm) (by k_asm) rfl rfl News.nil (by show dp + 1 + _ < 900; exact room_d hd' (by first | exact Nat.le_refl _ | exact Nat.le_add_left _ _ | omega)) (by show un + 3 + 8 * _ < 9000; exact room_u hu (by first | exact Nat.le_refl _ | exact Nat.le_add_left _ _ | omega)) ?_
    intro r' h2 tk2 K2 P2
    replace F9 := fr_keep F9 K2; replace N9 := news_keep N9 K2
    obtain ⟨tl, NT, AT, hp⟩ := TIn.persist F9 P2
    replace N9 := nApp N9 NT; simp only [List.cons_append, List.nil_append] at N9
    clear NT
    dsimp only
    walk_at "MY steps"
    (rename Fr _ _ _ _ => F8); (rename News _ _ _ _ => N8)
    exact Back.intro F8 (hp _ F8.keep N8)
  | c k i =>
    unfold Does at *
    k_fill
    have hrl : recursionLimit = 1000 := rfl
    intro p loose mean mg mb dp un gd env outer L h₀ base m A₀ E Cx N hd' hu
    have hx := ht
    obtain ⟨a, t1, t2, rfl, rfl | rfl, ht⟩ := ht
    all_goals (
      walk_at "MY enter"; intro g' L' h' KG' F' N' B' X' T'; (try dsimp only); (try k_fold)
      replace ht := (Tup.keeps ht (Keeps.all KG')).is
      walk_at "MY steps"
      (rename Fr _ _ _ _ => F8)
      exact Back.intro F8 (TIn.keep F8.keep (TIn.keep (Keeps.all KG') hx)))
  | s1 t =>
    obtain ⟨a, b, y, t1, t2, rfl, h1, h2, h3⟩ := ht
    exact rebuild_s f tab _ s a b 34 t1 t2 [y] h1 h2 (.inl ⟨t, y, rfl, rfl, rfl, h3⟩) hht hf hC
  | s2 t u =>
    obtain ⟨a, b, y, z, t1, t2, rfl, h1, h2, h3, h4⟩ := ht
    exact rebuild_s f tab _ s a b 35 t1 t2 [y, z] h1 h2 (.inr ⟨t, u, y, z, rfl, rfl, rfl, h3, h4⟩) hht hf hC
end
end
section
theorem nameX_B {M : Model} {A : Around} {E : Value → Shared → Prop} {s : Shared} {h₀ : Heap} {L a : Addr} {m : Str → Option Value} {cn : Str} {cs : Scope} {ccd : Value} {cl : List (Str × Addr)} {x : Str} {pos : Pos} {v : Value} {Q : Value → Shared → Prop} {c : Addr} {o : Obj}
    (F : Fr h₀ L s.heap m) (hc : cl.lookup x = some c) (ho : h₀.get? c = some o) (hd : o.data = .cell (some v)) (h : Q v s)
    (hk : cs.kind = .function := by rfl) (hx : (envX cn cs L a ccd cl).kindOf x = some .free := by rfl) (hb : (x == ("__debug__" : Str)) = false := by decide) (hn : (x == ("__classdict__" : Str)) = false := by decide) :
    wpAny M A (eval (.Name x pos) (envX cn cs L a ccd cl)) Q E s := wpAny_Name (wpAny_loadName_free hk hx hc ⟨_, F.keep _ _ ho, hd⟩ h hn) hb
theorem Tup.keepK {h h' : Heap} {k a : Addr} {o : Obj} {l : List Value} (K : Keeps [k] h h') (hk : h.get? k = some o) (hc : o.cls ≠ .type "tuple") (x : Tup h a l) : Tup h' a l := by
  obtain ⟨n, e⟩ := x
  refine ⟨n, K _ _ (fun q => ?_) e⟩
  rw [List.mem_singleton.mp q, hk] at e
  cases e; exact hc rfl
theorem TIn.keepK {h h' : Heap} {k : Addr} {o : Obj} (K : Keeps [k] h h') (hk : h.get? k = some o) (hc : o.cls ≠ .type "tuple") : ∀ {t : T} {x : Value}, TIn h t x → TIn h' t x
  | .v _, _, ⟨a, tk, tk', e, p⟩ => ⟨a, tk, tk', e, p.keepK K hk hc⟩
  | .c _ _, _, ⟨a, tk, tk', e, q, p⟩ => ⟨a, tk, tk', e, q, p.keepK K hk hc⟩
  | .s1 _, _, ⟨a, b, y, tk, tk', e, p, q, r⟩ => ⟨a, b, y, tk, tk', e, p.keepK K hk hc, q.keepK K hk hc, TIn.keepK K hk hc r⟩
  | .s2 _ _, _, ⟨a, b, y, z, tk, tk', e, p, q, r, r'⟩ => ⟨a, b, y, z, tk, tk', e, p.keepK K hk hc, q.keepK K hk hc, TIn.keepK K hk hc r, TIn.keepK K hk hc r'⟩
theorem TabIn.keepK {prog : Program} {w : World} {h h' : Heap} {k d : Addr} {o : Obj} {tab : Tab} (K : Keeps [k] h h') (hk : h.get? k = some o) (hc : o.cls ≠ .type "tuple") (hc' : o.cls ≠ .type "dict") (x : TabIn prog w h d tab) : TabIn prog w h' d tab := by
  obtain ⟨kvs, ⟨od, es, ep, e, ex, r⟩, lo, q⟩ := x
  refine ⟨kvs, ⟨od, es, ep, K _ _ (fun q => ?_) e, ex, r⟩, lo, q.mono fun _ _ p => TIn.keepK K hk hc p⟩
  rw [List.mem_singleton.mp q, hk] at e
  cases e; exact hc' ex.1
/-- a code record's object -/
def CodeOf (oc : Obj) : Prop := ∃ vs t, oc.data = .fields vs ∧ vs[1]? = some (.str (Str.ofString "substitute.<locals>.change") t)
local macro_rules | `(tactic| walk_at "eval Name") => `(tactic| (k_dflt (refine' nameX_B ?F ?c ?o ?d ?_ ?a ?b; (case a => rfl); (case b => rfl); (case F => k_asm); (case c => rfl); (case o => assumption); (case d => assumption); k_whole)))
local macro_rules | `(tactic| walk_at "compareOp In int ref") => `(tactic| (k_dflt (refine' bd_in ?F ?d ?lo _ ?v ?_; (case F => k_asm); (case d => assumption); (case lo => assumption); (case v => assumption))))
local macro_rules | `(tactic| walk_at "subscriptTail") => `(tactic| ((with_reducible show wpAny _ _ (subscriptTail _ _ (Value.ref _) (Value.int _ _)) _ _ _); k_dflt (refine' bd_item ?F ?d ?v ?_; (case F => k_asm); (case d => assumption); (case v => assumption))))

theorem subst1_spec {w : World} (d : Addr) (tab : Tab) (t : T) (s : Shared) (x : Value) (ht : TIn s.heap t x) (hht : t.ht ≤ 50) (htab : TabIn PySem.Challenge.rw_ok0006_01.row.prog w s.heap d tab) (hc : CodeHd s.heap 62 58) :
    Does w (hd.heap_39 w.params) PySem.Challenge.rw_ok0006_01.row.prog 63 [x, .ref d] 4 [(58, tabObj #[])] s (fun r h' => TIn h' (t.subst tab) r ∧ ∃ c' oc, h'.get? 58 = some (tabObj #[rawInt 78, rawInt 4, .ref c']) ∧ s.heap.get? c' = none ∧ h'.get? c' = some oc ∧ CodeOf oc) := by
  unfold Does
  k_fill
  have hrl : recursionLimit = 1000 := rfl
  intro p loose mean mg mb dp un gd env outer L h₀ base m A₀ E Cx N hd' hu
  have h58 := (N _ (.head _)).1
  walk_at "MY enterC"; intro g' L' h' tk' cells' KG' F' N' Y' l1 B' X' T'; k_lt l1; k_cells Y'; (try simp only [List.cons_append, List.nil_append] at N'); (try dsimp only); (try k_fold)
  have hc' : CodeHd g' 62 58 := by
    obtain ⟨o, vs, file, tf, flags, tg, inF, text, tt, e, r⟩ := hc
    exact ⟨o, vs, file, tf, flags, tg, inF, text, tt, KG' _ _ (by simp) e, r⟩
  replace ht := TIn.keepK KG' h58 (by simp) ht
  replace htab := TabIn.keepK KG' h58 (by simp) (by simp) htab
  walk_at "MY steps"
  (rename Fr _ _ _ _ => F9); (rename News _ _ _ _ => N9)
  have hf9 := (N9 _ (.head _)).1
  have hC9 := codeRec_news N9 (.tail _ (.head _)) (by assumption) (by assumption)
  have hF9 := FnAt.of N9 (.head _)
  (rename (_ : Obj).data = Data.cell _ => hcell)
  have hcl := (N9 (L' + 1, _) (by k_mem)).1
  refine AtCall.does (rebuild_spec _ tab t _ x (TIn.keep F9.keep ht) hht hF9 ?hC) (by k_asm) F9 (by k_asm) (by k_asm) rfl rfl News.nil (by show dp + 1 + _ < 900; exact room_d hd' (by first | exact Nat.le_refl _ | exact Nat.le_add_left _ _ | omega)) (by show un + 3 + 8 * _ < 9000; exact room_u hu (by first | exact Nat.le_refl _ | exact Nat.le_add_left _ _ | omega)) ?_
  case hC =>
    intro s2 k2 i ti
    unfold Does
    intro p loose mean mg mb dp un gd env outer L h₀ base m A₀ E Cx N hd' hu
    refine enterX Cx (k2 _ _ hf9) rfl ?cd (by omega) (BindsTo.of_eq rfl) (locs rfl) ?_ rfl rfl rfl (by decide)
    case cd => obtain ⟨c, oc, vs, t, e1, e2, e3, e4⟩ := hC9; exact ⟨c, oc, vs, t, e1, k2 _ _ e2, e3, e4⟩
    intro g2 L2 h3 KG2 F2 B2 X2 T2; (try dsimp only); (try k_fold)
    have N2 : News g2 L2 h3 [] := News.nil
    have hcell2 := KG2.all _ _ (k2 _ _ hcl)
    obtain ⟨kvs, hD, LO, HK⟩ := ((htab.keep F9.keep).keep k2).keep KG2.all
    rcases HK.find i with ⟨hv, hl⟩ | ⟨y, t, hv, hl, hy⟩
    · have hv' : (valueAt kvs i).isSome = false := by rw [hv]; rfl
      walk_at "MY steps"
      (rename Fr _ _ _ _ => F8); (rename News _ _ _ _ => N8)
      exact Back.intro F8 (by rw [subst_v_none hl]; exact ⟨_, _, _, rfl, tup_of N8 (.head _)⟩)
    · have hv' : (valueAt kvs i).isSome = true := by rw [hv]; rfl
      walk_at "MY steps"
      (rename Fr _ _ _ _ => F8)
      exact Back.intro F8 (by rw [subst_v_some hl]; exact TIn.keep F8.keep hy)
  intro r h2 tk2 K2 P2
  replace F9 := fr_keep F9 K2; replace N9 := news_keep N9 K2
  walk_at "MY steps"
  (rename Fr _ _ _ _ => F8); (rename News _ _ _ _ => N8)
  (rename (_ : Obj).data = Data.fields _ => hdf); (rename (_ : Array Value)[1]? = some _ => hdv)
  exact Back.intro F8 ⟨P2, _, _, (N8 (58, tabObj #[rawInt 78, rawInt 4, .ref _]) (by k_mem)).1, (fresh_k KG' (news_one N8 (.tail _ (.head _))) (by intro p hp; rw [List.mem_singleton.mp hp]; refine (?_ : @Ne Nat _ _); dsimp only; omega) _ (.head _)).1, (N8 _ (.tail _ (.head _))).1, ⟨_, _, hdf, hdv⟩⟩

theorem subst2_spec {w : World} (d c' : Addr) (oc : Obj) (tab : Tab) (t : T) (s : Shared) (x : Value) (ht : TIn s.heap t x) (hht : t.ht ≤ 50) (htab : TabIn PySem.Challenge.rw_ok0006_01.row.prog w s.heap d tab) (hc : CodeHd s.heap 62 58) (hoc : s.heap.get? c' = some oc) (hco : CodeOf oc) (hne : @Ne Nat c' 58) :
    Does w (hd.heap_39 w.params) PySem.Challenge.rw_ok0006_01.row.prog 63 [x, .ref d] 4 [(58, tabObj #[rawInt 78, rawInt 4, .ref c'])] s (fun r h' => TIn h' (t.subst tab) r ∧ h'.get? 58 = some (tabObj #[rawInt 78, rawInt 4, .ref c'])) := by
  unfold Does
  k_fill
  have hrl : recursionLimit = 1000 := rfl
  intro p loose mean mg mb dp un gd env outer L h₀ base m A₀ E Cx N hd' hu
  have h58 := (N _ (.head _)).1
  walk_at "MY enterC"; intro g' L' h' tk' cells' KG' F' N' Y' l1 B' X' T'; k_lt l1; k_cells Y'; (try simp only [List.cons_append, List.nil_append] at N'); (try dsimp only); (try k_fold)
  have hc' : CodeHd g' 62 58 := by
    obtain ⟨o, vs, file, tf, flags, tg, inF, text, tt, e, r⟩ := hc
    exact ⟨o, vs, file, tf, flags, tg, inF, text, tt, KG' _ _ (by simp) e, r⟩
  replace ht := TIn.keepK KG' h58 (by simp) ht
  replace htab := TabIn.keepK KG' h58 (by simp) (by simp) htab
  replace hoc := KG' _ _ (by simpa using hne) hoc
  walk_at "MY steps"
  (rename Fr _ _ _ _ => F9); (rename News _ _ _ _ => N9)
  have hf9 := (N9 _ (.head _)).1
  have hF9 := FnAt.of N9 (.head _)
  (rename (_ : Obj).data = Data.cell _ => hcell)
  have hcl := (N9 (L' + 1, _) (by k_mem)).1
  refine AtCall.does (rebuild_spec _ tab t _ x (TIn.keep F9.keep ht) hht hF9 ?hC) (by k_asm) F9 (by k_asm) (by k_asm) rfl rfl News.nil (by show dp + 1 + _ < 900; exact room_d hd' (by first | exact Nat.le_refl _ | exact Nat.le_add_left _ _ | omega)) (by show un + 3 + 8 * _ < 9000; exact room_u hu (by first | exact Nat.le_refl _ | exact Nat.le_add_left _ _ | omega)) ?_
  case hC =>
    intro s2 k2 i ti
    unfold Does
    intro p loose mean mg mb dp un gd env outer L h₀ base m A₀ E Cx N hd' hu
    refine enterX Cx (k2 _ _ hf9) rfl ?cd (by omega) (BindsTo.of_eq rfl) (locs rfl) ?_ rfl rfl rfl (by decide)
    case cd => obtain ⟨vs, t, e3, e4⟩ := hco; exact ⟨c', oc, vs, t, rfl, k2 _ _ (F9.keep _ _ hoc), e3, e4⟩
    intro g2 L2 h3 KG2 F2 B2 X2 T2; (try dsimp only); (try k_fold)
    have N2 : News g2 L2 h3 [] := News.nil
    have hcell2 := KG2.all _ _ (k2 _ _ hcl)
    obtain ⟨kvs, hD, LO, HK⟩ := ((htab.keep F9.keep).keep k2).keep KG2.all
    rcases HK.find i with ⟨hv, hl⟩ | ⟨y, t, hv, hl, hy⟩
    · have hv' : (valueAt kvs i).isSome = false := by rw [hv]; rfl
      walk_at "MY steps"
      (rename Fr _ _ _ _ => F8); (rename News _ _ _ _ => N8)
      exact Back.intro F8 (by rw [subst_v_none hl]; exact ⟨_, _, _, rfl, tup_of N8 (.head _)⟩)
    · have hv' : (valueAt kvs i).isSome = true := by rw [hv]; rfl
      walk_at "MY steps"
      (rename Fr _ _ _ _ => F8)
      exact Back.intro F8 (by rw [subst_v_some hl]; exact TIn.keep F8.keep hy)
  intro r h2 tk2 K2 P2
  replace F9 := fr_keep F9 K2; replace N9 := news_keep N9 K2
  walk_at "MY steps"
  (rename Fr _ _ _ _ => F8); (rename News _ _ _ _ => N8)
  exact Back.intro F8 ⟨P2, (N8 (58, _) (by k_mem)).1⟩
end
section
/-- a term as data -/
def T.data : T → PyData
  | .v i => .tuple [.str (Str.ofString "v"), .int i]
  | .c k i => .tuple [.str k, .int i]
  | .s1 t => .tuple [.str (Str.ofString "s"), .int 34, .tuple [t.data]]
  | .s2 t u => .tuple [.str (Str.ofString "s"), .int 35, .tuple [t.data, u.data]]
theorem reads_tup {h : Heap} {a : Addr} {l : List Value} {ds : List PyData} (x : Tup h a l) (r : ReadsAll h l ds []) : Reads h (.ref a) (.tuple ds) [] := by
  obtain ⟨n, e⟩ := x
  exact .tuple e rfl rfl (by simpa using r)
theorem TIn.reads {h : Heap} : ∀ {t : T} {x : Value}, TIn h t x → Reads h x t.data []
  | .v _, _, ⟨a, tk, tk', e, p⟩ => by subst e; exact reads_tup p (.cons (as := []) (bs := []) (.str _ _) (.cons (as := []) (bs := []) (.int _ _) .nil))
  | .c _ _, _, ⟨a, tk, tk', e, q, p⟩ => by subst e; exact reads_tup p (.cons (as := []) (bs := []) (.str _ _) (.cons (as := []) (bs := []) (.int _ _) .nil))
  | .s1 _, _, ⟨a, b, y, tk, tk', e, p, q, r⟩ => by
    subst e
    exact reads_tup p (.cons (as := []) (bs := []) (.str _ _) (.cons (as := []) (bs := []) (.int _ _) (.cons (as := []) (bs := []) (reads_tup q (.cons (as := []) (bs := []) (TIn.reads r) .nil)) .nil)))
  | .s2 _ _, _, ⟨a, b, y, z, tk, tk', e, p, q, r, r'⟩ => by
    subst e
    exact reads_tup p (.cons (as := []) (bs := []) (.str _ _) (.cons (as := []) (bs := []) (.int _ _) (.cons (as := []) (bs := []) (reads_tup q (.cons (as := []) (bs := []) (TIn.reads r) (.cons (as := []) (bs := []) (TIn.reads r') .nil))) .nil)))
theorem ok_v : PyData.strOk (Str.ofString "v") = true := by decide +kernel
theorem ok_s : PyData.strOk (Str.ofString "s") = true := by decide +kernel
theorem ok_a : PyData.strOk (Str.ofString "a") = true := by decide +kernel
theorem ok_i : PyData.strOk (Str.ofString "i") = true := by decide +kernel
theorem TIn.lay {h : Heap} : ∀ {t : T} {x : Value}, TIn h t x → t.data.canLay0 = true
  | .v _, _, _ => by simp [T.data, PyData.canLay0, PyData.canLayAll0, ok_v]
  | .c _ _, _, ⟨_, _, _, _, q, _⟩ => by rcases q with rfl | rfl <;> simp [T.data, PyData.canLay0, PyData.canLayAll0, ok_a, ok_i]
  | .s1 t, _, ⟨_, _, _, _, _, _, _, _, r⟩ => by simp [T.data, PyData.canLay0, PyData.canLayAll0, ok_s, TIn.lay r]
  | .s2 t u, _, ⟨_, _, _, _, _, _, _, _, _, r, r'⟩ => by simp [T.data, PyData.canLay0, PyData.canLayAll0, ok_s, TIn.lay r, TIn.lay r']
theorem T.data_depth : ∀ t : T, t.data.depth ≤ 2 * t.ht
  | .v _ => by simp [T.data, PyData.depth, PyData.depthAll, T.ht]
  | .c _ _ => by simp [T.data, PyData.depth, PyData.depthAll, T.ht]
  | .s1 t => by have := T.data_depth t; simp [T.data, PyData.depth, PyData.depthAll, T.ht]; omega
  | .s2 t u => by have := T.data_depth t; have := T.data_depth u; simp [T.data, PyData.depth, PyData.depthAll, T.ht]; omega
theorem T.data_eqv : ∀ t : T, PyData.eqv t.data t.data = true
  | .v _ => by simp [T.data, PyData.eqv, PyData.eqvAll]
  | .c _ _ => by simp [T.data, PyData.eqv, PyData.eqvAll]
  | .s1 t => by simp [T.data, PyData.eqv, PyData.eqvAll, T.data_eqv t]
  | .s2 t u => by simp [T.data, PyData.eqv, PyData.eqvAll, T.data_eqv t, T.data_eqv u]
theorem TIn.shaped {h : Heap} {t : T} {x : Value} (a : TIn h t x) (h : t.ht ≤ 32) : SeqAt.shaped t.data = true := by
  have := t.data_depth
  simp [SeqAt.shaped, a.lay]; omega
section
variable {prog : Program} {w : World} {A : Around} {E : Value → Shared → Prop} {s : Shared} {Q : Value → Shared → Prop} {t : T} {x y : Value}
theorem eq_tin (a : TIn s.heap t x) (b : TIn s.heap t y) (h32 : t.ht ≤ 32) (hu : A.units + 64 < cLine) (h : Q (.bool true) s) : wpAny (model prog w) A (compareOp .Eq x y) Q E s :=
  eq_dataH a.reads b.reads (a.shaped h32) (b.shaped h32) hu (by rw [t.data_eqv]; exact h)
theorem ne_tin (a : TIn s.heap t x) (b : TIn s.heap t y) (h32 : t.ht ≤ 32) (hu : A.units + 64 < cLine) (h : Q (.bool false) s) : wpAny (model prog w) A (compareOp .NotEq x y) Q E s :=
  ne_dataH a.reads b.reads (a.shaped h32) (b.shaped h32) hu (by rw [t.data_eqv]; exact h)
end

-- the plain law
theorem lookup_put {α : Type} (l : List (Int × α)) (k : Int) (a : α) (j : Int) : (put l k a).lookup j = if k = j then some a else l.lookup j := by
  have hm : ∀ l : List (Int × α), (l.map fun p => if p.1 = k then (p.1, a) else p).lookup j = if k = j then (if (l.any fun p => p.1 = k) then some a else none) else l.lookup j := by
    intro l
    induction l with
    | nil => by_cases e : k = j <;> simp [e]
    | cons p r ih =>
      obtain ⟨k', b⟩ := p
      simp only [List.map_cons]
      by_cases e : k' = k
      · subst e
        simp only [if_true, lookup_cons', ih]
        by_cases e' : k' = j <;> simp [e']
      · simp only [e, if_false, lookup_cons', ih]
        by_cases e' : k' = j
        · subst e'; simp [Ne.symm e]
        · simp only [e', if_false, List.any_cons, e, decide_false, Bool.false_or]
  unfold put
  split
  · rename_i h
    rw [hm, h]; simp
  · rename_i h
    have : l.lookup k = none := lookup_none_of fun p hp e => h (List.any_eq_true.mpr ⟨p, hp, by simpa using e⟩)
    by_cases e : k = j
    · subst e
      simp only [if_true]
      induction l with
      | nil => simp
      | cons p r ih =>
        obtain ⟨k', b⟩ := p
        rw [lookup_cons'] at this
        by_cases e' : k' = k
        · simp [e'] at this
        · rw [if_neg e'] at this
          rw [List.cons_append, lookup_cons', if_neg e']
          exact ih (fun q => h (by simp at q ⊢; exact .inr q)) this
    · simp only [e, if_false]
      clear this h
      induction l with
      | nil => simp [lookup_cons', e]
      | cons p r ih =>
        obtain ⟨k', b⟩ := p
        rw [List.cons_append, lookup_cons', lookup_cons', ih]
theorem put_keys {α : Type} (l : List (Int × α)) (k : Int) (a : α) : (put l k a).map (·.1) = if (l.any fun p => p.1 = k) then l.map (·.1) else l.map (·.1) ++ [k] := by
  unfold put
  split
  · rw [List.map_map]
    refine List.map_congr_left fun p _ => ?_
    by_cases e : p.1 = k <;> simp [e]
  · simp
theorem put_nodup {α : Type} {l : List (Int × α)} (k : Int) (a : α) (h : (l.map (·.1)).Nodup) : ((put l k a).map (·.1)).Nodup := by
  rw [put_keys]
  split
  · exact h
  · rename_i q
    rw [List.nodup_append]
    refine ⟨h, by simp, ?_⟩
    intro x hx y hy e
    simp only [List.mem_singleton] at hy
    obtain ⟨p, hp, rfl⟩ := List.mem_map.mp hx
    exact q (List.any_eq_true.mpr ⟨p, hp, by simp [e, hy]⟩)
/-- both tables at once -/
def both (one two : Tab) : Tab := one.foldl (fun acc p => put acc p.1 (p.2.subst two)) two
theorem both_go (two : Tab) : ∀ (one acc : Tab), (one.map (·.1)).Nodup → ∀ j, (one.foldl (fun acc p => put acc p.1 (p.2.subst two)) acc).lookup j = match one.lookup j with
    | some u => some (u.subst two)
    | none => acc.lookup j
  | [], acc, _, j => rfl
  | (k, u) :: r, acc, h, j => by
    simp only [List.map_cons, List.nodup_cons] at h
    simp only [List.foldl_cons]
    rw [both_go two r _ h.2 j, lookup_cons', lookup_put]
    by_cases e : k = j
    · subst e
      have : r.lookup k = none := lookup_none_of fun p hp q => h.1 (List.mem_map.mpr ⟨p, hp, q⟩)
      simp [this]
    · simp [e]
theorem subst_both (one two : Tab) (h : (one.map (·.1)).Nodup) : ∀ t : T, (t.subst one).subst two = t.subst (both one two)
  | .v i => by
    have := both_go two one two h i
    simp only [T.subst, both, this]
    cases one.lookup i with
    | none => simp [T.subst]
    | some u => simp
  | .c _ _ => rfl
  | .s1 t => by simp only [T.subst, subst_both one two h t]
  | .s2 t u => by simp only [T.subst, subst_both one two h t, subst_both one two h u]
theorem subst_ground (tab : Tab) : ∀ t : T, t.ground = true → t.subst tab = t
  | .v _, h => nomatch h
  | .c _ _, _ => rfl
  | .s1 t, h => by simp only [T.subst, subst_ground tab t h]
  | .s2 t u, h => by
    simp only [T.ground, Bool.and_eq_true] at h
    simp only [T.subst, subst_ground tab t h.1, subst_ground tab u h.2]
theorem ground_leaves : ∀ t : T, t.ground = decide (t.leaves = [])
  | .v _ => by simp [T.ground, T.leaves]
  | .c _ _ => by simp [T.ground, T.leaves]
  | .s1 t => ground_leaves t
  | .s2 t u => by simp [T.ground, T.leaves, ground_leaves t, ground_leaves u, Bool.decide_and]
theorem ht_subst (tab : Tab) (B : Nat) (hB : ∀ p ∈ tab, p.2.ht ≤ B) : ∀ t : T, (t.subst tab).ht ≤ t.ht + B
  | .v i => by
    cases e : tab.lookup i with
    | none => rw [subst_v_none' e]; simp [T.ht]
    | some u =>
      rw [subst_v_some' e]
      have : ∃ p ∈ tab, p.2 = u := by
        clear hB
        induction tab with
        | nil => cases e
        | cons p r ih =>
          obtain ⟨k', b⟩ := p
          rw [lookup_cons'] at e
          by_cases q : k' = i
          · rw [if_pos q] at e; cases e; exact ⟨_, .head _, rfl⟩
          · rw [if_neg q] at e; obtain ⟨p, hp, hq⟩ := ih e; exact ⟨p, .tail _ hp, hq⟩
      obtain ⟨p, hp, rfl⟩ := this
      have := hB p hp
      omega
  | .c _ _ => by simp [T.subst, T.ht]
  | .s1 t => by have := ht_subst tab B hB t; simp only [T.subst, T.ht]; omega
  | .s2 t u => by have := ht_subst tab B hB t; have := ht_subst tab B hB u; simp only [T.subst, T.ht]; omega
where
  subst_v_none' {tab : Tab} {i : Int} (h : tab.lookup i = none) : (T.v i).subst tab = .v i := by simp [T.subst, h]
  subst_v_some' {tab : Tab} {i : Int} {t : T} (h : tab.lookup i = some t) : (T.v i).subst tab = t := by simp [T.subst, h]
theorem sz_ht : ∀ t : T, t.sz + 1 ≤ 2 ^ t.ht
  | .v _ => by simp [T.sz, T.ht]
  | .c _ _ => by simp [T.sz, T.ht]
  | .s1 t => by have := sz_ht t; simp only [T.sz, T.ht, Nat.pow_add]; omega
  | .s2 t u => by
    have h1 := sz_ht t; have h2 := sz_ht u
    have h3 : 2 ^ t.ht ≤ 2 ^ (max t.ht u.ht) := Nat.pow_le_pow_right (by decide) (Nat.le_max_left _ _)
    have h4 : 2 ^ u.ht ≤ 2 ^ (max t.ht u.ht) := Nat.pow_le_pow_right (by decide) (Nat.le_max_right _ _)
    simp only [T.sz, T.ht, Nat.pow_add]; omega

-- sums
def wt (one : Tab) (i : Int) : Int := match one.lookup i with
  | some u => (u.sz : Int) - 1
  | none => 0
def lsum (one : Tab) : List Int → Int
  | [] => 0
  | i :: r => wt one i + lsum one r
theorem lsum_append (one : Tab) : ∀ a b : List Int, lsum one (a ++ b) = lsum one a + lsum one b
  | [], b => by simp [lsum]
  | i :: r, b => by simp only [List.cons_append, lsum, lsum_append one r b]; omega
theorem sz_subst (one : Tab) : ∀ t : T, ((t.subst one).sz : Int) = t.sz + lsum one t.leaves
  | .v i => by
    cases e : one.lookup i with
    | none => simp [T.subst, e, T.sz, T.leaves, lsum, wt]
    | some u => simp [T.subst, e, T.sz, T.leaves, lsum, wt]
                omega
  | .c _ _ => by simp [T.subst, T.sz, T.leaves, lsum]
  | .s1 t => by
    have := sz_subst one t
    simp only [T.subst, T.sz, T.leaves] at *
    omega
  | .s2 t u => by
    have h1 := sz_subst one t; have h2 := sz_subst one u
    simp only [T.subst, T.sz, T.leaves, lsum_append] at *
    omega
def csum (one : Tab) : List (Int × Nat) → Int
  | [] => 0
  | p :: r => (p.2 : Int) * wt one p.1 + csum one r
theorem csum_append (one : Tab) : ∀ a b : List (Int × Nat), csum one (a ++ b) = csum one a + csum one b
  | [], b => by simp [csum]
  | i :: r, b => by simp only [List.cons_append, csum, csum_append one r b]; omega
theorem csum_map (one : Tab) (k : Int) (n : Nat) : ∀ l : List (Int × Nat), (l.map (·.1)).Nodup → l.lookup k = some n →
    csum one (l.map fun p => if p.1 = k then (p.1, n + 1) else p) = csum one l + wt one k
  | [], _, h => nomatch h
  | (k', m) :: r, hn, h => by
    simp only [List.map_cons, List.nodup_cons] at hn
    rw [lookup_cons'] at h
    by_cases e : k' = k
    · subst e
      rw [if_pos rfl] at h; cases h
      have hr : (r.map fun p => if p.1 = k' then (p.1, n + 1) else p) = r := by
        have : ∀ p ∈ r, (if p.1 = k' then (p.1, n + 1) else p) = p := fun p hp => by
          have : p.1 ≠ k' := fun q => hn.1 (List.mem_map.mpr ⟨p, hp, q⟩)
          simp [this]
        exact (List.map_congr_left this).trans (List.map_id' r)
      simp only [List.map_cons, if_true, csum, hr]
      have : ((n + 1 : Nat) : Int) * wt one k' = (n : Int) * wt one k' + wt one k' := by rw [Int.natCast_add, Int.add_mul]; simp
      omega
    · rw [if_neg e] at h
      simp only [List.map_cons, e, if_false, csum, csum_map one k n r hn.2 h]
      omega
theorem any_of_lookup {α : Type} {l : List (Int × α)} {k : Int} {a : α} (h : l.lookup k = some a) : (l.any fun p => decide (p.1 = k)) = true := by
  cases e : l.any fun p => decide (p.1 = k) with
  | true => rfl
  | false =>
    have : l.lookup k = none := lookup_none_of fun p hp q => by
      have := List.any_eq_false.mp e p hp
      simp [q] at this
    rw [this] at h; cases h
theorem csum_put (one : Tab) (l : List (Int × Nat)) (k : Int) (hn : (l.map (·.1)).Nodup) : csum one (put l k ((l.lookup k).getD 0 + 1)) = csum one l + wt one k := by
  cases e : l.lookup k with
  | none =>
    rw [put_new e, csum_append]
    simp [csum]
  | some n =>
    unfold put
    rw [any_of_lookup e]
    simpa using csum_map one k n l hn e
theorem tally_nodup : ∀ (c : List (Int × Nat)) (l : List Int), (c.map (·.1)).Nodup → ((tally c l).map (·.1)).Nodup
  | _, [], h => h
  | c, i :: r, h => tally_nodup _ r (put_nodup i _ h)
theorem csum_tally (one : Tab) : ∀ (c : List (Int × Nat)) (l : List Int), (c.map (·.1)).Nodup → csum one (tally c l) = csum one c + lsum one l
  | _, [], _ => by simp [tally, lsum]
  | c, i :: r, h => by
    simp only [tally, lsum]
    rw [csum_tally one _ r (put_nodup i _ h), csum_put one c i h]
    omega
theorem tally_lookup : ∀ (c : List (Int × Nat)) (l : List Int) (k : Int), ((tally c l).lookup k).getD 0 = (c.lookup k).getD 0 + l.count k
  | _, [], _ => by simp [tally]
  | c, i :: r, k => by
    simp only [tally]
    rw [tally_lookup _ r k, lookup_put]
    by_cases e : i = k
    · subst e; simp; omega
    · simp [e, List.count_cons]
theorem lookup_of_mem {α : Type} : ∀ {l : List (Int × α)} {k : Int} {a : α}, (l.map (·.1)).Nodup → (k, a) ∈ l → l.lookup k = some a
  | (k', b) :: r, k, a, hn, h => by
    simp only [List.map_cons, List.nodup_cons] at hn
    rw [lookup_cons']
    rcases List.mem_cons.mp h with e | h
    · cases e; simp
    · have : k' ≠ k := fun q => hn.1 (List.mem_map.mpr ⟨_, h, q.symm⟩)
      rw [if_neg this]; exact lookup_of_mem hn.2 h
theorem tally_count {l : List Int} {k : Int} {n : Nat} (h : (k, n) ∈ tally [] l) : n = l.count k := by
  have := tally_lookup [] l k
  rw [lookup_of_mem (tally_nodup [] l (by simp)) h] at this
  simpa using this
theorem put_mem_keys {α : Type} (l : List (Int × α)) (k : Int) (a : α) (j : Int) : j ∈ (put l k a).map (·.1) ↔ j = k ∨ j ∈ l.map (·.1) := by
  rw [put_keys]
  split
  · rename_i h
    constructor
    · exact fun h => .inr h
    · rintro (rfl | h')
      · obtain ⟨p, hp, q⟩ := List.any_eq_true.mp h
        exact List.mem_map.mpr ⟨p, hp, by simpa using q⟩
      · exact h'
  · simp [or_comm]
theorem tally_keys : ∀ (c : List (Int × Nat)) (l : List Int) (j : Int), j ∈ (tally c l).map (·.1) ↔ j ∈ c.map (·.1) ∨ j ∈ l
  | _, [], _ => by simp [tally]
  | c, i :: r, j => by
    simp only [tally]
    rw [tally_keys _ r j, put_mem_keys]
    simp only [List.mem_cons]
    constructor
    · rintro ((h | h) | h)
      · exact .inr (.inl h)
      · exact .inl h
      · exact .inr (.inr h)
    · rintro (h | h | h)
      · exact .inl (.inr h)
      · exact .inl (.inl h)
      · exact .inr h
end
section
section
variable {prog : Program} {w : World} {A : Around} {E : Value → Shared → Prop} {s : Shared} {env : Env} {target : Expr} {body : List Stmt} {Q : Flow → Shared → Prop} {W : Shared → Prop} {g : Heap} {L d I : Addr} {m : Str → Option Value} {news : List (Addr × Obj)} {o oI : Obj} {kvs : List (Int × Value)} {i ep : Nat}
theorem dict_of {Q : Value → Shared → Prop} (F : Fr g L s.heap m) (N : News g L s.heap news) (hbig : g.NoLimit) (hp : (d, o) ∈ news) (hd : o.IsDictOf (intKind prog w) kvs) (lo : (d == sysModules) = false) (hsz : kvs.length ≤ 5000)
    (h : ∀ D h' oD, Fr g L h' m → News g L h' ((D, oD) :: news) → (∀ p ∈ news, p.1 < D) → oD.IsDictOf (intKind prog w) kvs → (D == sysModules) = false → Q (.ref D) { s with heap := h' }) :
    wpAny (model prog w) A (call (.type "dict") [.ref d]) Q E s := by
  refine kt_call_dict (knd := intKind prog w) lo (kda_dict N hp hd) (by rw [sizeLine_eq]; omega) fun h' hD hs => ?_
  obtain ⟨oD, e, hd'⟩ := Heap.dictOf_iff.mp hD
  have k : Keep s.heap h' := fun b ob e => hs.extBut _ _ (Nat.ne_of_lt (Heap.lt_size e)) (Heap.get?_push_of_some _ e)
  refine h _ h' oD (F.keeps k) (fun p hp => ?_) (fun p hp => Heap.lt_size (N p hp).1) hd' (F.notModules (modules_low hbig))
  rcases List.mem_cons.mp hp with rfl | hp
  · refine ⟨e, Nat.ne_of_gt F.ns.lt, Heap.get?_none_of_le ?_⟩
    exact Nat.le_trans F.above (Nat.le_of_lt F.ns.lt)
  · exact ⟨k _ _ (N p hp).1, (N p hp).2⟩
theorem dict_for (F : Fr g L s.heap m) (N : News g L s.heap news) (hp : (d, o) ∈ news) (hd : o.IsDictOf (intKind prog w) kvs) (lo : (d == sysModules) = false)
    (h : ∀ I h' oI ep, Fr g L h' m → News g L h' ((I, oI) :: news) → (∀ p ∈ news, p.1 < I) → KdkIter oI d 0 kvs.length ep → KdkAt (intKind prog w) o kvs ep → ForLoop prog w A env target body Q E (.ref I) { s with heap := h' }) :
    wpAny (model prog w) A (pyIter (.ref d)) (ForLoop prog w A env target body Q E) E s := by
  obtain ⟨ep, ha⟩ := KdkAt.of hd
  refine wpAny_pyIter_dict lo (ha.dictAt (N _ hp).1) ?_
  exact h _ _ _ ep (F.push _) (News.push F N _ rfl) (fun q hq => Heap.lt_size (N q hq).1) ⟨rfl, rfl⟩ ha
theorem dict_next {k : Int} {x : Value} (F : Fr g L s.heap m) (N : News g L s.heap ((I, oI) :: news)) (off : ∀ p ∈ news, p.1 ≠ I) (hi : KdkIter oI d i kvs.length ep) (ha : KdkAt (intKind prog w) o kvs ep) (hp : (d, o) ∈ news) (hx : kvs[i]? = some (k, x))
    (h : ∀ h' o' tk, Fr g L h' m → News g L h' ((I, o') :: news) → KdkIter o' d (i + 1) kvs.length ep →
      wpAny (model prog w) A (assign target env (.int k tk)) (fun _ s₅ => wpAny (model prog w) A (execs body env) (TurnEnd W Q) E s₅) E { s with heap := h' }) :
    wpAny (model prog w) A (pyNext (.ref I)) (ForStep prog w A env target body W Q E) E s := by
  have zI := N _ (.head _)
  refine wpAny_pyNext_dict_item (hi.at zI.1) (ha.dictAt (N _ (.tail _ hp)).1) hx fun key h' hkey hit' hs => ?_
  obtain ⟨tk, rfl⟩ := PySem.Value.isInt_shape hkey
  obtain ⟨o', ho', hc', hd'⟩ := hit'
  have k : Keeps [I] s.heap h' := fun c oc hn e => hs.extBut c oc (by simpa using hn) e
  refine h h' o' tk (fr_keeps F k (by simpa using Ne.symm zI.2.1) (by simpa using zI.2.2)) (fun p hp => ?_) ⟨hc', hd'⟩
  rcases List.mem_cons.mp hp with rfl | hp
  · exact ⟨ho', zI.2⟩
  · exact news_keeps (fun p hp => N p (List.mem_cons_of_mem _ hp)) k (by simpa using off) p hp
theorem dict_end (hh : A.handled = none) (F : Fr g L s.heap m) (N : News g L s.heap ((I, oI) :: news)) (off : ∀ p ∈ news, p.1 ≠ I) (hi : KdkIter oI d i kvs.length ep) (ha : KdkAt (intKind prog w) o kvs ep) (hp : (d, o) ∈ news) (hx : kvs.length = i)
    (h : ∀ h', Fr g L h' m → News g L h' news → Q .next { s with heap := h' }) :
    wpAny (model prog w) A (pyNext (.ref I)) (ForStep prog w A env target body W Q E) E s := by
  subst hx
  have zI := N _ (.head _)
  refine wpAny_pyNext_dict_end hh (hi.at zI.1) (ha.dictAt (N _ (.tail _ hp)).1) (by simp) fun h' he' => ?_
  have k : Keeps [I] s.heap h' := fun c oc hn e => he' c oc (by simpa using hn) e
  exact h h' (fr_keeps F k (by simpa using Ne.symm zI.2.1) (by simpa using zI.2.2)) (news_keeps (fun p hp => N p (List.mem_cons_of_mem _ hp)) k (by simpa using off))
theorem KdkAt.val {k : Int} {x : Value} (ha : KdkAt (intKind prog w) o kvs ep) (hx : kvs[i]? = some (k, x)) : valueAt kvs k = some x := let ⟨_, _, _, _, _, hn⟩ := ha; valueAt_of_get hn hx
theorem KdkAt.nodup (ha : KdkAt (intKind prog w) o kvs ep) : (kvs.map (·.1)).Nodup := let ⟨_, _, _, _, _, hn⟩ := ha; hn
end
theorem nsub {g h : Heap} {L : Addr} {l l' : List (Addr × Obj)} (N : News g L h l) (k : ∀ p ∈ l', p ∈ l) : News g L h l' := fun p hp => N p (k p hp)
theorem dict_cls {prog : Program} {w : World} {o : Obj} {kvs : List (Int × Value)} (h : o.IsDictOf (intKind prog w) kvs) : o.cls = .type "dict" := let ⟨_, _, ex, _⟩ := h; ex.1
theorem both_take (one two : Tab) (i : Nat) (k : Int) (u : T) (h : one[i]? = some (k, u)) :
    (one.take (i + 1)).foldl (fun acc p => put acc p.1 (p.2.subst two)) two = put ((one.take i).foldl (fun acc p => put acc p.1 (p.2.subst two)) two) k (u.subst two) := by
  rw [List.take_add_one, h]
  simp [List.foldl_append]
end
section
section
variable {prog : Program} {w : World} {A : Around} {E : Value → Shared → Prop} {s : Shared} {g : Heap} {L d D : Addr} {m : Str → Option Value} {news : List (Addr × Obj)} {o : Obj} {kvs : List (Int × Value)} {vs : List Value} {ns : List Int} {n : Nat}
/-- what a sorted call gives -/
def SortGives (g : Heap) (L : Addr) (m : Str → Option Value) (news : List (Addr × Obj)) (ns : List Int) (s : Shared) (Q : Value → Shared → Prop) : Prop :=
  ∀ D vs' ns' c h' tk, Fr g L h' m → News g L h' ((D, PySem.W.listOf (List.toArray vs') c) :: news) → (∀ p ∈ news, p.1 < D) → IntsAre vs' ns' → ns'.Perm ns → ns'.Pairwise (· ≤ ·) → Q (.ref D) { s with heap := h', toks := tk }
theorem sort_led {Q : Value → Shared → Prop} (F : Fr g L s.heap m) (N : News g L s.heap ((D, PySem.W.listOf (List.toArray vs) n) :: news)) (off : ∀ p ∈ news, p.1 ≠ D) (hi : IntsAre vs ns) (h64 : vs.length < 64)
    (h : ∀ vs' ns' c h', Fr g L h' m → News g L h' ((D, PySem.W.listOf (List.toArray vs') c) :: news) → IntsAre vs' ns' → ns'.Perm ns → ns'.Pairwise (· ≤ ·) → Q .none { s with heap := h' }) :
    wpAny (model prog w) A (call (.builtin "list.sort") [.ref D]) Q E s := by
  have z := N _ (.head _)
  have ho : s.heap.get? D = some (seqObj "list" vs.toArray n) := z.1
  refine wpAny_call_entry PyProof.Rows.slot_list_sort ⟨_, z.1, rfl⟩ PyProof.Rows.entry_list_sort (list_sort_tree (n := n) (vs := vs) ho hi h64 fun out ns' hI hp hP => ⟨.none, rfl, ?_⟩) (PyProof.Rows.args_list_sort _)
  obtain ⟨e, he⟩ := sortedHeap_at (vs := vs) (out := out) ho
  have k : Keeps [D] s.heap (sortedHeap s.heap D vs out) := fun b ob hb e => by
    rw [sortedHeap_old (by simpa using hb) (Heap.lt_size e)]; exact e
  refine h out.toList ns' e _ (fr_keeps F k (by simpa using Ne.symm z.2.1) (by simpa using z.2.2)) (fun p hp => ?_) hI hp hP
  rcases List.mem_cons.mp hp with rfl | hp
  · exact ⟨by simpa using he, z.2⟩
  · exact news_keeps (fun p hp => N p (List.mem_cons_of_mem _ hp)) k (by simpa using off) p hp
theorem ints_of_keys : ∀ {vs : List Value} {ks : List Int}, vs.length = ks.length → (∀ (j : Nat) (v : Value), vs[j]? = some v → ∃ k t, ks[j]? = some k ∧ v = .int k t) → IntsAre vs ks
  | [], [], _, _ => .nil
  | v :: vs, k :: ks, hl, hv => by
    obtain ⟨k', t, e, rfl⟩ := hv 0 v rfl
    cases e
    exact .cons _ _ (ints_of_keys (by simpa using hl) fun j u hu => by simpa using hv (j + 1) u (by simpa using hu))
theorem sorted_dict {Q : Value → Shared → Prop} (hh : A.handled = none) (F : Fr g L s.heap m) (N : News g L s.heap news) (hp : (d, o) ∈ news) (hd : o.IsDictOf (intKind prog w) kvs) (lo : (d == sysModules) = false) (hn : kvs.length < 64)
    (h : SortGives g L m news (kvs.map (·.1)) s Q) : wpAny (model prog w) A (call (.builtin "sorted") [.ref d]) Q E s := by
  obtain ⟨ep, ha⟩ := KdkAt.of hd
  refine kdu_sorted (kdl_dict (knd := intKind prog w) (kvs := kvs) (ep := ep) lo) hh F N (ha.dictAt (N _ hp).1) (by rw [sizeLine_eq]; omega) fun D h' tk vs F' N' l1 hl hv => ?_
  refine sort_led (ns := kvs.map (·.1)) F' N' (fun p hp => Nat.ne_of_lt (l1 p hp)) (ints_of_keys (by simpa using hl) fun j v e => ?_) (by omega) fun vs' ns' c h'' F'' N'' hI hP hS => h D vs' ns' c h'' tk F'' N'' l1 hI hP hS
  obtain ⟨k, x, e1, e2⟩ := hv j v e
  obtain ⟨t, rfl⟩ := PySem.Value.isInt_shape e2
  exact ⟨k, t, by simp [e1], rfl⟩
end
end
section
/-- the small ints of a mask -/
def ofM (m : Nat) : List Nat := (List.range 6).filter (m.testBit ·)
/-- the table of a set of small ints -/
def tb (led : Bool) (m : Nat) : SetTable := { mask := if 5 ≤ (ofM m).length then 31 else 7, place := (ofM m).toArray, dummies := #[], finger := 0, led := led, moves := if 5 ≤ (ofM m).length then 1 else 0, plain := true }
/-- the same table when one is laid but the table not yet grown -/
def tb1 (led : Bool) (m k : Nat) : SetTable := { tb led m with place := (ofM (m ||| 2 ^ k)).toArray }
def plc (m k : Nat) : Nat := ((ofM m).filter (· < k)).length
def slotAt (l : List Nat) : Nat → Nat
  | 0 => 0
  | i + 1 => l.getD i 0 + 1
theorem tb_zero (led : Bool) : tb led 0 = .fresh 0 0 led := rfl
theorem or_same : ∀ m < 64, ∀ k < 6, m.testBit k = true → m ||| 2 ^ k = m := by decide +kernel
theorem or_lt : ∀ m < 64, ∀ k < 6, m ||| 2 ^ k < 64 := by decide +kernel
theorem tb_free : ∀ m < 64, ∀ k : Nat, k < 6 → ∀ led, m.testBit k = false → (tb led m).freeSlot (k : Int) = some (k, false) := by decide +kernel
theorem tb_put : ∀ m < 64, ∀ k < 6, ∀ led, m.testBit k = false → (tb led m).put k = (tb1 led m k, plc m k) := by decide +kernel
theorem tb_len : ∀ m < 64, ∀ k < 6, m.testBit k = false → (ofM (m ||| 2 ^ k)).length = (ofM m).length + 1 := by decide +kernel
theorem tb_fits : ∀ m < 64, (tb true m).fits (ofM m).length = true := by decide +kernel
theorem tb_fits1 : ∀ m < 64, ∀ k < 6, m.testBit k = false → (tb1 true m k).fits ((ofM m).length + 1) = true := by decide +kernel
theorem tb_ins : ∀ m < 64, ∀ k < 6, m.testBit k = false → (ofM m).take (plc m k) ++ k :: (ofM m).drop (plc m k) = ofM (m ||| 2 ^ k) := by decide +kernel
theorem tb_slim : ∀ m < 64, ∀ k < 6, ∀ led, m.testBit k = false → (tb1 led m k).tooFull = false → tb1 led m k = tb led (m ||| 2 ^ k) := by decide +kernel
set_option synthInstance.maxHeartbeats 400000 in
set_option synthInstance.maxSize 1000 in
theorem tb_grow : ∀ m < 64, ∀ k : Nat, k < 6 → ∀ led, m.testBit k = false → (tb1 led m k).tooFull = true →
    (tb1 led m k).relaid ((ofM (m ||| 2 ^ k)).map (fun (i : Nat) => (i : Int))).toArray (SetTable.grown ((ofM m).length + 1)) = some (tb led (m ||| 2 ^ k), (List.range ((ofM m).length + 1)).toArray) := by decide +kernel
theorem tb_below : ∀ m < 64, ∀ i < (ofM m).length + 1, SetTable.below (ofM m).toArray (slotAt (ofM m) i) = i := by decide +kernel
theorem hash_small : ∀ k < 6, hashInt ((k : Nat) : Int) = k := by decide +kernel
theorem mem_ofM : ∀ m < 64, ∀ k < 6, k ∈ ofM m ↔ m.testBit k = true := by decide +kernel
theorem ofM_lt (m : Nat) {k : Nat} (h : k ∈ ofM m) : k < 6 := by
  simp only [ofM, List.mem_filter, List.mem_range] at h; exact h.1
theorem ofM_nodup (m : Nat) : (ofM m).Nodup := List.nodup_range.filter _
theorem ofM_le (m : Nat) : (ofM m).length ≤ 6 := by
  have := List.length_filter_le (fun i => m.testBit i) (List.range 6)
  simpa [ofM] using this
theorem or_bit (m k j : Nat) : (m ||| 2 ^ k).testBit j = (m.testBit j || decide (k = j)) := by
  rw [Nat.testBit_or, Nat.testBit_two_pow]
theorem erase_perm {α : Type} : ∀ (l : List α) (n : Nat) (h : n < l.length), (l[n] :: l.eraseIdx n).Perm l
  | [], n, h => absurd h (Nat.not_lt_zero _)
  | a :: l, 0, _ => .rfl
  | a :: l, n + 1, h => by
    simp only [List.getElem_cons_succ, List.eraseIdx_cons_succ]
    exact (List.Perm.swap _ _ _).trans ((erase_perm l n (by simpa using h)).cons a)
theorem pick_go {α : Type} (next : Nat → Nat) : ∀ (fuel k : Nat) (left : List α) (out : Array α), fuel = left.length → (pickOrder.go next fuel k left out).toList.Perm (out.toList ++ left)
  | 0, _, left, out, h => by
    have : left = [] := List.length_eq_zero_iff.mp h.symm
    subst this; simp [pickOrder.go]
  | fuel + 1, k, left, out, h => by
    unfold pickOrder.go
    have hpos : 0 < left.length := by omega
    have hlt : next k % left.length < left.length := Nat.mod_lt _ hpos
    rw [List.getElem?_eq_getElem hlt]
    dsimp only
    refine (pick_go next fuel (k + 1) _ _ (by rw [List.length_eraseIdx_of_lt hlt]; omega)).trans ?_
    rw [Array.toList_push, List.append_assoc]
    exact List.Perm.append_left _ (erase_perm _ _ hlt)
theorem pick_perm {α : Type} (next : Nat → Nat) (xs : Array α) : (pickOrder next xs).toList.Perm xs.toList := by
  have := pick_go next xs.size 0 xs.toList #[] (by simp)
  simpa [pickOrder] using this
end
section
/-- one element of a set of small ints -/
def el (p : Nat × Tok) : Int × Value := ((p.1 : Int), Value.int (p.1 : Int) p.2)
/-- what a set of the mask m holds -/
def EsOf (m : Nat) (es : Array (Int × Value)) : Prop := ∃ l : List (Nat × Tok), l.map (·.1) = ofM m ∧ es = (l.map el).toArray
def setObj (es : Array (Int × Value)) (ep : Nat) (t : SetTable) : Obj := { cls := .type "set", dict := none, data := .set es ep t }
theorem insertAt_list {α : Type} (l : List α) (p : Nat) (x : α) (h : p ≤ l.length) : SetTable.insertAt l.toArray p x = (l.take p ++ x :: l.drop p).toArray := by
  simp only [SetTable.insertAt, List.extract_toArray, List.push_toArray, List.size_toArray, List.append_toArray, List.extract_eq_take_drop, List.drop_zero, Nat.sub_zero]
  rw [List.take_of_length_le (i := l.length - p) (by simp)]
  simp
theorem EsOf.size {m : Nat} {es : Array (Int × Value)} (h : EsOf m es) : es.size = (ofM m).length := by
  obtain ⟨l, h1, rfl⟩ := h; rw [← h1]; simp
theorem EsOf.mem {m : Nat} {es : Array (Int × Value)} (h : EsOf m es) (hm : m < 64) (k : Nat) (hk : k < 6) : (∃ e ∈ es.toList, Value.isInt (k : Int) e.2 = true) ↔ m.testBit k = true := by
  obtain ⟨l, h1, rfl⟩ := h
  rw [← mem_ofM m hm k hk, ← h1]
  simp only [List.mem_map]
  constructor
  · rintro ⟨e, ⟨p, hp, rfl⟩, hi⟩
    refine ⟨p, hp, ?_⟩
    simp [el, Value.isInt] at hi
    omega
  · rintro ⟨p, hp, rfl⟩
    exact ⟨el p, ⟨p, hp, rfl⟩, by simp [el, Value.isInt]⟩
theorem EsOf.elems {prog : Program} {w : World} {m : Nat} {es : Array (Int × Value)} (h : EsOf m es) : ElemsOf (intKind prog w) es.toList := by
  obtain ⟨l, h1, rfl⟩ := h
  intro e he
  obtain ⟨p, hp, rfl⟩ := List.mem_map.mp (show e ∈ l.map el from he)
  have hp6 : p.1 < 6 := ofM_lt m (by rw [← h1]; exact List.mem_map_of_mem hp)
  exact ⟨⟨(p.1 : Int), intKind_is _ _ _ _, (hash_small p.1 hp6).symm⟩, rfl⟩
theorem EsOf.put {m k : Nat} {es : Array (Int × Value)} (h : EsOf m es) (hm : m < 64) (hk : k < 6) (hb : m.testBit k = false) (t : Tok) :
    EsOf (m ||| 2 ^ k) (SetTable.insertAt es (plc m k) ((k : Int), .int k t)) := by
  obtain ⟨l, h1, rfl⟩ := h
  have hl : plc m k ≤ l.length := by
    have : l.length = (ofM m).length := by rw [← h1]; simp
    rw [this]; exact List.length_filter_le _ _
  refine ⟨l.take (plc m k) ++ (k, t) :: l.drop (plc m k), ?_, ?_⟩
  · rw [← tb_ins m hm k hk hb, ← h1]; simp [List.map_take, List.map_drop]
  · rw [insertAt_list _ _ _ (by simpa using hl)]
    simp [el, List.map_take, List.map_drop]
theorem fits_led {led : Bool} {m : Nat} (hm : m < 64) : (tb led m).fits (ofM m).length = true := by
  have := tb_fits m hm
  cases led <;> exact this
theorem fits_led1 {led : Bool} {m k : Nat} (hm : m < 64) (hk : k < 6) (hb : m.testBit k = false) : (tb1 led m k).fits ((ofM m).length + 1) = true := by
  have := tb_fits1 m hm k hk hb
  cases led <;> exact this
theorem lay_small {m k : Nat} {led : Bool} {es : Array (Int × Value)} (h : EsOf m es) (hm : m < 64) (hk : k < 6) (hb : m.testBit k = false) (x : Value) :
    layNew (tb led m) es (k : Int) x = (SetTable.insertAt es (plc m k) ((k : Int), x), tb1 led m k, false, false) := by
  have hsz : (SetTable.insertAt es (plc m k) ((k : Int), x)).size = (ofM m).length + 1 := by
    have h1 := h.size
    obtain ⟨l, h2, rfl⟩ := h
    have hl : plc m k ≤ (l.map el).length := by
      have : (l.map el).length = (ofM m).length := by rw [← h2]; simp
      rw [this]; exact List.length_filter_le _ _
    rw [insertAt_list _ _ _ hl]
    have : (ofM m).length = (l.map el).length := by rw [← h2]; simp
    rw [this]; simp; omega
  unfold layNew
  rw [tb_free m hm k hk led hb]
  dsimp only
  rw [tb_put m hm k hk led hb]
  dsimp only
  rw [hsz]
  unfold SetTable.orStandIn
  rw [fits_led1 hm hk hb]
  rfl
theorem relay_small {m k : Nat} {led : Bool} {es : Array (Int × Value)} (h : EsOf (m ||| 2 ^ k) es) (hm : m < 64) (hk : k < 6) (hb : m.testBit k = false) (hf : (tb1 led m k).tooFull = true) :
    relayAll (tb1 led m k) es (SetTable.grown es.size) = (es, tb led (m ||| 2 ^ k), false) := by
  have hsz : es.size = (ofM m).length + 1 := by rw [h.size, tb_len m hm k hk hb]
  have hhs : es.map (·.1) = ((ofM (m ||| 2 ^ k)).map (fun (i : Nat) => (i : Int))).toArray := by
    obtain ⟨l, h2, rfl⟩ := h
    rw [← h2]; simp [el]
  unfold relayAll
  rw [hhs, hsz, tb_grow m hm k hk led hb hf]
  dsimp only
  have e1 : (List.range ((ofM m).length + 1)).toArray.filterMap (es[·]?) = es := by
    rw [← hsz]
    apply Array.ext'
    rw [Array.toList_filterMap]
    rw [show es = es.toList.toArray by simp]
    generalize es.toList = l
    simp only [List.size_toArray, List.getElem?_toArray]
    apply List.ext_getElem?
    intro i
    induction l generalizing i with
    | nil => simp
    | cons a l ih =>
      rw [List.length_cons, List.range_succ_eq_map, List.filterMap_cons]
      simp only [List.getElem?_cons_zero]
      cases i with
      | zero => simp
      | succ i =>
        rw [List.getElem?_cons_succ, List.getElem?_cons_succ, ← ih i, List.filterMap_map]
        congr 2
  rw [e1]
  have e2 : coversAll (List.range ((ofM m).length + 1)).toArray ((ofM m).length + 1) = true := by
    unfold coversAll; exact List.isPerm_iff.mpr (.refl _)
  rw [e2, hsz, ← tb_len m hm k hk hb, fits_led (or_lt m hm k hk)]
  rfl
section
variable {prog : Program} {w : World} {A : Around} {E : Value → Shared → Prop} {s : Shared}
theorem gave_no {Q : Unit → Shared → Prop} (h : Q () s) : wpAny (model prog w) A (match false with | true => rule "set.scan.the-table-gave-way" | false => pure ()) Q E s := wpAny_pure h
theorem setObj_at {h : Heap} {a : Addr} {es es' : Array (Int × Value)} {ep : Nat} {t t' : SetTable} (ho : h.get? a = some (setObj es ep t)) : (h.update a (Obj.putSet es' t')).get? a = some (setObj es' (ep + 1) t') := by
  have := Heap.get?_update_self (Obj.putSet es' t') ho rfl
  exact this
theorem add_small {a : Addr} {es : Array (Int × Value)} {ep m k : Nat} {t : Tok} {led : Bool} {Q : Bool → Shared → Prop} (hm : m < 64) (hk : k < 6) (he : EsOf m es) (ho : s.heap.get? a = some (setObj es ep (tb led m)))
    (h : ∀ b h' es' ep', Heap.SameBut a s.heap h' → h'.get? a = some (setObj es' ep' (tb led (m ||| 2 ^ k))) → EsOf (m ||| 2 ^ k) es' → Q b { s with heap := h' }) :
    wpAny (model prog w) A (setAddHashed a (.int k t) (hashInt (k : Int))) Q E s := by
  have hf : (tb led m).fits es.size = true := by rw [he.size]; exact fits_led hm
  have hel := he.elems (prog := prog) (w := w)
  have hsmall : es.size ≤ 6 := by rw [he.size]; exact ofM_le m
  have hb : es.size < scanBound := by unfold scanBound; omega
  have key := (intKind_is prog w (k : Int) t)
  unfold setAddHashed setAddHashedIn
  refine wpAny_holding (wpAny_bind (wpAny_setState_of ho rfl hf ?_))
  dsimp only
  rw [byScan_of (knd := intKind prog w) rfl hb hel]
  simp only [↓reduceIte]
  unfold setAddByScan
  refine wpAny_bind ?_
  refine wpAny_bind (wpAny_rule ?_)
  refine wpAny_bind (wpAny_setScan_of (knd := intKind prog w) (k := (k : Int)) key ho rfl hf hel ?_)
  cases hr : List.findIdx? (fun e => (intKind prog w).is (k : Int) e.2) es.toList with
  | some j =>
    dsimp only
    obtain ⟨hj, hpj, _⟩ := List.findIdx?_eq_some_iff_getElem.mp hr
    have hbit : m.testBit k = true := (he.mem hm k hk).mp ⟨_, List.getElem_mem hj, hpj⟩
    have e := or_same m hm k hk hbit
    refine wpAny_pure (wpAny_pure ?_)
    exact h _ s.heap es ep (Heap.SameBut.refl a s.heap) (by rw [e]; exact ho) (by rw [e]; exact he)
  | none =>
    dsimp only
    have hbit : m.testBit k = false := by
      cases hq : m.testBit k with
      | false => rfl
      | true =>
        obtain ⟨e, h1, h2⟩ := (he.mem hm k hk).mpr hq
        have := List.findIdx?_eq_none_iff.mp hr e h1
        rw [show (intKind prog w).is (k : Int) e.2 = true from h2] at this; cases this
    rw [hash_small k hk, lay_small he hm hk hbit]
    dsimp only
    have he1 := he.put hm hk hbit t
    have hs1 : (SetTable.insertAt es (plc m k) ((k : Int), Value.int (k : Int) t)).size ≤ 6 := by rw [he1.size]; exact ofM_le _
    refine wpAny_bind (wpAny_of_eq (a := ()) rfl ?_)
    rw [if_pos (show (tb1 led m k).plain = true from rfl)]
    refine wpAny_bind ?_
    refine wpAny_bind (wpAny_of_eq (show hashByValue 8 (Value.int (k : Int) t) = pure true from hashByValue_scannable 8 rfl) ?_)
    refine wpAny_pure ?_
    simp only [↓reduceIte, Bool.not_false, Bool.true_and]
    refine wpAny_bind (wpAny_storeSet_of ho rfl ?_ (Nat.le_trans hs1 (by rw [sizeLine_eq]; decide)))
    have ho1 := setObj_at (es' := SetTable.insertAt es (plc m k) ((k : Int), Value.int (k : Int) t)) (t' := tb1 led m k) ho
    have sb1 := Heap.SameBut.update s.heap a (Obj.putSet (SetTable.insertAt es (plc m k) ((k : Int), Value.int (k : Int) t)) (tb1 led m k))
    cases hfull : (tb1 led m k).tooFull with
    | false =>
      simp only [Bool.false_eq_true, ↓reduceIte]
      refine wpAny_pure (wpAny_pure (h true _ _ (ep + 1) sb1 ?_ he1))
      rw [tb_slim m hm k hk led hbit hfull] at ho1
      rw [tb_slim m hm k hk led hbit hfull]
      exact ho1
    | true =>
      simp only [↓reduceIte]
      rw [relay_small he1 hm hk hbit hfull]
      dsimp only
      refine wpAny_bind (wpAny_of_eq (a := ()) rfl ?_)
      refine wpAny_bind (wpAny_storeSet_of ho1 rfl ?_ (Nat.le_trans hs1 (by rw [sizeLine_eq]; decide)))
      refine wpAny_pure (wpAny_pure (h true _ _ (ep + 1 + 1) (sb1.trans (Heap.SameBut.update _ a _)) (setObj_at ho1) he1))
theorem upd_loop {R : Result → Shared → Prop} {I S : Addr} {fp wr : List Addr} {G : Array GenState → Array GenState → Prop} {n : Nat} {P : Nat → Value → Prop} {St : Nat → Shared → Prop} {led : Bool}
    (W : WalksS prog w A.in1 I fp wr G n P St) (hSf : S ∉ fp) (val : Nat → Nat) (h6 : ∀ i, val i < 6) (hval : ∀ i v, P i v → ∃ t, v = .int (val i : Int) t) :
    ∀ (k i : Nat) (s : Shared) (m : Nat) (es : Array (Int × Value)) (ep : Nat), n - i = k → i ≤ n → St i s → m < 64 → EsOf m es → s.heap.get? S = some (setObj es ep (tb led m)) →
      (∀ s' m' es' ep', Moved (S :: wr) G s s' → m' < 64 → EsOf m' es' → s'.heap.get? S = some (setObj es' ep' (tb led m')) → (∀ j, m'.testBit j = true ↔ m.testBit j = true ∨ ∃ l, i ≤ l ∧ l < n ∧ val l = j) → R (.ok (.ret .none)) s') →
      codeAny (model prog w) A (.builtin "set.update.loop" ⟨[.ref S, .ref I], []⟩) R s := by
  have hSw : S ∉ wr := fun h => hSf (W.sub _ h)
  have hsub : ∀ b ∈ wr, b ∈ S :: wr := fun b hb => List.mem_cons_of_mem _ hb
  intro k
  induction k with
  | zero =>
    intro i s m es ep hk hi hst hm he ho hR
    have hin : i = n := by omega
    subst hin
    refine codeAny_builtin PyProof.Rows.F.entry_set_update_loop ?_
    rw [Around.under_plainId PyProof.Rows.F.plain_set_update_loop _]
    show wpAny _ A.in1 (pyNext (.ref I) >>= _) _ _ s
    refine wpAny_bind (W.done s _ _ hst fun s' hmv => ?_)
    show wpAny _ A.in1 (ret Value.none) _ _ s'
    refine wpAny_pure (hR s' m es ep (hmv.mono hsub) hm he (hmv.heap S _ hSw ho) fun j => ⟨.inl, ?_⟩)
    rintro (h | ⟨l, h1, h2, _⟩)
    · exact h
    · omega
  | succ k ih =>
    intro i s m es ep hk hi hst hm he ho hR
    have hlt : i < n := by omega
    refine codeAny_builtin PyProof.Rows.F.entry_set_update_loop ?_
    rw [Around.under_plainId PyProof.Rows.F.plain_set_update_loop _]
    show wpAny _ A.in1 (pyNext (.ref I) >>= _) _ _ s
    refine wpAny_bind (W.item i s _ _ hlt hst fun v s' hP hst' hmv => ?_)
    obtain ⟨t, rfl⟩ := hval i v hP
    show wpAny _ A.in1 (holding [Value.int (val i : Int) t] (setAdd S (.int (val i : Int) t)) >>= _) _ _ s'
    refine wpAny_bind (wpAny_holding ?_)
    unfold setAdd
    refine wpAny_holding ?_
    refine wpAny_bind ((intKind prog w).pyHash (k := (val i : Int)) (intKind_is _ _ _ _) ?_)
    refine add_small (s := { s' with toks := s'.toks + 1 }) hm (h6 i) he (hmv.heap S _ hSw ho) fun b h' es' ep' hsb ho' he' => ?_
    refine wpAny_pure ⟨plainId_quiet PyProof.Rows.F.plain_set_update_loop _, ih (i + 1) _ (m ||| 2 ^ val i) es' ep' (by omega) hlt (W.frame _ s' _ _ hst' (Nat.le_succ _) fun b hb o e => ?_) (or_lt m hm _ (h6 i)) he' ho' fun s'' m' es'' ep'' hm'' h64 he'' ho'' hbits => ?_⟩
    · rw [hsb.2 b (fun h : b = S => hSf (by rw [← h]; exact hb))]; exact e
    · refine hR s'' m' es'' ep'' (Moved.trans W.gtrans ((hmv.mono hsub).then_heap (Nat.le_succ _) fun b o hb e => ?_) hm'') h64 he'' ho'' fun j => ?_
      · rw [hsb.2 b (fun h : b = S => hb (by rw [h]; exact List.mem_cons_self))]; exact e
      · rw [hbits j, or_bit, Bool.or_eq_true, decide_eq_true_eq]
        constructor
        · rintro ((h | h) | ⟨l, h1, h2, h3⟩)
          · exact .inl h
          · exact .inr ⟨i, Nat.le_refl _, hlt, h⟩
          · exact .inr ⟨l, by omega, h2, h3⟩
        · rintro (h | ⟨l, h1, h2, h3⟩)
          · exact .inl (.inl h)
          · rcases Nat.eq_or_lt_of_le h1 with e | e
            · subst e; exact .inl (.inr h3)
            · exact .inr ⟨l, e, h2, h3⟩
end
end
section
def ledOf (w : World) : Bool := !(w.params.followText "set-order")
/-- a set of small ints that nobody has marked -/
def SetI (w : World) (o : Obj) (m : Nat) : Prop := m < 64 ∧ ∃ es ep, EsOf m es ∧ o = setObj es ep (tb (ledOf w) m)
section
variable {prog : Program} {w : World} {A : Around} {E : Value → Shared → Prop} {s : Shared}
theorem set_new_led (a : Value) {Q₁ : Value → Shared → Prop}
    (h : Q₁ (.ref s.heap.objs.size) { s with heap := s.heap.push (setObj #[] 0 (tb (ledOf w) 0)) }) :
    codeAny (model prog w) A (.call (.builtin "set.__new__") ⟨[.type "set", a], []⟩) (wants Q₁ E) s := by
  refine codeAny_of_tree ?_
  show wpAny _ A.in1 (do checkBuiltinCall "set.__new__" ⟨[.type "set", a], []⟩; again (.builtin "set.__new__" ⟨[.type "set", a], []⟩)) _ _ s
  refine wpAny_bind (wpAny_of_eq (F.newCall_set_1 a) (wpAny_pure ⟨plainId_quiet F.plain_set_new _, codeAny_builtin F.entry_set_new ?_⟩))
  rw [Around.under_plainId F.plain_set_new _]
  unfold Builtin.«set.__new__» Builtin.Frozenset.newClass
  have hsub := sub_set_self
  obtain ⟨hp, g, d, tk, os⟩ := s
  dsimp only
  wp_walk
  refine wpAny_askSetting (wpAny_pure ?_)
  dsimp only
  simp only [newObj]
  refine wpAny_bind (wpAny_alloc (wpAny_pure ?_))
  exact wpAny_pure h
theorem ints_small {vs : List Value} {ns : List Int} (hi : IntsAre vs ns) (h6 : ∀ n ∈ ns, 0 ≤ n ∧ n < 6) : ∀ (i : Nat) (v : Value), vs.toArray[i]? = some v → ∃ t, v = .int ((((ns.getD i 0).toNat : Nat)) : Int) t := by
  intro i v hv
  obtain ⟨t, rfl⟩ := PyProof.Rows.IntsAre.int_at hi i v (by simpa using hv)
  have : 0 ≤ ns.getD i 0 := by
    by_cases hlt : i < ns.length
    · have hm : ns.getD i 0 ∈ ns := by
        rw [List.getD_eq_getElem?_getD, List.getElem?_eq_getElem hlt]; exact List.getElem_mem hlt
      exact (h6 _ hm).1
    · rw [List.getD_eq_getElem?_getD, List.getElem?_eq_none (Nat.le_of_not_lt hlt)]; decide
  exact ⟨t, by rw [Int.toNat_of_nonneg this]⟩
theorem small_getD {ns : List Int} (h6 : ∀ n ∈ ns, 0 ≤ n ∧ n < 6) (i : Nat) : (ns.getD i 0).toNat < 6 := by
  by_cases hlt : i < ns.length
  · have hm : ns.getD i 0 ∈ ns := by
      rw [List.getD_eq_getElem?_getD, List.getElem?_eq_getElem hlt]; exact List.getElem_mem hlt
    have := h6 _ hm
    omega
  · rw [List.getD_eq_getElem?_getD, List.getElem?_eq_none (Nat.le_of_not_lt hlt)]; decide
theorem nameCut_set {n : Nat} {S : Addr} {Q : String → Shared → Prop} (hT : s.TypeIs (.ref S) "set") (h : ∀ x, Q x s) : wpAny (model prog w) A (typeNameOfCut n (.ref S)) Q E s := by
  unfold typeNameOfCut shownTypeOf
  refine wpAny_bind (wpAny_bind (wpAny_typeOf hT ?_))
  simp only [show (Value.type "set" == Value.type "builtin_function_or_method") = false by decide, Bool.false_eq_true, if_false]
  refine wpAny_pure ?_
  have e : typeName (.type "set") = pure "set" := by unfold typeName; rw [find?_eq_fast]; kernel_rfl
  rw [show typeNameCut n (.type "set") = typeName (.type "set") from rfl, e]; exact wpAny_pure (h _)
theorem init_set {S l : Addr} {items : Array Value} {led : Bool} {Rv : Fin → Shared → Prop} (hS : s.heap.get? S = some (setObj #[] 0 (tb led 0))) (hl : s.heap.IsList l items)
    (hloop : wpAny (model prog w) A (pyIter (.ref l)) (fun I s₁ => wpAny (model prog w) A (runValue (Code.builtin "set.update.loop" ⟨[.ref S, I], []⟩)) (fun _ s₂ => Rv (.done (.ret .none)) s₂) E s₁) E s) :
    wpAny (model prog w) A (Builtin.«set.__init__» ⟨[.ref S, .ref l], []⟩) Rv E s := by
  have hT : s.TypeIs (.ref S) "set" := ⟨_, hS, rfl⟩
  obtain ⟨ol, hol, hcl, nl, hdl⟩ := hl
  have hTl : s.TypeIs (.ref l) "list" := ⟨_, hol, hcl⟩
  unfold Builtin.«set.__init__»
  refine wpAny_bind (wpAny_of_eq (a := ()) rfl ?_)
  dsimp only
  refine wpAny_bind (nameCut_set hT fun nm => ?_)
  refine wpAny_bind (wpAny_of_eq (a := ()) rfl ?_)
  unfold Builtin.Frozenset.addrOf
  refine wpAny_bind (wpAny_pure ?_)
  unfold setUsed
  refine wpAny_bind (wpAny_bind (wpAny_setState_of hS rfl (by cases led <;> rfl) (wpAny_pure ?_)))
  rw [if_neg (by rw [tb_zero]; exact Bool.false_ne_true)]
  unfold Builtin.Frozenset.updateFrom Builtin.Frozenset.isAnySet
  refine wpAny_bind ?_
  refine wpAny_bind ?_
  simp only [orM]
  refine wpAny_bind (wpAny_isInstance hTl F.sub_list_set ?_)
  refine wpAny_isInstance hTl F.sub_list_frozenset ?_
  rw [if_neg Bool.false_ne_true]
  refine wpAny_bind (wpAny_typeOf hTl ?_)
  rw [if_neg (by decide)]
  refine wpAny_bind (wpAny_mono hloop (fun I s₁ h => ?_) fun _ _ e => e)
  refine wpAny_bind (wpAny_mono h (fun _ s₂ h => ?_) fun _ _ e => e)
  exact wpAny_pure (wpAny_pure h)
theorem call_set_small {l : Addr} {vs : List Value} {ns : List Int} {Q : Value → Shared → Prop}
    (hh : A.handled = none) (hl : s.heap.IsList l vs.toArray) (hi : IntsAre vs ns) (h6 : ∀ n ∈ ns, 0 ≤ n ∧ n < 6)
    (h : ∀ (h' : Heap) (tk : Nat) o m, h'.get? s.heap.objs.size = some o → SetI w o m → (∀ j : Nat, m.testBit j = true ↔ (j : Int) ∈ ns) → (∀ b o, s.heap.get? b = some o → h'.get? b = some o) → Q (.ref s.heap.objs.size) { s with heap := h', toks := tk }) :
    wpAny (model prog w) A (call (.type "set") [.ref l]) Q E s := by
  have hct := F.typeCall_set_1 (.ref l)
  obtain ⟨c, tl, hmro⟩ := F.called_set.mro
  have hmade := F.called_set.made
  have hsub := F.called_set.sub
  refine wpAny_call (codeAny_of_tree ?_)
  show wpAny _ _ (callAny (.type "set") _) _ _ _
  refine wpAny_pure ⟨Code.quiet_builtin _ (by decide +kernel), codeAny_builtin F.entry_type_call ?_⟩
  rw [Around.under_plain (weight_type_call_type "set" [.ref l] []) rfl]
  have h1 := F.called_set.notType
  have h2 := F.called_set.canCreate
  repeat (any_goals (first | assumption | wp_step))
  refine codeAny_mono (set_new_led (.ref l) (E := E) (Q₁ := fun obj s₁ => obj = .ref s.heap.objs.size ∧ s₁ = { s with heap := s.heap.push (setObj #[] 0 (tb (ledOf w) 0)) }) ⟨rfl, rfl⟩) fun r s₁ hr => ?_
  cases r with
  | error e => exact hr
  | ok fl =>
    cases fl with
    | ret obj =>
      obtain ⟨rfl, rfl⟩ := hr
      have hS : (s.heap.push (setObj #[] 0 (tb (ledOf w) 0))).get? s.heap.objs.size = some (setObj #[] 0 (tb (ledOf w) 0)) := Heap.get?_push_size _ rfl
      have hT : Shared.TypeIs { s with heap := s.heap.push (setObj #[] 0 (tb (ledOf w) 0)) } (.ref s.heap.objs.size) "set" := ⟨_, hS, rfl⟩
      have hli := F.called_set.init.lookup
      have hbi := F.called_set.init.bind (.ref s.heap.objs.size)
      repeat (any_goals (first | assumption | wp_step))
      have hlS : l < s.heap.objs.size := let ⟨_, ho, _⟩ := hl; Heap.lt_size ho
      refine codeAny_mono (codeAny_call_builtin (R := wants (fun r s₂ => r = .none ∧ ∃ h' tk o m, s₂ = { s with heap := h', toks := tk } ∧ h'.get? s.heap.objs.size = some o ∧ SetI w o m ∧ (∀ j : Nat, m.testBit j = true ↔ (j : Int) ∈ ns) ∧
          (∀ b o, s.heap.get? b = some o → h'.get? b = some o)) E) F.called_set.init.plain F.entry_set_init (check_set_init_1 hT ?_)) fun r₂ s₂ hr₂ => ?_
      · have hl1 := hl.push (setObj #[] 0 (tb (ledOf w) 0))
        clear h
        refine init_set hS hl1 (wpAny_pyIter_list hl1 (wpAny_runValue ?_))
        have hh3 : A.in1.in1.in1.handled = none := by simp [hh]
        have hneI : l ≠ (s.heap.push (setObj #[] 0 (tb (ledOf w) 0))).objs.size := by
          rw [Heap.size_push]; exact Nat.ne_of_lt (Nat.lt_succ_of_lt hlS)
        have hSf : s.heap.objs.size ∉ [(s.heap.push (setObj #[] 0 (tb (ledOf w) 0))).objs.size, l] := by
          rw [Heap.size_push]; simp only [List.mem_cons, List.not_mem_nil, or_false, not_or]
          exact ⟨Nat.ne_of_lt (Nat.lt_succ_self _), Nat.ne_of_gt hlS⟩
        refine upd_loop (led := ledOf w) (Walks.list hh3 _ l hneI vs.toArray).toS hSf (fun i => (ns.getD i 0).toNat) (small_getD h6) (ints_small hi h6) (vs.toArray.size - 0) 0 _ 0 #[] 0 (by omega) (Nat.zero_le _)
          ⟨⟨_, Heap.get?_push_size _ rfl, rfl, rfl⟩, hl1.push _⟩ (by decide) ⟨[], rfl, rfl⟩ (Heap.get?_push_of_some _ hS) fun s' m' es' ep' hm h64 he' ho' hb' => ?_
        obtain ⟨h', g', d', tk', os'⟩ := s'
        have eg : g' = s.gens := hm.gens
        have ed : d' = s.drawn := hm.drawn
        have eo : os' = s.os := hm.os
        subst eg; subst ed; subst eo
        refine ⟨rfl, h', tk', _, m', rfl, ho', ⟨h64, es', ep', he', rfl⟩, fun j => ?_, fun b o e => ?_⟩
        · rw [hb' j]
          have hln : vs.length = ns.length := IntsAre.length hi
          constructor
          · rintro (h | ⟨q, _, h2, h3⟩)
            · simp at h
            · have hq : q < ns.length := by rw [← hln]; simpa using h2
              have hm' : ns.getD q 0 ∈ ns := by rw [List.getD_eq_getElem?_getD, List.getElem?_eq_getElem hq]; exact List.getElem_mem hq
              have := h6 _ hm'
              rw [← h3, Int.toNat_of_nonneg this.1]; exact hm'
          · intro h
            obtain ⟨q, hq, e⟩ := List.getElem_of_mem h
            refine .inr ⟨q, Nat.zero_le _, by simpa [hln] using hq, ?_⟩
            rw [List.getD_eq_getElem?_getD, List.getElem?_eq_getElem hq, e]; simp
        · have hb := Heap.lt_size e
          have hb1 : b ≠ s.heap.objs.size := Nat.ne_of_lt hb
          have hb2 : b ≠ (s.heap.push (setObj #[] 0 (tb (ledOf w) 0))).objs.size := by
            rw [Heap.size_push]; exact Nat.ne_of_lt (Nat.lt_succ_of_lt hb)
          exact hm.heap b o (by simp only [List.mem_cons, List.not_mem_nil, or_false, not_or]; exact ⟨hb1, hb2⟩) (Heap.get?_push_of_some _ (Heap.get?_push_of_some _ e))
      · cases r₂ with
        | error e => exact hr₂
        | ok fl₂ =>
          cases fl₂ with
          | ret r =>
            obtain ⟨rfl, h', tk, o, m, rfl, ho, hS', hb, hk'⟩ := hr₂
            repeat (any_goals (first | assumption | wp_step))
            exact h _ _ o m ho hS' hb hk'
          | _ => exact hr₂.elim
    | _ => exact hr.elim
end
end
section
theorem owner_setit : Manifest.owners.lookup (String.ofList ['r', 'o', 't', 'a', 'r', 'e', 't', 'i', '_', 't', 'e', 's'].reverse) = some Manifest.sig_set_iterator := by kernel_rfl
theorem slot_setit_next : Slot "set_iterator" "__next__" "set_iterator.__next__" :=
  .of (owner := "set_iterator") (n := "__next__") (by rw [typeLookup_type, builtinLookup_eq_fast]; kernel_rfl) (by decide +kernel) (by decide +kernel) (by decide +kernel)
    (by first | exact .inl (by decide +kernel) | exact .inr (by decide +kernel)) (by rw [isSubtype_type]; kernel_rfl)
theorem entry_setit_next : entryFor table "set_iterator.__next__" = some Builtin.«set_iterator.__next__» := entryFor_of_tree (by kernel_rfl)
theorem args_setit_next_1 (a : Value) : argsOk "set_iterator.__next__" ⟨[a], []⟩ := by
  unfold argsOk; rw [signature?_of (id := "set_iterator.__next__") (n := ['_', '_', 't', 'x', 'e', 'n', '_', '_']) (o := ['r', 'o', 't', 'a', 'r', 'e', 't', 'i', '_', 't', 'e', 's']) (by kernel_rfl) owner_setit]; kernel_rfl
theorem slot_setit_iter : Slot "set_iterator" "__iter__" "set_iterator.__iter__" :=
  .of (owner := "set_iterator") (n := "__iter__") (by rw [typeLookup_type, builtinLookup_eq_fast]; kernel_rfl) (by decide +kernel) (by decide +kernel) (by decide +kernel)
    (by first | exact .inl (by decide +kernel) | exact .inr (by decide +kernel)) (by rw [isSubtype_type]; kernel_rfl)
theorem args_setit_iter_1 (a : Value) : argsOk "set_iterator.__iter__" ⟨[a], []⟩ := by
  unfold argsOk; rw [signature?_of (id := "set_iterator.__iter__") (n := ['_', '_', 'r', 'e', 't', 'i', '_', '_']) (o := ['r', 'o', 't', 'a', 'r', 'e', 't', 'i', '_', 't', 'e', 's']) (by kernel_rfl) owner_setit]; kernel_rfl
theorem entry_setit_iter : entryFor table "set_iterator.__iter__" = some Builtin.«dict_keyiterator.__iter__» :=
  entryFor_alias (id' := "dict_keyiterator.__iter__") (by kernel_rfl) (by first | rfl | decide +kernel | (unfold String.splitOn; simp +decide [String.splitOnAux])) (by decide +kernel) (by kernel_rfl)
theorem entry_set_iter : entryFor table "set.__iter__" = some Builtin.«frozenset.__iter__» :=
  entryFor_alias (id' := "frozenset.__iter__") (by kernel_rfl) rfl (by decide +kernel) (by kernel_rfl)
/-- the order in which a set gives its elements -/
def setVals (w : World) (d : Addr) (es : Array (Int × Value)) (ep : Nat) : Array (Int × Value) := if w.params.followText "set-order" then pickOrder (w.params.setOrder d ep) es else es
theorem setVals_perm (w : World) (d : Addr) (es : Array (Int × Value)) (ep : Nat) : (setVals w d es ep).toList.Perm es.toList := by
  unfold setVals
  split
  · exact pick_perm _ _
  · exact .refl _
def setIt (slot i : Nat) (d : Addr) (n ep : Nat) : Data := .fields #[rawInt slot, rawInt i, .ref d, rawInt n, rawInt ep]
section
variable {prog : Program} {w : World} {A : Around} {E : Value → Shared → Prop} {s : Shared} {I d : Addr} {es : Array (Int × Value)} {ep m : Nat}
theorem by_text {Q : Bool → Shared → Prop} (h : Q (w.params.followText "set-order") s) : wpAny (model prog w) A setsByText Q E s := by
  unfold setsByText
  exact wpAny_bind (wpAny_askSetting (wpAny_pure h))
theorem iter_set {Q : Value → Shared → Prop} (hm : m < 64) (he : EsOf m es) (ho : s.heap.get? d = some (setObj es ep (tb (ledOf w) m)))
    (hQ : Q (.ref s.heap.objs.size) { s with heap := s.heap.push { cls := .type "set_iterator", data := setIt 0 0 d es.size ep } }) :
    wpAny (model prog w) A (pyIter (.ref d)) Q E s := by
  have hf : (tb (ledOf w) m).fits es.size = true := by rw [he.size]; exact fits_led hm
  have hT : s.TypeIs (.ref d) "set" := ⟨_, ho, rfl⟩
  refine wpAny_pyIter_slot hT F.slot_set_iter (wpAny_call_entry F.slot_set_iter hT entry_set_iter ?_ (F.args_set_iter_1 _))
  unfold Builtin.«frozenset.__iter__» Builtin.Frozenset.slot0
  refine wpAny_bind ?_
  refine wpAny_bind (wpAny_of_eq (a := (Value.ref d, [])) rfl ?_)
  dsimp only
  unfold Builtin.Frozenset.addrOf
  refine wpAny_pure ?_
  unfold Builtin.Frozenset.sizeOf
  refine wpAny_bind (wpAny_bind (wpAny_setEntries_of ho rfl hf (wpAny_pure ?_)))
  unfold setDrawn
  refine wpAny_bind ?_
  refine wpAny_bind (wpAny_setState_of ho rfl hf ?_)
  dsimp only
  refine wpAny_bind (by_text ?_)
  refine wpAny_pure ?_
  refine wpAny_ite_split (fun hab => Bool.noConfusion ((Bool.and_false _).symm.trans (hab : (!(w.params.followText "set-order") && false) = true))) (fun _ => ?_)
  refine wpAny_bind (wpAny_pure ?_)
  refine wpAny_bind (wpAny_setEpoch_of ho rfl hf ?_)
  unfold newFields
  refine wpAny_bind (wpAny_newObj_type ?_)
  exact wpAny_pure ⟨_, rfl, "set_iterator", _, ⟨_, Heap.get?_push_size _ rfl, rfl⟩, slot_setit_next.lookup, hQ⟩
theorem walk_text {Q : Array (Int × Value) → Shared → Prop} (hm : m < 64) (he : EsOf m es) (ho : s.heap.get? d = some (setObj es ep (tb (ledOf w) m))) (hbt : w.params.followText "set-order" = true)
    (hQ : Q (setVals w d es ep) s) : wpAny (model prog w) A (setWalk d) Q E s := by
  have hf : (tb (ledOf w) m).fits es.size = true := by rw [he.size]; exact fits_led hm
  unfold setWalk
  refine wpAny_bind (wpAny_setState_of ho rfl hf ?_)
  dsimp only
  refine wpAny_bind (by_text ?_)
  rw [if_pos hbt]
  refine wpAny_bind (wpAny_askSetting ?_)
  refine wpAny_pure ?_
  unfold setVals at hQ
  rw [if_pos hbt] at hQ
  exact hQ
theorem led_places {Q : Unit → Shared → Prop} (hbt : w.params.followText "set-order" = false) (n : Nat) (hQ : Q () s) : wpAny (model prog w) A (if (!(tb (ledOf w) m).led && !(Array.isEmpty es)) = true then unsupported "set:maker-not-led" else pure ()) Q E s := by
  have e : (tb (ledOf w) m).led = true := by simp [tb, ledOf, hbt]
  rw [e]
  exact wpAny_pure hQ
/-- what setNext gives at the turn i -/
theorem set_next {i slot : Nat} {Q : Option (Value × Nat) → Shared → Prop} (hm : m < 64) (he : EsOf m es) (ho : s.heap.get? d = some (setObj es ep (tb (ledOf w) m)))
    (hs : w.params.followText "set-order" = false → slot = slotAt (ofM m) i) (hi : i < es.size)
    (hQ : ∀ e slot', (setVals w d es ep)[i]? = some e → (w.params.followText "set-order" = false → slot' = slotAt (ofM m) (i + 1)) → Q (some (e.2, slot')) s) :
    wpAny (model prog w) A (setNext d slot i ep) Q E s := by
  have hf : (tb (ledOf w) m).fits es.size = true := by rw [he.size]; exact fits_led hm
  have hlen : (setVals w d es ep).size = es.size := by
    have := (setVals_perm w d es ep).length_eq
    simpa using this
  have hiv : (setVals w d es ep)[i]? = some ((setVals w d es ep)[i]'(by omega)) := by simp [hlen, hi]
  unfold setNext
  refine wpAny_bind (wpAny_setState_of ho rfl hf ?_)
  dsimp only
  refine wpAny_bind (by_text ?_)
  cases hbt : w.params.followText "set-order" with
  | true =>
    rw [if_pos rfl, if_neg (by simp)]
    refine wpAny_bind (walk_text hm he ho hbt ?_)
    refine wpAny_pure ?_
    rw [hiv]
    exact hQ _ slot hiv (fun h => by rw [hbt] at h; cases h)
  | false =>
    rw [if_neg Bool.false_ne_true]
    refine wpAny_ite_split (fun hab => Bool.noConfusion (hab : false = true)) fun _ => ?_
    refine wpAny_bind ?_
    wp_delta
    refine wpAny_ite_split (fun hab => ?_) fun _ => ?_
    · have e : (tb (ledOf w) m).led = true := by simp [tb, ledOf, hbt]
      rw [e] at hab; cases hab
    refine wpAny_pure ?_
    have hs' := hs hbt
    subst hs'
    have hb := tb_below m hm i (by rw [← he.size]; omega)
    have e1 : (tb (ledOf w) m).place = (ofM m).toArray := rfl
    rw [e1, hb]
    have hi2 : i < (ofM m).length := by rw [← he.size]; exact hi
    have hv : setVals w d es ep = es := by unfold setVals; rw [if_neg (by rw [hbt]; exact Bool.false_ne_true)]
    rw [hv] at hQ
    rw [show es[i]? = some (es[i].1, es[i].2) by simp [hi], show (ofM m).toArray[i]? = some (ofM m)[i] by simp [hi2]]
    refine wpAny_pure (hQ es[i] _ (by simp [hi]) fun _ => ?_)
    simp only [slotAt]
    rw [List.getD_eq_getElem?_getD, List.getElem?_eq_getElem hi2]
    rfl
theorem set_stop {slot : Nat} {Q : Option (Value × Nat) → Shared → Prop} (hm : m < 64) (he : EsOf m es) (ho : s.heap.get? d = some (setObj es ep (tb (ledOf w) m)))
    (hs : w.params.followText "set-order" = false → slot = slotAt (ofM m) es.size)
    (hQ : Q none s) : wpAny (model prog w) A (setNext d slot es.size ep) Q E s := by
  have hf : (tb (ledOf w) m).fits es.size = true := by rw [he.size]; exact fits_led hm
  have hlen : (setVals w d es ep).size = es.size := by
    have := (setVals_perm w d es ep).length_eq
    simpa using this
  have hiv : (setVals w d es ep)[es.size]? = none := by simp [hlen]
  unfold setNext
  refine wpAny_bind (wpAny_setState_of ho rfl hf ?_)
  dsimp only
  refine wpAny_bind (by_text ?_)
  cases hbt : w.params.followText "set-order" with
  | true =>
    rw [if_pos rfl, if_neg (by simp)]
    refine wpAny_bind (walk_text hm he ho hbt ?_)
    refine wpAny_pure ?_
    rw [hiv]
    exact hQ
  | false =>
    rw [if_neg Bool.false_ne_true]
    refine wpAny_ite_split (fun hab => Bool.noConfusion (hab : false = true)) fun _ => ?_
    refine wpAny_bind ?_
    wp_delta
    refine wpAny_ite_split (fun hab => ?_) fun _ => ?_
    · have e : (tb (ledOf w) m).led = true := by simp [tb, ledOf, hbt]
      rw [e] at hab; cases hab
    refine wpAny_pure ?_
    have hs' := hs hbt
    subst hs'
    have hb := tb_below m hm es.size (by rw [← he.size]; omega)
    have e1 : (tb (ledOf w) m).place = (ofM m).toArray := rfl
    rw [e1, hb, show es[es.size]? = none by simp]
    exact wpAny_pure hQ
/-- a set's iterator at its turn i -/
def SetIterAt (w : World) (I d : Addr) (es : Array (Int × Value)) (ep m i : Nat) (h : Heap) : Prop :=
  (∃ o slot, h.get? I = some o ∧ o.cls = .type "set_iterator" ∧ o.data = setIt slot i d es.size ep ∧ (w.params.followText "set-order" = false → slot = slotAt (ofM m) i)) ∧ h.get? d = some (setObj es ep (tb (ledOf w) m))
theorem next_set {i : Nat} {Q : Option Value → Shared → Prop} (hm : m < 64) (he : EsOf m es) (hne : d ≠ I) (st : SetIterAt w I d es ep m i s.heap) (hi : i < es.size)
    (hQ : ∀ e h', (setVals w d es ep)[i]? = some e → SetIterAt w I d es ep m (i + 1) h' → Heap.SameBut I s.heap h' → Q (some e.2) { s with heap := h' }) :
    wpAny (model prog w) A (pyNext (.ref I)) Q E s := by
  obtain ⟨⟨o, slot, ho, hc, hd, hs⟩, hod⟩ := st
  have hf : (tb (ledOf w) m).fits es.size = true := by rw [he.size]; exact fits_led hm
  have hT : s.TypeIs (.ref I) "set_iterator" := ⟨o, ho, hc⟩
  unfold pyNext
  refine wpAny_bind (wpAny_attempt (wpAny_callSpecial?_slot (name := Str.ofString "__next__") hT slot_setit_next
    (wpAny_call_entry slot_setit_next hT entry_setit_next ?_ (args_setit_next_1 _))))
  unfold Builtin.«set_iterator.__next__»
  refine wpAny_bind (wpAny_of_eq (a := (Value.ref I, [])) rfl ?_)
  dsimp only
  refine wpAny_bind (wpAny_fieldsOf ho hd ?_)
  dsimp only [rawInt]
  refine wpAny_bind (wpAny_setEntries_of hod rfl hf ?_)
  rw [if_neg (by simp)]
  try dsimp only
  refine wpAny_bind (set_next (slot := slot) (i := i) hm he hod hs hi fun e slot' hv hs' => ?_)
  dsimp only
  refine wpAny_bind (wpAny_setField ho hd (by simp) ?_)
  have hd2 := Obj.data_mapFields hd (fun fs => fs.setIfInBounds 0 (rawInt (slot' : Int)))
  have ho2 := Heap.get?_update_self (Obj.mapFields (fun fs => fs.setIfInBounds 0 (rawInt (slot' : Int)))) ho (Obj.isFreed_of_fields hd2)
  refine wpAny_bind (wpAny_setField ho2 hd2 (by simp) ?_)
  have hd3 := Obj.data_mapFields hd2 (fun fs => fs.setIfInBounds 1 (rawInt ((i : Int) + 1)))
  have ho3 := Heap.get?_update_self (Obj.mapFields (fun fs => fs.setIfInBounds 1 (rawInt ((i : Int) + 1)))) ho2 (Obj.isFreed_of_fields hd3)
  have hv' : (setVals w d es ep)[i]? = some e := hv
  have sb := (Heap.SameBut.update s.heap I (Obj.mapFields (fun fs => fs.setIfInBounds 0 (rawInt (slot' : Int))))).trans (Heap.SameBut.update _ I (Obj.mapFields (fun fs => fs.setIfInBounds 1 (rawInt ((i : Int) + 1)))))
  refine wpAny_pure ⟨e.2, rfl, wpAny_pure (hQ e _ hv' ⟨⟨_, slot', ho3, (Obj.cls_mapFields ..).trans ((Obj.cls_mapFields ..).trans hc), ?_, hs'⟩, ?_⟩ sb)⟩
  · rw [hd3]; simp [setIt, rawInt]
  · exact (sb.2 d hne).trans hod
theorem end_set {Q : Option Value → Shared → Prop} (hh : A.handled = none) (hm : m < 64) (he : EsOf m es) (st : SetIterAt w I d es ep m es.size s.heap)
    (hQ : ∀ h', Heap.ExtBut I s.heap h' → Q none { s with heap := h' }) :
    wpAny (model prog w) A (pyNext (.ref I)) Q E s := by
  obtain ⟨⟨o, slot, ho, hc, hd, hs⟩, hod⟩ := st
  have hf : (tb (ledOf w) m).fits es.size = true := by rw [he.size]; exact fits_led hm
  have hT : s.TypeIs (.ref I) "set_iterator" := ⟨o, ho, hc⟩
  unfold pyNext
  refine wpAny_bind (wpAny_attempt (wpAny_callSpecial?_slot (name := Str.ofString "__next__") hT slot_setit_next
    (wpAny_call_entry slot_setit_next hT entry_setit_next ?_ (args_setit_next_1 _))))
  unfold Builtin.«set_iterator.__next__»
  refine wpAny_bind (wpAny_of_eq (a := (Value.ref I, [])) rfl ?_)
  try dsimp only
  refine wpAny_bind (wpAny_fieldsOf ho hd ?_)
  dsimp only [rawInt]
  refine wpAny_bind (wpAny_setEntries_of hod rfl hf ?_)
  rw [if_neg (by simp)]
  try dsimp only
  refine wpAny_bind (set_stop (slot := slot) hm he hod hs ?_)
  dsimp only
  refine wpAny_bind (wpAny_setField ho hd (by simp) ?_)
  refine wpAny_bind ?_
  simp only [newExc, newTuple]
  refine wpAny_bind (wpAny_newObj_type ?_ (by size_fits))
  refine wpAny_bind (m := firstArgMember _ _) (wpAny_of_eq (a := Value.none) (by first | rfl | (simp only [firstArgMember]; rfl)) ?_)
  refine wpAny_newObj_type ?_ (by size_fits)
  simp only [raiseNew]
  refine wpAny_bind (wpAny_handled ?_)
  first | rw [show A.in1.handled = none from hh] | rw [hh]
  refine wpAny_bind (wpAny_pure (wpAny_throw ?_))
  refine wpAny_bind (wpAny_isInstance (T := "StopIteration") (b := true) ⟨_, Heap.get?_push_size _ rfl, rfl⟩ isSubtype_stop ?_)
  refine wpAny_pure (hQ _ fun c oc hn e => ?_)
  exact Heap.get?_push_of_some _ (Heap.get?_push_of_some _ ((Heap.get?_update_other _ _ (fun q => hn q.symm)).trans e))
theorem self_set {i : Nat} {Q : Value → Shared → Prop} (st : SetIterAt w I d es ep m i s.heap) (h : Q (.ref I) s) : wpAny (model prog w) A (pyIter (.ref I)) Q E s := by
  obtain ⟨⟨o, slot, ho, hc, hd, hs⟩, hod⟩ := st
  have hT : s.TypeIs (.ref I) "set_iterator" := ⟨o, ho, hc⟩
  refine wpAny_pyIter_slot hT slot_setit_iter (wpAny_call_entry slot_setit_iter hT entry_setit_iter ?_ (args_setit_iter_1 _))
  show wpAny _ _ (ret (.ref I)) _ _ s
  exact wpAny_pure ⟨_, rfl, "set_iterator", _, hT, slot_setit_next.lookup, h⟩
theorem walks_set (hh : A.handled = none) (hm : m < 64) (he : EsOf m es) (hne : d ≠ I) :
    Walks prog w A I [I, d] [I] es.size (fun i v => ∃ e, (setVals w d es ep)[i]? = some e ∧ v = e.2) (fun i h => SetIterAt w I d es ep m i h) where
  sub := fun b hb => by simp at hb; simp [hb]
  frame := fun _ _ _ st hk => ⟨let ⟨⟨o, sl, ho, r⟩, _⟩ := st; ⟨o, sl, hk I (by simp) o ho, r⟩, hk d (by simp) _ st.2⟩
  item := fun i s Q E hi st hQ => by
    refine next_set hm he hne st hi fun e h' hv st' hs' => ?_
    exact hQ e.2 h' s.toks ⟨e, hv, rfl⟩ st' fun b o hb e => hs'.extBut b o (fun h => hb (by simp [h])) e
  done := fun s Q E st hQ => end_set hh hm he st fun h' he' => hQ h' s.toks fun b o hb e => he' b o (fun h => hb (by simp [h])) e
  self := fun _ _ _ _ st hQ => self_set st hQ
theorem hint_set {Q : Bool → Shared → Prop} (hT : s.TypeIs (.ref d) "set") (h : Q false s) : wpAny (model prog w) A (Builtin.List.listLengthHint (.ref d)) Q E s := by
  unfold Builtin.List.listLengthHint
  refine wpAny_bind (wpAny_specialOf hT F.slot_set_len.lookup ?_)
  generalize hid : ("set.__len__" : String) = id0
  wp_delta
  rw [show splitId id0 = some ("set", "__len__") from by subst hid; decide +kernel]
  subst hid
  refine wpAny_bind (wpAny_isInstance (T := "set") (b := true) hT sub_set_self ?_)
  refine wpAny_ite_split (fun hab => absurd hab (by decide)) (fun _ => ?_)
  refine wpAny_ite_split (fun _ => ?_) (fun hab => absurd (by decide +kernel) hab)
  refine wpAny_bind (wpAny_typeOf hT ?_)
  exact wpAny_pure h
theorem src_set (hm : m < 64) (he : EsOf m es) : KdlSrc prog w "set" d d es.size (fun i v => ∃ e, (setVals w d es ep)[i]? = some e ∧ v = e.2) (fun h => h.get? d = some (setObj es ep (tb (ledOf w) m))) where
  type := fun _ ho => ⟨_, ho, rfl⟩
  there := fun _ ho => ⟨Heap.lt_size ho, Heap.lt_size ho⟩
  keep := fun _ _ ho hk => hk d (.inl rfl) _ ho
  notList := by decide
  notTuple := by decide
  hint := fun _ _ _ _ ho hq => hint_set ⟨_, ho, rfl⟩ hq
  iter := fun _ s hh ho => ⟨_, _, (fun _ _ hq => iter_set hm he ho hq), walks_set hh hm he (Nat.ne_of_lt (Heap.lt_size ho)), ⟨⟨_, 0, Heap.get?_push_size _ rfl, rfl, rfl, fun _ => rfl⟩, Heap.get?_push_of_some _ ho⟩⟩
end
end
section
section
variable {prog : Program} {w : World} {A : Around} {E : Value → Shared → Prop} {s : Shared} {g : Heap} {L d l : Addr} {m : Str → Option Value} {news : List (Addr × Obj)} {o : Obj} {vs : List Value} {ns : List Int} {n k : Nat}
theorem set_of {Q : Value → Shared → Prop} (hh : A.handled = none) (F : Fr g L s.heap m) (N : News g L s.heap news) (hl : (l, PySem.W.listOf vs.toArray n) ∈ news) (hi : IntsAre vs ns) (h6 : ∀ n ∈ ns, 0 ≤ n ∧ n < 6)
    (h : ∀ D h' tk o k, Fr g L h' m → News g L h' ((D, o) :: news) → (∀ p ∈ news, p.1 < D) → SetI w o k → (∀ j : Nat, k.testBit j = true ↔ (j : Int) ∈ ns) → Q (.ref D) { s with heap := h', toks := tk }) : wpAny (model prog w) A (call (.type "set") [.ref l]) Q E s := by
  refine call_set_small hh ⟨_, (N _ hl).1, rfl, n, rfl⟩ hi h6 fun h' tk o k ho hS hb hk => ?_
  exact h _ h' tk o k (F.keeps hk) (news_pushed F N hk ho rfl) (fun q hq => Heap.lt_size (N q hq).1) hS hb
theorem sorted_set {Q : Value → Shared → Prop} (hh : A.handled = none) (F : Fr g L s.heap m) (N : News g L s.heap news) (hp : (d, o) ∈ news) (hs : SetI w o k) (hb : ∀ j : Nat, k.testBit j = true ↔ (j : Int) ∈ ns) (h6 : ∀ n ∈ ns, 0 ≤ n ∧ n < 6)
    (h : ∀ D vs' ns' c h' tk, Fr g L h' m → News g L h' ((D, PySem.W.listOf (List.toArray vs') c) :: news) → (∀ p ∈ news, p.1 < D) → IntsAre vs' ns' → ns'.Nodup → (∀ j, j ∈ ns' ↔ j ∈ ns) → ns'.Pairwise (· ≤ ·) → Q (.ref D) { s with heap := h', toks := tk }) :
    wpAny (model prog w) A (call (.builtin "sorted") [.ref d]) Q E s := by
  obtain ⟨hm, es, ep, he, rfl⟩ := hs
  have hsz : es.size ≤ 6 := by rw [he.size]; exact ofM_le k
  have hlen : (setVals w d es ep).toList.length = es.size := by
    have := (setVals_perm w d es ep).length_eq
    simpa using this
  -- the ints in their order
  have hvp := setVals_perm w d es ep
  have h1 : (es.toList.map (·.1)) = (ofM k).map (fun (i : Nat) => (i : Int)) := by
    obtain ⟨l, h2, rfl⟩ := he
    rw [← h2]; simp [el]
  have h2 : ∀ e ∈ es.toList, ∃ t, e.2 = .int e.1 t := by
    obtain ⟨l, h2, rfl⟩ := he
    intro e hm'
    obtain ⟨p, hp, rfl⟩ := List.mem_map.mp (show e ∈ l.map el from hm')
    exact ⟨p.2, rfl⟩
  have hperm := hvp.map (·.1)
  rw [h1] at hperm
  have hnd : ((ofM k).map (fun (i : Nat) => (i : Int))).Nodup := List.Pairwise.map _ (fun a b h e => h (by have e' : (a : Int) = (b : Int) := e; omega)) (ofM_nodup k)
  refine kdu_sorted (src_set hm he) hh F N (N _ hp).1 (by rw [sizeLine_eq]; omega) fun D h' tk vs F' N' l1 hl hv => ?_
  refine sort_led (ns := (setVals w d es ep).toList.map (·.1)) F' N' (fun p hp => Nat.ne_of_lt (l1 p hp)) (ints_of_keys (by simpa using hl.trans hlen.symm) fun j v e => ?_) (by omega) fun vs' ns' c h'' F'' N'' hI hP hS => ?_
  · obtain ⟨x, e1, rfl⟩ := hv j v e
    have e1' : (setVals w d es ep).toList[j]? = some x := by simpa using e1
    obtain ⟨t, ht⟩ := h2 x (hvp.mem_iff.mp (List.mem_of_getElem? e1'))
    exact ⟨x.1, t, by simp [e1'], ht⟩
  · have hq := hP.trans hperm
    refine h D vs' ns' c h'' tk F'' N'' l1 hI (hq.nodup_iff.mpr hnd) (fun j => ?_) hS
    rw [hq.mem_iff, List.mem_map]
    constructor
    · rintro ⟨a, ha, rfl⟩
      exact (hb a).mp ((mem_ofM k hm a (ofM_lt k ha)).mp ha)
    · intro hj
      have := h6 j hj
      refine ⟨j.toNat, (mem_ofM k hm j.toNat (by omega)).mpr ((hb _).mpr ?_), Int.toNat_of_nonneg this.1⟩
      rw [Int.toNat_of_nonneg this.1]; exact hj
end
end
section
/-- a stop at a compare -/
def AtCmp (M : Model) (A : Around) (op : CmpOp) (a b : Value) (Q E : Value → Shared → Prop) (s : Shared) : Prop := wpAny M A (compareOp op a b) Q E s
theorem at_cmp {M : Model} {A : Around} {op : CmpOp} {a b : Value} {Q E : Value → Shared → Prop} {s : Shared} (h : AtCmp M A op a b Q E s) : wpAny M A (compareOp op a b) Q E s := h
section
variable {prog : Program} {w : World} {A : Around} {E : Value → Shared → Prop} {s : Shared} {g : Heap} {L a b : Addr} {m : Str → Option Value} {news : List (Addr × Obj)} {vs us : List Value} {ns ms : List Int} {n k : Nat} {Q : Value → Shared → Prop}
theorem ne_lists (N : News g L s.heap news) (ha : (a, PySem.W.listOf (List.toArray vs) n) ∈ news) (hb : (b, PySem.W.listOf (List.toArray us) k) ∈ news) (hi : IntsAre vs ns) (hj : IntsAre us ms) (e : ns = ms) (hu : A.units + 64 < cLine)
    (h : Q (.bool false) s) : AtCmp (model prog w) A .NotEq (.ref a) (.ref b) Q E s := by
  subst e
  exact ke_ne_ints ⟨_, (N _ ha).1, rfl, n, rfl⟩ ⟨_, (N _ hb).1, rfl, k, rfl⟩ hi hj hu (by simpa using h)
theorem eq_lists (N : News g L s.heap news) (ha : (a, PySem.W.listOf (List.toArray vs) n) ∈ news) (hb : (b, PySem.W.listOf (List.toArray us) k) ∈ news) (hi : IntsAre vs ns) (hj : IntsAre us ms) (hu : A.units + 64 < cLine)
    (h : Q (.bool (decide (ns = ms))) s) : wpAny (model prog w) A (compareOp .Eq (.ref a) (.ref b)) Q E s :=
  ke_eq_ints ⟨_, (N _ ha).1, rfl, n, rfl⟩ ⟨_, (N _ hb).1, rfl, k, rfl⟩ hi hj hu h
end
theorem eq_listsB {prog : Program} {w : World} {A : Around} {E : Value → Shared → Prop} {s : Shared} {g : Heap} {L a b : Addr} {news : List (Addr × Obj)} {vs us : List Value} {ns ms : List Int} {n k : Nat} {Q : Value → Shared → Prop} {c : Bool} (N : News g L s.heap news) (ha : (a, PySem.W.listOf (List.toArray vs) n) ∈ news) (hb : (b, PySem.W.listOf (List.toArray us) k) ∈ news) (hi : IntsAre vs ns) (hj : IntsAre us ms) (hu : A.units + 64 < cLine)
    (hc : ns = ms ↔ c = true) (h : Q (.bool c) s) : AtCmp (model prog w) A .Eq (.ref a) (.ref b) Q E s := by
  refine eq_lists N ha hb hi hj hu ?_
  have e : decide (ns = ms) = c := by cases c <;> simp_all
  rw [e]; exact h
theorem leaves_iff (t : T) : t.leaves = [] ↔ t.ground = true := by rw [ground_leaves]; simp
theorem mem_of_lookup {α : Type} : ∀ {l : List (Int × α)} {k : Int} {a : α}, l.lookup k = some a → (k, a) ∈ l
  | (k', b) :: r, k, a, h => by
    rw [lookup_cons'] at h
    by_cases e : k' = k
    · rw [if_pos e] at h; cases h; subst e; exact .head _
    · rw [if_neg e] at h; exact .tail _ (mem_of_lookup h)
/-- both sorted lists of the names are one -/
theorem names_same {c : List (Int × Nat)} {l a b : List Int} (hc : c = tally [] l) (h1 : a.Perm (c.map (·.1))) (s1 : a.Pairwise (· ≤ ·)) (h2 : b.Nodup) (m2 : ∀ j, j ∈ b ↔ j ∈ l) (s2 : b.Pairwise (· ≤ ·)) : a = b := by
  subst hc
  have hn := tally_nodup [] l (by simp)
  refine lks_uniq (h1.trans ((List.perm_ext_iff_of_nodup hn h2).2 fun j => ?_)) s1 s2
  rw [tally_keys, m2]
  simp
end
section
theorem post_true (l : List Int) : PySem.Challenge.rw_ok0006_01.row.claim.post [ofPy (PyData.list (l.map PyData.int))] (WData.bool true) [ofPy (PyData.list (l.map PyData.int))] = true := by
  refine' postW_of ?s ?v ?e
  case s => wrow_shape
  case v => wtm_val
  case e => w_fin
end
section
local macro_rules | `(tactic| walk_at "MY one") => `(tactic| (first | (k_unfold; (try dsimp only)) | with_reducible refine at_while ?_ | (with_reducible refine at_for ?_) | (with_reducible refine at_comp ?_) | walk1 | (dsimp only; walk1) | (dsimp only; k_unfold; dsimp only) | skip))
local macro_rules | `(tactic| walk_at "compareOp NotEq") => `(tactic| first | (k_dflt (refine' ne_tin ?a ?b ?h ?u ?_; (case a => assumption); (case b => assumption); (case h => omega); (case u => ke_room))) | ((with_reducible show wpAny _ _ (compareOp CmpOp.NotEq (Value.ref _) (Value.ref _)) _ _ _); refine at_cmp ?_))
local macro_rules | `(tactic| walk_at "compareOp NotEq ref ref") => `(tactic| ((with_reducible show wpAny _ _ (compareOp CmpOp.NotEq (Value.ref _) (Value.ref _)) _ _ _); refine at_cmp ?_))
local macro_rules | `(tactic| walk_at "compareOp In int ref") => `(tactic| (k_dflt (refine kda_in (knd := PySem.intKind _ _) (by k_asm) (by k_mem) (by assumption) (by assumption) (intKind_is _ _ _ _) _ (by assumption) ?_)))
local macro_rules | `(tactic| walk_at "call builtin:list.count") => `(tactic| (k_dflt (refine count_list_ints (News.isList (by k_asm) (by k_mem)) (by assumption) ?_)))
local macro_rules | `(tactic| walk_at "compareOp Eq") => `(tactic| (k_dflt (refine' eq_tin ?a ?b ?h ?u ?_; (case a => with_reducible assumption); (case b => with_reducible assumption); (case h => omega); (case u => ke_room))))
local macro_rules | `(tactic| walk_at "compareOp Eq ref ref") => `(tactic| ((with_reducible show wpAny _ _ (compareOp CmpOp.Eq (Value.ref _) (Value.ref _)) _ _ _); refine at_cmp ?_))
local macro_rules | `(tactic| walk_at "call builtin:sorted") => `(tactic| first
  | (k_dflt (refine' sorted_dict rfl ?F ?N ?p ?d ?lo ?n ?_; (case F => k_asm); (case N => k_asm); (case p => k_mem); (case d => assumption); (case lo => assumption); (case n => omega)); intro D' vs' ns' c' h' tk' F' N' l1 hI' hp' hs'; (try k_lt l1))
  | (k_dflt (refine' sorted_set rfl ?F ?N ?p ?d ?b ?z ?_; (case F => k_asm); (case N => k_asm); (case p => k_mem); (case d => assumption); (case b => assumption); (case z => assumption)); intro D' vs' ns' c' h' tk' F' N' l1 hI' hd' hm' hs'; (try k_lt l1)))
local macro_rules | `(tactic| walk_at "call type:set") => `(tactic| (k_dflt (refine' set_of rfl ?F ?N ?p ?d ?n ?_; (case F => k_asm); (case N => k_asm); (case p => k_mem); (case d => assumption); (case n => assumption)); intro D' h' tk' o' q' F' N' l1 hs' hb'; (try k_lt l1)))
local macro_rules | `(tactic| walk_at "call type:dict") => `(tactic| (k_dflt (refine' dict_of ?F ?N (Top.nolimit (by k_asm)) ?p ?d ?lo ?z ?_; (case F => k_asm); (case N => k_asm); (case p => k_mem); (case d => assumption); (case lo => assumption); (case z => omega)); intro D' h' o' F' N' l1 hd' lo'; have l2 := l1; (try k_lt l1)))
local macro_rules | `(tactic| walk_at "setItem ref int") => `(tactic| (k_dflt (refine' kda_set (knd := PySem.intKind _ _) ?F ?N ?U ?d (intKind_is _ _ _ _) ?z ?_; (case F => k_asm); (case N => k_asm); (case U => k_updF); (case d => k_asm); (case z => rw [sizeLine_eq]; omega)); intro h' o' F' N' hd'; (try dsimp only at N')))
local macro_rules | `(tactic| walk_at "subscriptTail") => `(tactic| ((with_reducible show wpAny _ _ (subscriptTail _ _ (Value.ref _) (Value.int _ _)) _ _ _); k_dflt (refine kda_item (knd := PySem.intKind _ _) (by k_asm) (by k_mem) (by assumption) (intKind_is _ _ _ _) (by assumption) ?_)))
local macro_rules | `(tactic| walk_at "MY room") => `(tactic| first | decide | (show 301 + 1 + _ < 900; omega) | (show 4 + 3 + 8 * _ < 9000; omega))
local macro_rules | `(tactic| walk_at "MY mem") => `(tactic| repeat' (first | with_reducible assumption | (with_reducible exact List.mem_append_left _ (by assumption)) | (with_reducible refine List.mem_append_right _ ?_) | (with_reducible refine List.mem_cons_of_mem _ ?_)))
theorem law_gen {α : Type} {M : Model} {A : Around} {p : Sem α} {Q : α → Shared → Prop} {E : Value → Shared → Prop} {s : Shared} (h : ∀ Q0 : α → Shared → Prop, (∀ f s', Q f s' → Q0 f s') → wpAny M A p Q0 (fun _ _ => False) s) : wpAny M A p Q E s :=
  wpAny_mono (h Q fun _ _ h => h) (fun _ _ h => h) fun _ _ h => h.elim
theorem law_ends : PySem.Challenge.rw_ok0006_01.Holds := hd (by
  k_go0
  all_goals try k_fold
  refine law_gen ?_
  intro Q0 hQ0
  all_goals walk_at "MY steps"
  (rename Shared => s1); (rename World => w)
  (rename Fr _ _ _ _ => F9); (rename News _ _ _ _ => N9); (rename IntsAre _ _ => hI)
  (rename ¬ ((_ : Int) < _) => hlen)
  (rename Heap.IsList (ghostOf _ _) _ _ => hL)
  have hlen' : ∀ n : Nat, ¬ ((63 : Nat) : Int) < (n : Int) → n ≤ 63 := fun n h => by omega
  refine AtCall.does (cells_spec _ _ _ _ (hL.at fun o e => F9.keep _ _ e) hI (hlen' _ hlen)) (by k_asm) F9 (by k_asm) (by k_asm) rfl rfl News.nil (by walk_at "MY room") (by walk_at "MY room") ?_
  intro r h2 tk2 K2 P2
  obtain ⟨k, o, cells, rfl, hn, ho, hk⟩ := P2
  have ne := new_ne N9 hn; simp only [AllNe, and_true] at ne
  replace N9 := news_add F9 N9 K2 hn ho
  replace F9 := fr_keep F9 K2
  clear hL hI hlen hlen'
  walk_at "MY steps"
  (rename Fr _ _ _ _ => F9); (rename News _ _ _ _ => N9)
  refine AtCall.does (tree_spec k cells 4 _ _ _ 0 _ (by decide) hk) (by k_asm) F9 (by k_asm) (by k_asm) rfl rfl (news_one N9 (by k_mem)) (by walk_at "MY room") (by walk_at "MY room") ?_
  intro rt h2 tk2 K2 P2
  obtain ⟨t, c1, o1, ⟨tlt, att, hft, hpt⟩, hht, hvt, ho1, hk1⟩ := P2
  have nkt := tl_ne (a := k) N9 (by k_mem) hft; have n58t := tl_ne (a := 58) N9 (by k_mem) hft
  have NT := tl_news F9 hft
  have AU := after_upd (k := k) (o' := o1) F9 N9 (by k_upd) K2 ho1
  clear F9 N9; obtain ⟨F9, N9⟩ := AU
  replace N9 := nApp N9 NT; simp only [List.cons_append, List.nil_append] at N9
  clear NT
  dsimp only
  walk_at "MY steps"
  (rename Fr _ _ _ _ => F9); (rename News _ _ _ _ => N9)
  refine AtCall.does (table_spec k cells _ _ _ _ hk1) (by k_asm) F9 (by k_asm) (by k_asm) rfl rfl (news_one N9 (by k_mem)) (by walk_at "MY room") (by walk_at "MY room") ?_
  intro r h2 tk2 K2 P2
  obtain ⟨d1, od1, kvs1, tab1, tl1, c1', o1', rfl, hnd1, hd1, HD1, LO1, at1, hf1, hR1, ⟨hT1, htl1⟩, ho1, hk2⟩ := P2
  have nk1 := tl_ne (a := k) N9 (by k_mem) hf1; have n581 := tl_ne (a := 58) N9 (by k_mem) hf1
  have ne1 := new_ne N9 hnd1; simp only [AllNe, and_true] at ne1
  have NT := tl_news F9 hf1
  have ND := tl_news F9 (tl := [(d1, od1)]) (by intro p hp; rw [List.mem_singleton.mp hp]; exact ⟨hnd1, hd1⟩)
  have AU := after_upd (k := k) (o' := o1') F9 N9 (by k_upd) K2 ho1
  clear F9 N9; obtain ⟨F9, N9⟩ := AU
  replace N9 := nApp ND (nApp N9 NT); simp only [List.cons_append, List.nil_append, List.append_assoc] at N9
  clear NT ND
  dsimp only
  walk_at "MY steps"
  (rename Fr _ _ _ _ => F9); (rename News _ _ _ _ => N9)
  refine AtCall.does (table_spec k cells _ _ _ _ hk2) (by k_asm) F9 (by k_asm) (by k_asm) rfl rfl (news_one N9 (by k_mem)) (by walk_at "MY room") (by walk_at "MY room") ?_
  intro r h2 tk2 K2 P2
  obtain ⟨d2, od2, kvs2, tab2, tl2, c2', o2', rfl, hnd2, hd2, HD2, LO2, at2, hf2, hR2, ⟨hT2, htl2⟩, ho2, hk3⟩ := P2
  have nk2 := tl_ne (a := k) N9 (by k_mem) hf2; have n582 := tl_ne (a := 58) N9 (by k_mem) hf2
  have ne2 := new_ne N9 hnd2; simp only [AllNe, and_true] at ne2
  have NT := tl_news F9 hf2
  have ND := tl_news F9 (tl := [(d2, od2)]) (by intro p hp; rw [List.mem_singleton.mp hp]; exact ⟨hnd2, hd2⟩)
  have AU := after_upd (k := k) (o' := o2') F9 N9 (by k_upd) K2 ho2
  clear F9 N9; obtain ⟨F9, N9⟩ := AU
  replace N9 := nApp ND (nApp N9 NT); simp only [List.cons_append, List.nil_append, List.append_assoc] at N9
  clear NT ND
  dsimp only
  walk_at "MY steps"
  (rename Fr _ _ _ _ => F9); (rename News _ _ _ _ => N9)
  refine AtCall.does (subst1_spec d1 tab1 t _ rt (hpt _ fun p hp => (N9 p (by walk_at "MY mem")).1) (by omega) ⟨kvs1, Heap.dictOf_iff.mpr ⟨od1, (N9 (d1, od1) (by k_mem)).1, HD1⟩, LO1, hR1 _ fun p hp => (N9 p (by walk_at "MY mem")).1⟩ (codeHd.keeps F9.keep)) (by k_asm) F9 (by k_asm) (by k_asm) rfl rfl (news_one N9 (by k_mem)) (by walk_at "MY room") (by walk_at "MY room") ?_
  intro rm h2 tk2 K2 P2
  obtain ⟨hm, c', oc, h58', hnc, hoc, hco⟩ := P2
  have nec := new_ne N9 hnc; simp only [AllNe, and_true] at nec
  have NC := tl_news F9 (tl := [(c', oc)]) (by intro p hp; rw [List.mem_singleton.mp hp]; exact ⟨hnc, hoc⟩)
  have AU := after_upd (k := 58) (o' := tabObj #[rawInt 78, rawInt 4, .ref c']) F9 N9 (by k_upd) K2 h58'
  clear F9 N9; obtain ⟨F9, N9⟩ := AU
  obtain ⟨tlm, NM, atm, hpm⟩ := TIn.persist F9 hm
  have n58m := AllTup.ne (k := 58) atm NM N9 (by k_mem) (by simp)
  replace N9 := nApp NC (nApp N9 NM); simp only [List.cons_append, List.nil_append, List.append_assoc] at N9
  clear NC NM hm
  have hh1 : (t.subst tab1).ht ≤ 8 := Nat.le_trans (ht_subst tab1 3 (fun p hp => (hT1.terms p hp).1) t) (by omega)
  dsimp only
  walk_at "MY steps"
  (rename Fr _ _ _ _ => F9); (rename News _ _ _ _ => N9)
  refine AtCall.does (put_spec d1 tab1 t _ rt (hpt _ fun p hp => (N9 p (by walk_at "MY mem")).1) ⟨kvs1, Heap.dictOf_iff.mpr ⟨od1, (N9 (d1, od1) (by k_mem)).1, HD1⟩, LO1, hR1 _ fun p hp => (N9 p (by walk_at "MY mem")).1⟩) (by k_asm) F9 (by k_asm) (by k_asm) rfl rfl News.nil (by walk_at "MY room") (by walk_at "MY room") ?_
  intro r h2 tk2 K2 P2
  replace F9 := fr_keep F9 K2; replace N9 := news_keep N9 K2
  have em := hpm _ F9.keep (nsub N9 (fun p hp => by walk_at "MY mem"))
  have hkv1 := (hR1 _ (fun p hp => (N9 p (by walk_at "MY mem")).1)).length
  have hkv2 := (hR2 _ (fun p hp => (N9 p (by walk_at "MY mem")).1)).length
  dsimp only
  walk_at "MY steps"
  (rename (∀ p ∈ (c', oc) :: _, p.1 < _) => hDl)
  refine AtFor.turns PassesOwn.never ?_
  walk_at "MY steps"
  (rename Fr _ _ _ _ => F9); (rename News _ _ _ _ => N9)
  refine dict_for F9 N9 (by k_mem) HD1 LO1 ?_
  intro I h3 oI ep F3 N3 lI hi ha W turn
  have key : ∀ (D : Addr) (LO3 : (D == sysModules) = false) (hDl : ∀ p ∈ (c', oc) :: (d2, od2) :: (d1, od1) :: (k, o2') :: (58, tabObj #[rawInt 78, rawInt 4, .ref c']) :: (tlt ++ (tl1 ++ (tl2 ++ tlm))), p.1 < D) (hDI : @LT.lt Nat _ D I) (hIl : ∀ p ∈ (c', oc) :: (d2, od2) :: (d1, od1) :: (k, o2') :: (58, tabObj #[rawInt 78, rawInt 4, .ref c']) :: (tlt ++ (tl1 ++ (tl2 ++ tlm))), p.1 < I)
      (j i : Nat) (h : Heap) (tk : Nat) (u : Str → Option Value) (oI oD : Obj) (kvs3 : List (Int × Value)) (tl3 : List (Addr × Obj)), j + i = tab1.length →
      Fr (ghostOf s1.heap [(62, 58)]) s1.heap.objs.size h (fun y => if y = Str.ofString "tree" then some rt else if y = Str.ofString "one" then some (.ref d1) else if y = Str.ofString "two" then some (.ref d2) else if y = Str.ofString "made" then some rm else if y = Str.ofString "both_ways" then some (.ref D) else u y) →
      News (ghostOf s1.heap [(62, 58)]) s1.heap.objs.size h ((I, oI) :: (D, oD) :: (c', oc) :: (d2, od2) :: (d1, od1) :: (k, o2') :: (58, tabObj #[rawInt 78, rawInt 4, .ref c']) :: (tlt ++ (tl1 ++ (tl2 ++ (tlm ++ tl3))))) → (∀ p ∈ tl3, p.1 ≠ I) → (∀ p ∈ tl3, p.1 ≠ D) → (∀ p ∈ tl3, p.1 ≠ 58) → AllTup tl3 →
      KdkIter oI d1 i kvs1.length ep → oD.IsDictOf (intKind PySem.Challenge.rw_ok0006_01.row.prog w) kvs3 →
      (∀ h'', Keep (ghostOf s1.heap [(62, 58)]) h'' → News (ghostOf s1.heap [(62, 58)]) s1.heap.objs.size h'' (tl2 ++ tl3) → KR (TIn h'') kvs3 ((tab1.take i).foldl (fun acc p => put acc p.1 (p.2.subst tab2)) tab2)) → kvs3.length ≤ 6 + i →
      W { heap := h, gens := s1.gens, drawn := s1.drawn, toks := tk, os := s1.os } := by
    intro D LO3 hDl hDI hIl j
    have hD' := allLt_of hDl; simp only [AllLt, and_true] at hD'
    have hI' := allLt_of hIl; simp only [AllLt, and_true] at hI'
    have ntI : ∀ p ∈ tlt, p.1 ≠ I := fun p hp => Nat.ne_of_lt (hIl p (by walk_at "MY mem"))
    have n1I : ∀ p ∈ tl1, p.1 ≠ I := fun p hp => Nat.ne_of_lt (hIl p (by walk_at "MY mem"))
    have n2I : ∀ p ∈ tl2, p.1 ≠ I := fun p hp => Nat.ne_of_lt (hIl p (by walk_at "MY mem"))
    have nmI : ∀ p ∈ tlm, p.1 ≠ I := fun p hp => Nat.ne_of_lt (hIl p (by walk_at "MY mem"))
    have ntD : ∀ p ∈ tlt, p.1 ≠ D := fun p hp => Nat.ne_of_lt (hDl p (by walk_at "MY mem"))
    have n1D : ∀ p ∈ tl1, p.1 ≠ D := fun p hp => Nat.ne_of_lt (hDl p (by walk_at "MY mem"))
    have n2D : ∀ p ∈ tl2, p.1 ≠ D := fun p hp => Nat.ne_of_lt (hDl p (by walk_at "MY mem"))
    have nmD : ∀ p ∈ tlm, p.1 ≠ D := fun p hp => Nat.ne_of_lt (hDl p (by walk_at "MY mem"))
    induction j with
    | zero =>
      intro i h tk u oI oD kvs3 tl3 hj F N nI nD n58 at3 hi hd3 hR3 hl3
      refine turn _ ?_
      refine dict_end rfl F N (by k_all) hi ha (by k_mem) (by omega) ?_
      intro h4 F4 N4
      have hi6 : i = tab1.length := by omega
      subst hi6
      rw [List.take_length] at hR3
      have hsz : t.sz ≤ 31 := by
        have h1 := sz_ht t
        have h2 : 2 ^ t.ht ≤ 2 ^ 5 := Nat.pow_le_pow_right (by decide) hht
        omega
      have n58' : @Ne Nat c' 58 := by k_ne
      walk_at "MY steps"
      (rename Fr _ _ _ _ => F9); (rename News _ _ _ _ => N9)
      refine AtCall.does (subst2_spec d2 c' oc tab2 (t.subst tab1) _ rm (hpm _ F9.keep (nsub N9 (fun p hp => by walk_at "MY mem"))) (by omega) ⟨kvs2, Heap.dictOf_iff.mpr ⟨od2, (N9 (d2, od2) (by k_mem)).1, HD2⟩, LO2, hR2 _ fun p hp => (N9 p (by walk_at "MY mem")).1⟩ (codeHd.keeps F9.keep) (N9 (c', oc) (by k_mem)).1 hco n58') (by k_asm) F9 (by k_asm) (by k_asm) rfl rfl (news_one N9 (by k_mem)) (by walk_at "MY room") (by walk_at "MY room") ?_
      intro ra h2 tk2 K2 P2
      obtain ⟨hma, h58a⟩ := P2
      have AU := after_upd (k := 58) (o' := tabObj #[rawInt 78, rawInt 4, .ref c']) F9 N9 (by k_upd) K2 h58a
      clear F9 N9; obtain ⟨F9, N9⟩ := AU
      obtain ⟨tla, NA, ata, hpa⟩ := TIn.persist F9 hma
      have n58a := AllTup.ne (k := 58) ata NA N9 (by k_mem) (by simp)
      replace N9 := nApp N9 NA; simp only [List.cons_append, List.nil_append, List.append_assoc] at N9
      clear NA hma
      dsimp only
      walk_at "MY steps"
      (rename Fr _ _ _ _ => F9); (rename News _ _ _ _ => N9)
      refine AtCall.does (subst2_spec D c' oc (both tab1 tab2) t _ rt (hpt _ fun p hp => (N9 p (by walk_at "MY mem")).1) (by omega) ⟨kvs3, Heap.dictOf_iff.mpr ⟨oD, (N9 (D, oD) (by k_mem)).1, hd3⟩, LO3, hR3 _ F9.keep (nsub N9 (fun p hp => by rcases List.mem_append.mp hp with hp | hp <;> walk_at "MY mem"))⟩ (codeHd.keeps F9.keep) (N9 (c', oc) (by k_mem)).1 hco n58') (by k_asm) F9 (by k_asm) (by k_asm) rfl rfl (news_one N9 (by k_mem)) (by walk_at "MY room") (by walk_at "MY room") ?_
      intro rb h2 tk2 K2 P2
      obtain ⟨hmb, h58b⟩ := P2
      have AU := after_upd (k := 58) (o' := tabObj #[rawInt 78, rawInt 4, .ref c']) F9 N9 (by k_upd) K2 h58b
      clear F9 N9; obtain ⟨F9, N9⟩ := AU
      have ema := hpa _ F9.keep (nsub N9 (fun p hp => by walk_at "MY mem"))
      rw [← subst_both tab1 tab2 hT1.apart t] at hmb
      have hh2 : ((t.subst tab1).subst tab2).ht ≤ 11 := Nat.le_trans (ht_subst tab2 3 (fun p hp => (hT2.terms p hp).1) _) (by omega)
      dsimp only
      walk_at "MY steps"
      (rename Fr _ _ _ _ => F9); (rename News _ _ _ _ => N9)
      refine AtCall.does (leaves_spec t _ rt (hpt _ fun p hp => (N9 p (by walk_at "MY mem")).1) (by omega)) (by k_asm) F9 (by k_asm) (by k_asm) rfl rfl News.nil (by walk_at "MY room") (by walk_at "MY room") ?_
      intro r h2 tk2 K2 P2
      obtain ⟨lv, lvs, lvn, rfl, hnl, hol, hil⟩ := P2
      have nel := new_ne N9 hnl; simp only [AllNe, and_true] at nel
      replace N9 := news_add F9 N9 K2 hnl hol
      replace F9 := fr_keep F9 K2
      walk_at "MY steps"
      (rename Fr _ _ _ _ => F9); (rename News _ _ _ _ => N9)
      refine AtCall.does (occ_spec t _ rt (hpt _ fun p hp => (N9 p (by walk_at "MY mem")).1) (by omega)) (by k_asm) F9 (by k_asm) (by k_asm) rfl rfl News.nil (by walk_at "MY room") (by walk_at "MY room") ?_
      intro r h2 tk2 K2 P2
      obtain ⟨dc, odc, kvsc, rfl, hnd, hodc, hdc, LOc, hRc⟩ := P2
      have nedc := new_ne N9 hnd; simp only [AllNe, and_true] at nedc
      replace N9 := news_add F9 N9 K2 hnd hodc
      replace F9 := fr_keep F9 K2
      have hlc := hRc.length
      have hlt := tally_length [] t.leaves
      have hll := t.leaves_le
      simp only [List.length_nil] at hlt
      walk_at "MY steps"
      (rename Fr _ _ _ _ => F9); (rename News _ _ _ _ => N9)
      refine ne_lists N9 (.tail _ (.tail _ (.head _))) (.head _) (by assumption) (by assumption) (names_same rfl (by rw [← hRc.keys]; assumption) (by assumption) (by assumption) (by assumption) (by assumption)) (by ke_room) ?_
      walk_at "MY steps"
      (rename Fr _ _ _ _ => F9); (rename News _ _ _ _ => N9)
      refine AtCall.does (size_spec t _ rt (hpt _ fun p hp => (N9 p (by walk_at "MY mem")).1) (by omega)) (by k_asm) F9 (by k_asm) (by k_asm) rfl rfl News.nil (by walk_at "MY room") (by walk_at "MY room") ?_
      intro r h2 tk2 K2 P2
      obtain ⟨tks, rfl⟩ := P2
      replace F9 := fr_keep F9 K2; replace N9 := news_keep N9 K2
      walk_at "MY steps"
      refine AtFor.turns PassesOwn.never ?_
      walk_at "MY steps"
      (rename Fr _ _ _ _ => F9); (rename News _ _ _ _ => N9)
      replace N9 := news_tl (news_tl (news_tl N9))
      refine dict_for F9 N9 (.head _) hdc LOc ?_
      intro I2 h3 oI2 ep2 F3 N3 lI2 hi2 ha2 W2 turn2
      have n2 : ∀ p ∈ (dc, odc) :: (lv, PySem.W.listOf lvs.toArray lvn) :: (D, oD) :: (c', oc) :: (d2, od2) :: (d1, od1) :: (k, o2') :: (58, tabObj #[rawInt 78, rawInt 4, .ref c']) :: (tlt ++ (tl1 ++ (tl2 ++ (tlm ++ (tl3 ++ tla))))), p.1 ≠ I2 := fun p hp => Nat.ne_of_lt (lI2 p hp)
      have key2 : ∀ (j i : Nat) (h : Heap) (tk : Nat) (u : Str → Option Value) (oI2 : Obj) (gr : Int) (tg : Tok), j + i = (tally [] t.leaves).length →
          Fr (ghostOf s1.heap [(62, 58)]) s1.heap.objs.size h (fun y => if y = Str.ofString "tree" then some rt else if y = Str.ofString "one" then some (.ref d1) else if y = Str.ofString "two" then some (.ref d2) else if y = Str.ofString "made" then some rm else if y = Str.ofString "counted" then some (.ref dc) else if y = Str.ofString "leaves_here" then some (.ref lv) else if y = Str.ofString "grown" then some (.int gr tg) else u y) →
          News (ghostOf s1.heap [(62, 58)]) s1.heap.objs.size h ((I2, oI2) :: (dc, odc) :: (lv, PySem.W.listOf lvs.toArray lvn) :: (D, oD) :: (c', oc) :: (d2, od2) :: (d1, od1) :: (k, o2') :: (58, tabObj #[rawInt 78, rawInt 4, .ref c']) :: (tlt ++ (tl1 ++ (tl2 ++ (tlm ++ (tl3 ++ tla)))))) →
          KdkIter oI2 dc i kvsc.length ep2 → gr = t.sz + csum tab1 ((tally [] t.leaves).take i) →
          W2 { heap := h, gens := s1.gens, drawn := s1.drawn, toks := tk, os := s1.os } := by
        intro j
        induction j with
        | zero =>
          intro i h tk u oI2 gr tg hj F N hi hg
          refine turn2 _ ?_
          refine dict_end rfl F N n2 hi ha2 (.head _) (by omega) ?_
          intro h4 F4 N4
          have hi7 : i = (tally [] t.leaves).length := by omega
          subst hi7
          rw [List.take_length, csum_tally tab1 [] t.leaves (by simp)] at hg
          have hgs : gr = ((t.subst tab1).sz : Int) := by rw [sz_subst, hg]; simp [csum]
          subst hgs
          have hszm : (t.subst tab1).sz ≤ 300 := by
            have h1 := sz_ht (t.subst tab1)
            have h2 : 2 ^ (t.subst tab1).ht ≤ 2 ^ 8 := Nat.pow_le_pow_right (by decide) hh1
            omega
          walk_at "MY steps"
          (rename Fr _ _ _ _ => F9); (rename News _ _ _ _ => N9)
          refine AtCall.does (size_spec t _ rt (hpt _ fun p hp => (N9 p (by walk_at "MY mem")).1) (by omega)) (by k_asm) F9 (by k_asm) (by k_asm) rfl rfl News.nil (by walk_at "MY room") (by walk_at "MY room") ?_
          intro r h2 tk2 K2 P2
          obtain ⟨tks, rfl⟩ := P2
          replace F9 := fr_keep F9 K2; replace N9 := news_keep N9 K2
          walk_at "MY steps"
          (rename Fr _ _ _ _ => F9); (rename News _ _ _ _ => N9)
          refine AtCall.does (count_spec t _ rt (hpt _ fun p hp => (N9 p (by walk_at "MY mem")).1)) (by k_asm) F9 (by k_asm) (by k_asm) rfl rfl News.nil (by walk_at "MY room") (by walk_at "MY room") ?_
          intro r h2 tk2 K2 P2
          obtain ⟨tks, rfl⟩ := P2
          replace F9 := fr_keep F9 K2; replace N9 := news_keep N9 K2
          walk_at "MY steps"
          · exfalso; first | exact absurd rfl (by assumption) | omega | simp_all
          (rename Fr _ _ _ _ => F9); (rename News _ _ _ _ => N9)
          refine AtCall.does (size_spec (t.subst tab1) _ rm (hpm _ F9.keep (nsub N9 (fun p hp => by walk_at "MY mem"))) (by omega)) (by k_asm) F9 (by k_asm) (by k_asm) rfl rfl News.nil (by walk_at "MY room") (by walk_at "MY room") ?_
          intro r h2 tk2 K2 P2
          obtain ⟨tks, rfl⟩ := P2
          replace F9 := fr_keep F9 K2; replace N9 := news_keep N9 K2
          walk_at "MY steps"
          · exfalso; first | exact absurd rfl (by assumption) | omega | simp_all
          (rename Fr _ _ _ _ => F9); (rename News _ _ _ _ => N9)
          refine AtCall.does (ground_spec t _ rt (hpt _ fun p hp => (N9 p (by walk_at "MY mem")).1) (by omega)) (by k_asm) F9 (by k_asm) (by k_asm) rfl rfl News.nil (by walk_at "MY room") (by walk_at "MY room") ?_
          intro r h2 tk2 K2 P2
          subst P2
          replace F9 := fr_keep F9 K2; replace N9 := news_keep N9 K2
          walk_at "MY steps"
          (rename Fr _ _ _ _ => F9); (rename News _ _ _ _ => N9)
          refine eq_listsB (c := t.ground) N9 (.tail _ (.tail _ (.head _))) (.head _) hil .nil (by ke_room) (leaves_iff t) ?_
          walk_at "MY steps"
          · exfalso; first | exact absurd rfl (by assumption) | omega | simp_all
          (rename Fr _ _ _ _ => F9); (rename News _ _ _ _ => N9)
          refine AtCall.does (ground_spec (t.subst tab1) _ rm (hpm _ F9.keep (nsub N9 (fun p hp => by walk_at "MY mem"))) (by omega)) (by k_asm) F9 (by k_asm) (by k_asm) rfl rfl News.nil (by walk_at "MY room") (by walk_at "MY room") ?_
          intro r h2 tk2 K2 P2
          subst P2
          replace F9 := fr_keep F9 K2; replace N9 := news_keep N9 K2
          walk_at "MY steps"
          (rename Fr _ _ _ _ => F9); (rename News _ _ _ _ => N9)
          refine AtCall.does (vars_spec (t.subst tab1) _ rm (hpm _ F9.keep (nsub N9 (fun p hp => by walk_at "MY mem"))) (by omega)) (by k_asm) F9 (by k_asm) (by k_asm) rfl rfl News.nil (by walk_at "MY room") (by walk_at "MY room") ?_
          intro r h2 tk2 K2 P2
          obtain ⟨va, vvs, vns, vn, rfl, hnv, hov, hiv, hev⟩ := P2
          have nev := new_ne N9 hnv; simp only [AllNe, and_true] at nev
          replace N9 := news_add F9 N9 K2 hnv hov
          replace F9 := fr_keep F9 K2
          walk_at "MY steps"
          (rename Fr _ _ _ _ => F9); (rename News _ _ _ _ => N9)
          refine eq_listsB (c := (t.subst tab1).ground) N9 (.tail _ (.head _)) (.head _) hiv .nil (by ke_room) (hev.trans (leaves_iff _)) ?_
          walk_at "MY steps"
          · exfalso; first | exact absurd rfl (by assumption) | omega | simp_all
          (rename Fr _ _ _ _ => F9); (rename News _ _ _ _ => N9)
          refine AtCall.does (ground_spec (t.subst tab1) _ rm (hpm _ F9.keep (nsub N9 (fun p hp => by walk_at "MY mem"))) (by omega)) (by k_asm) F9 (by k_asm) (by k_asm) rfl rfl News.nil (by walk_at "MY room") (by walk_at "MY room") ?_
          intro r h2 tk2 K2 P2
          subst P2
          replace F9 := fr_keep F9 K2; replace N9 := news_keep N9 K2
          cases hgm : (t.subst tab1).ground with
          | false =>
            iterate 6 (walk_at "MY one")
            (rename (_ : Shared).gens = #[] => HG)
            exact hQ0 _ _ ⟨⟨.inl ⟨.bool true, .bool true, [], rfl, (fun _ => rfl), .bool true, post_true _, (fun _ => ⟨List.nodup_nil, (fun _ h => nomatch h)⟩)⟩, F9.keep, rfl, HG⟩, ⟨GrownAt.of N9 (by k_mem), trivial⟩⟩
          | true =>
            walk_at "MY steps"
            (rename Fr _ _ _ _ => F9); (rename News _ _ _ _ => N9)
            replace N9 : News (ghostOf s1.heap [(62, 58)]) s1.heap.objs.size _ ((d2, od2) :: (c', oc) :: (58, tabObj #[rawInt 78, rawInt 4, .ref c']) :: (tl2 ++ tlm)) := nsub N9 (fun p hp => by
              simp only [List.mem_cons, List.mem_append] at hp ⊢
              rcases hp with rfl | rfl | rfl | hp | hp <;> simp [*])
            refine AtCall.does (subst2_spec d2 c' oc tab2 (t.subst tab1) _ rm (hpm _ F9.keep (nsub N9 (fun p hp => by walk_at "MY mem"))) (by omega) ⟨kvs2, Heap.dictOf_iff.mpr ⟨od2, (N9 (d2, od2) (by k_mem)).1, HD2⟩, LO2, hR2 _ fun p hp => (N9 p (by walk_at "MY mem")).1⟩ (codeHd.keeps F9.keep) (N9 (c', oc) (by k_mem)).1 hco n58') (by k_asm) F9 (by k_asm) (by k_asm) rfl rfl (news_one N9 (by k_mem)) (by walk_at "MY room") (by walk_at "MY room") ?_
            intro rc h2 tk2 K2 P2
            obtain ⟨hmc, h58c⟩ := P2
            have AU := after_upd (k := 58) (o' := tabObj #[rawInt 78, rawInt 4, .ref c']) F9 N9 (Upd.tail (Ne.symm ne2.2.2.1) (Upd.tail n58' (Upd.head (List.forall_mem_append.mpr ⟨n582, n58m⟩)))) K2 h58c
            clear F9 N9; obtain ⟨F9, N9⟩ := AU
            rw [subst_ground tab2 _ hgm] at hmc
            have emc := hpm _ F9.keep (nsub N9 (fun p hp => by walk_at "MY mem"))
            dsimp only
            iterate 2 (walk_at "MY one")
            (rename (_ : Shared).gens = #[] => HG)
            exact hQ0 _ _ ⟨⟨.inl ⟨.bool true, .bool true, [], rfl, (fun _ => rfl), .bool true, post_true _, (fun _ => ⟨List.nodup_nil, (fun _ h => nomatch h)⟩)⟩, F9.keep, rfl, HG⟩, ⟨GrownAt.of N9 (by k_mem), trivial⟩⟩
        | succ j ih2 =>
          intro i h tk u oI2 gr tg hj F N hi hg
          refine turn2 _ ?_
          have hget : (tally [] t.leaves)[i]? = some ((tally [] t.leaves)[i]'(by omega)) := by simp
          generalize (tally [] t.leaves)[i]'(by omega) = kn at hget
          obtain ⟨kk, nn⟩ := kn
          obtain ⟨x, hx, tx, rfl⟩ := hRc.get hget
          have hnn : nn = t.leaves.count kk := tally_count (List.mem_of_getElem? hget)
          subst hnn
          refine dict_next F N n2 hi ha2 (.head _) hx ?_
          intro h4 o4 t4 F4 N4 hi4
          have hv := KdkAt.val ha2 hx
          have hcs : csum tab1 ((tally [] t.leaves).take (i + 1)) = csum tab1 ((tally [] t.leaves).take i) + (t.leaves.count kk : Int) * wt tab1 kk := by
            rw [List.take_add_one, hget, csum_append]; simp [csum]
          rcases (hR1 _ (fun p hp => (N4 p (by walk_at "MY mem")).1)).find kk with ⟨hv1, hl1⟩ | ⟨y, uu, hv1, hl1, hy⟩
          · have hv1' : (valueAt kvs1 kk).isSome = false := by rw [hv1]; rfl
            walk_at "MY steps"
            · exfalso; first | exact absurd rfl (by assumption) | omega | simp_all
            · (rename Fr _ _ _ _ => F8); (rename News _ _ _ _ => N8)
              refine ih2 (i + 1) _ _ _ _ _ _ (by omega) (fr_shape1 (fr_shape1 (fr_shape1 (fr_shape1 (fr_shape1 (fr_shape1 (fr_shape1 F8 rfl) rfl) rfl) rfl) rfl) rfl) rfl) N8 hi4 ?_
              have hw : wt tab1 kk = 0 := by simp [wt, hl1]
              rw [hcs, hw, hg]; simp
          · have hv1' : (valueAt kvs1 kk).isSome = true := by rw [hv1]; rfl
            walk_at "MY steps"
            · exfalso; first | exact absurd rfl (by assumption) | omega | simp_all
            · (rename Fr _ _ _ _ => F9); (rename News _ _ _ _ => N9)
              obtain ⟨y', hy', hyt'⟩ : ∃ y', valueAt kvs1 kk = some y' ∧ TIn _ uu y' := by
                rcases (hR1 _ (fun p hp => (N9 p (by walk_at "MY mem")).1)).find kk with ⟨q, _⟩ | ⟨y', u', q1, q2, q3⟩
                · rw [hv1] at q; cases q
                · rw [hl1] at q2; cases q2; exact ⟨y', q1, q3⟩
              have hyy : y' = y := by rw [hv1] at hy'; cases hy'; rfl
              subst hyy
              have huu : uu.sz ≤ 31 := by
                have h1 := sz_ht uu
                have h2 : uu.ht ≤ 3 := by
                  have : (kk, uu) ∈ tab1 := mem_of_lookup hl1
                  exact (hT1.terms _ this).1
                have h3 : 2 ^ uu.ht ≤ 2 ^ 3 := Nat.pow_le_pow_right (by decide) h2
                omega
              refine AtCall.does (size_spec uu _ y' hyt' (by omega)) (by k_asm) F9 (by k_asm) (by k_asm) rfl rfl News.nil (by walk_at "MY room") (by walk_at "MY room") ?_
              intro r h2 tk2 K2 P2
              obtain ⟨tks, rfl⟩ := P2
              replace F9 := fr_keep F9 K2; replace N9 := news_keep N9 K2
              walk_at "MY steps"
              (rename Fr _ _ _ _ => F8); (rename News _ _ _ _ => N8)
              refine ih2 (i + 1) _ _ _ _ _ _ (by omega) (fr_shape1 (fr_shape1 (fr_shape1 (fr_shape1 (fr_shape1 (fr_shape1 (fr_shape1 F8 rfl) rfl) rfl) rfl) rfl) rfl) rfl) N8 hi4 ?_
              have hw : wt tab1 kk = (uu.sz : Int) - 1 := by simp [wt, hl1]
              rw [hcs, hw, hg]; try omega
      refine key2 _ 0 _ _ _ _ _ _ rfl (fr_shape1 (fr_shape1 (fr_shape1 (fr_shape1 (fr_shape1 (fr_shape1 (fr_shape1 F3 rfl) rfl) rfl) rfl) rfl) rfl) rfl) N3 hi2 (by simp [csum])
    | succ j ih =>
      intro i h tk u oI oD kvs3 tl3 hj F N nI nD n58 at3 hi hd3 hR3 hl3
      refine turn _ ?_
      have hget : tab1[i]? = some (tab1[i]'(by omega)) := by simp
      generalize tab1[i]'(by omega) = ku at hget
      obtain ⟨kk, uu⟩ := ku
      obtain ⟨x, hx, hxt⟩ := (hR1 _ (fun p hp => (N p (by walk_at "MY mem")).1)).get hget
      refine dict_next F N (by k_all) hi ha (by k_mem) hx ?_
      intro h4 o4 t4 F4 N4 hi4
      have hv := KdkAt.val ha hx
      walk_at "MY steps"
      (rename Fr _ _ _ _ => F9); (rename News _ _ _ _ => N9)
      obtain ⟨x', hx', hxt'⟩ := (hR1 _ (fun p hp => (N9 p (by walk_at "MY mem")).1)).get hget
      have hxx : x' = x := by rw [hx] at hx'; cases hx'; rfl
      subst hxx
      have huu : uu.ht ≤ 3 := (hT1.terms _ (List.mem_of_getElem? hget)).1
      refine AtCall.does (put_spec d2 tab2 uu _ x' hxt' ⟨kvs2, Heap.dictOf_iff.mpr ⟨od2, (N9 (d2, od2) (by k_mem)).1, HD2⟩, LO2, hR2 _ fun p hp => (N9 p (by walk_at "MY mem")).1⟩) (by k_asm) F9 (by k_asm) (by k_asm) rfl rfl News.nil (by walk_at "MY room") (by walk_at "MY room") ?_
      intro r h2 tk2 K2 P2
      replace F9 := fr_keep F9 K2; replace N9 := news_keep N9 K2
      obtain ⟨tlr, NR, atr, hpr⟩ := TIn.persist F9 P2
      have nrI := AllTup.ne (k := I) atr NR N9 (by k_mem) (by rw [hi4.1]; simp); have nrD := AllTup.ne (k := D) atr NR N9 (by k_mem) (by rw [(dict_cls hd3)]; simp); have nr58 := AllTup.ne (k := 58) atr NR N9 (by k_mem) (by simp)
      replace N9 := nApp N9 NR; simp only [List.cons_append, List.nil_append, List.append_assoc] at N9
      clear NR
      dsimp only
      walk_at "MY steps"
      (rename Fr _ _ _ _ => F8); (rename News _ _ _ _ => N8); (rename Obj.IsDictOf (intKind _ _) _ (stored _ _ _) => H8)
      have hsl := stored_length_le kvs3 kk r
      refine ih (i + 1) _ _ _ _ _ _ (tl3 ++ tlr) (by omega) (fr_shape1 (fr_shape1 (fr_shape1 (fr_shape1 (fr_shape1 F8 rfl) rfl) rfl) rfl) rfl) N8 (by k_all) (by k_all) (by k_all) (at3.append atr) hi4 H8 (fun h'' kp nn => ?_) (by omega)
      rw [both_take tab1 tab2 i kk uu hget]
      exact (hR3 h'' kp (nsub nn fun p hp => by rcases List.mem_append.mp hp with hp | hp <;> walk_at "MY mem")).stored (hpr h'' kp (nsub nn fun p hp => by walk_at "MY mem"))
  exact key _ (by assumption) hDl (lI _ (.head _)) (fun p hp => lI p (.tail _ hp)) tab1.length 0 _ _ _ _ _ kvs2 [] rfl (fr_shape1 (fr_shape1 (fr_shape1 (fr_shape1 (fr_shape1 F3 rfl) rfl) rfl) rfl) rfl) (by rw [List.append_nil]; exact N3) (fun _ hp => nomatch hp) (fun _ hp => nomatch hp) (fun _ hp => nomatch hp) AllTup.nil hi (by assumption)
    (fun h'' _ nn => by simpa using hR2 h'' (fun p hp => (nn p (by walk_at "MY mem")).1)) (by omega))
end
end Mine
theorem PySem.Challenge.cw_ok0006_01_holds : PySem.Challenge.rw_ok0006_01.Holds :=
  Mine.law_ends
