import PyProof.Rows.All
import Wide.All
import OpenK.AllK
import Wide.FinOn
import PySem.Challenge.RW_xw0075_01
set_option Elab.async false
set_option maxRecDepth 100000
section
open PySem PySem.W PyProof.Rows
set_option maxHeartbeats 8000000
namespace Mine
open_top hd for PySem.Challenge.rw_xw0075_01
end Mine
end
section
open PySem PySem.W PyProof.Rows PySem.Calls
namespace Mine
section
variable {prog : Program} {w : World} {A : Around} {E : Value → Shared → Prop} {s : Shared} {env : Env} {h₀ : Heap}
/-- the end of a turn: the frame, the ledger behind the iterator's object, the word -/
def TEnd (h₀ : Heap) (L : Addr) (I : Addr) (it : Obj) (J : (Str → Option Value) → List (Addr × Obj) → Prop) (s₁ s₂ : Shared) : Prop :=
  ∃ h' tk m' nx, s₂ = { s₁ with heap := h', toks := tk } ∧ Fr h₀ L h' m' ∧ News h₀ L h' ((I, it) :: nx) ∧ J m' nx
def TPost (h₀ : Heap) (L : Addr) (I : Addr) (it : Obj) (J : (Str → Option Value) → List (Addr × Obj) → Prop) (s₁ : Shared) (Q : Flow → Shared → Prop) (f : Flow) (s₂ : Shared) : Prop :=
  match f with
  | .ret v => Q (.ret v) s₂
  | .brk => Q .next s₂
  | _ => TEnd h₀ L I it J s₁ s₂
theorem loop_led {target : Expr} {body : List Stmt} {I l : Addr} {ol : Obj} {n : Nat} {P : Nat → Value → Prop} {St : Nat → Heap → Prop} {m₀ : Str → Option Value} {news : List (Addr × Obj)} {R : Result → Shared → Prop}
    (W : Walks prog w A I [I, l] [I] n P St) (hIt : ∀ i h, St i h → ∃ o, h.get? I = some o)
    (hgo : ∀ i (s' : Shared) v (Q' : Unit → Shared → Prop), St i s'.heap → Q' () s' → wpAny (model prog w) A (letOwnedTupleGo target (.ref I) v) Q' (fun _ _ => False) s')
    (J : Nat → (Str → Option Value) → List (Addr × Obj) → Prop)
    (hJl : ∀ i m nx, J i m nx → (l, ol) ∈ nx) (hJI : ∀ i m nx, J i m nx → ∀ p ∈ nx, p.1 ≠ I)
    (hIL : env.locals ≠ I) (hI0 : h₀.get? I = none)
    (hst : St 0 s.heap) (F : Fr h₀ env.locals s.heap m₀) (N : News h₀ env.locals s.heap news) (hj : J 0 m₀ news)
    (turn : ∀ i v m₁ nx h tk it, i < n → P i v → J i m₁ nx → Fr h₀ env.locals h m₁ → News h₀ env.locals h ((I, it) :: nx) →
      wpAny (model prog w) A (assign target env v) (fun _ s₂ => wpAny (model prog w) A (execs body env) (TPost h₀ env.locals I it (J (i + 1)) { s with heap := h, toks := tk } (fun f s' => R (.ok f) s')) (fun _ _ => False) s₂) (fun _ _ => False) { s with heap := h, toks := tk })
    (done : ∀ m₁ nx h tk, J n m₁ nx → Fr h₀ env.locals h m₁ → News h₀ env.locals h nx → R (.ok .next) { s with heap := h, toks := tk }) :
    codeAny (model prog w) A (.forLoop target (.ref I) body [] env) R s := by
  refine codeAny_forLoop_any
    (fun k s' => ∃ h' tk m' nx i, s' = { s with heap := h', toks := tk } ∧ St i h' ∧ Fr h₀ env.locals h' m' ∧ News h₀ env.locals h' nx ∧ J i m' nx ∧ i ≤ n ∧ k = n + 1 - i) ?_ (n + 1)
    ⟨s.heap, s.toks, m₀, news, 0, rfl, hst, F, N, hj, Nat.zero_le _, rfl⟩
  rintro k s' ⟨h', tk, m', nx, i, rfl, hst', F', N', hJ, hi, rfl⟩
  have next : ∀ h₁ : Heap, (∀ b o, b ∉ [I] → h'.get? b = some o → h₁.get? b = some o) → Fr h₀ env.locals h₁ m' ∧ News h₀ env.locals h₁ nx := fun h₁ hk₁ =>
    ⟨⟨F'.ns.at' fun o e => hk₁ _ o (by simpa using hIL) e, fun b o e => hk₁ b o (by
        intro hb
        rw [List.mem_singleton.mp hb, hI0] at e
        cases e) (F'.keep b o e), F'.above⟩,
      fun p hp => ⟨hk₁ _ _ (by simpa using hJI _ _ _ hJ p hp) (N' p hp).1, (N' p hp).2⟩⟩
  by_cases hlt : i < n
  · refine wpAny_noRaise (W.item i _ _ _ hlt hst' fun v h₁ tk₁ hP hst₁ hk₁ => ?_)
    obtain ⟨F₁, N₁⟩ := next h₁ hk₁
    obtain ⟨it, hit⟩ := hIt _ _ hst₁
    have N₂ : News h₀ env.locals h₁ ((I, it) :: nx) := fun p hp => by
      rcases List.mem_cons.mp hp with rfl | hp
      · exact ⟨hit, Ne.symm hIL, hI0⟩
      · exact N₁ p hp
    refine wpAny_noRaise (hgo (i + 1) _ v _ hst₁ ?_)
    refine wpAny_noRaise (wpAny_mono (turn i v m' nx h₁ tk₁ it hlt hP hJ F₁ N₂) (fun _ s₂ h₂ => wpAny_noRaise (wpAny_mono h₂ (fun f s₃ h₃ => ?_) fun _ _ e => e)) fun _ _ e => e)
    have fin : TEnd h₀ env.locals I it (J (i + 1)) { s with heap := h₁, toks := tk₁ } s₃ → ∃ m, m < n + 1 - i ∧ ∃ h' tk m' nx i, s₃ = { s with heap := h', toks := tk } ∧ St i h' ∧ Fr h₀ env.locals h' m' ∧ News h₀ env.locals h' nx ∧ J i m' nx ∧ i ≤ n ∧ m = n + 1 - i := by
      rintro ⟨h₃', tk₃, m₃, nx₃, rfl, F₃, N₃, hJ₃⟩
      refine ⟨n + 1 - (i + 1), by omega, h₃', tk₃, m₃, nx₃, i + 1, rfl, ?_, F₃, fun p hp => N₃ p (.tail _ hp), hJ₃, hlt, rfl⟩
      refine W.frame _ _ _ hst₁ fun b hb o e => ?_
      rcases List.mem_cons.mp hb with rfl | hb
      · rw [hit] at e
        cases e
        exact (N₃ _ (.head _)).1
      · rw [List.mem_singleton.mp hb] at e ⊢
        have e1 := (N₁ _ (hJl _ _ _ hJ)).1
        have e2 := (N₃ _ (.tail _ (hJl _ _ _ hJ₃))).1
        rw [e1] at e
        cases e
        exact e2
    cases f with
    | ret v => exact h₃
    | brk => exact h₃
    | next => exact fin h₃
    | cont => exact fin h₃
  · have hin : i = n := by omega
    subst hin
    refine wpAny_noRaise (W.done _ _ _ hst' fun h₁ tk₁ hk₁ => wpAny_execs_nil ?_)
    obtain ⟨F₁, N₁⟩ := next h₁ hk₁
    exact done m' nx h₁ tk₁ hJ F₁ N₁
/-- what a `for` wants of its iterable's value -/
def LedAt (prog : Program) (w : World) (A : Around) (env : Env) (target : Expr) (body : List Stmt) (Q : Flow → Shared → Prop) (xv : Value) (s₁ : Shared) : Prop :=
  wpAny (model prog w) A (pyIter xv) (fun it s₂ => codeAny (model prog w) A (.forLoop target it body [] env) (fun r s' => match r with | .ok f => Q f s' | .error _ => False) s₂) (fun _ _ => False) s₁
theorem For_led {target iter : Expr} {pos : Pos} {body : List Stmt} {Q : Flow → Shared → Prop} (h : wpAny (model prog w) A (eval iter env) (LedAt prog w A env target body Q) E s)
    (hs : ∀ x, foldedSetIterable iter env x = pure x := by intro _; rfl) : wpAny (model prog w) A (exec (.For target iter body [] pos) env) Q E s := by
  refine wpAny_For (wpAny_mono h (fun xv s₁ h₁ => wpAny_noRaise (wpAny_mono h₁ (fun it s₂ h₂ => codeAny_mono h₂ fun r s' hr => ?_) fun _ _ e => e)) fun _ _ e => e) hs
  cases r with
  | ok f => exact hr
  | error e => exact hr.elim
theorem LedAt.list {target : Expr} {body : List Stmt} {Q : Flow → Shared → Prop} {l : Addr} {items : Array Value} {nn : Nat} {m₀ : Str → Option Value} {news : List (Addr × Obj)}
    (hh : A.handled = none) (F : Fr h₀ env.locals s.heap m₀) (N : News h₀ env.locals s.heap news)
    (J : Nat → (Str → Option Value) → List (Addr × Obj) → Prop) (hJl : ∀ i m nx, J i m nx → (l, listOf items nn) ∈ nx) (hJa : ∀ i m nx, J i m nx → nx.map (·.1) = news.map (·.1)) (hj : J 0 m₀ news)
    (turn : ∀ I, (∀ p ∈ news, p.1 < I) → ∀ i v m₁ nx h tk it, items[i]? = some v → J i m₁ nx → Fr h₀ env.locals h m₁ → News h₀ env.locals h ((I, it) :: nx) →
      wpAny (model prog w) A (assign target env v) (fun _ s₂ => wpAny (model prog w) A (execs body env) (TPost h₀ env.locals I it (J (i + 1)) { s with heap := h, toks := tk } Q) (fun _ _ => False) s₂) (fun _ _ => False) { s with heap := h, toks := tk })
    (done : ∀ m₁ nx h tk, J items.size m₁ nx → Fr h₀ env.locals h m₁ → News h₀ env.locals h nx → Q .next { s with heap := h, toks := tk }) :
    LedAt prog w A env target body Q (.ref l) s := by
  have hm := hJl _ _ _ hj
  have hl : s.heap.IsList l items := ⟨_, (N _ hm).1, rfl, nn, rfl⟩
  have hlt : l < s.heap.objs.size := Heap.lt_size (N _ hm).1
  have hb : ∀ p ∈ news, p.1 < s.heap.objs.size := fun p hp => Heap.lt_size (N p hp).1
  unfold LedAt
  refine wpAny_pyIter_list hl ?_
  refine loop_led (s := { s with heap := s.heap.push { cls := .type "list_iterator", data := .fields #[.ref l, .int 0 0] } }) (Walks.list hh _ l (Nat.ne_of_lt hlt) items) ?_ (fun i s' v Q' st hQ' => letGo_listiter st.1 hQ') J hJl ?_ (Nat.ne_of_lt F.ns.lt) (next_is_new F) ⟨⟨_, Heap.get?_push_size _ rfl, rfl, rfl⟩, hl.at fun o e => Heap.get?_push_of_some _ e⟩ (F.push _) (fun p hp => ⟨Heap.get?_push_of_some _ (N p hp).1, (N p hp).2⟩) hj ?_ ?_
  · rintro i h ⟨⟨o, ho, _⟩, _⟩
    exact ⟨o, ho⟩
  · intro i m nx hJ p hp
    have h1 : p.1 ∈ news.map (·.1) := (hJa _ _ _ hJ) ▸ List.mem_map.mpr ⟨p, hp, rfl⟩
    obtain ⟨q, hq, e⟩ := List.mem_map.mp h1
    rw [← e]
    exact Nat.ne_of_lt (hb q hq)
  · intro i v m₁ nx h tk it _ hP hJ F₁ N₁
    exact turn _ hb i v m₁ nx h tk it hP hJ F₁ N₁
  · intro m₁ nx h tk hJ F₁ N₁
    exact done m₁ nx h tk hJ F₁ N₁
theorem LedAt.tuple {target : Expr} {body : List Stmt} {Q : Flow → Shared → Prop} {l : Addr} {ol : Obj} {items : Array Value} {m₀ : Str → Option Value} {news : List (Addr × Obj)}
    (hh : A.handled = none) (F : Fr h₀ env.locals s.heap m₀) (N : News h₀ env.locals s.heap news) (hc : ol.cls = .type "tuple") (hd : ∃ n, ol.data = .seq items n)
    (J : Nat → (Str → Option Value) → List (Addr × Obj) → Prop) (hJl : ∀ i m nx, J i m nx → (l, ol) ∈ nx) (hJa : ∀ i m nx, J i m nx → nx.map (·.1) = news.map (·.1)) (hj : J 0 m₀ news)
    (turn : ∀ I, (∀ p ∈ news, p.1 < I) → ∀ i v m₁ nx h tk it, items[i]? = some v → J i m₁ nx → Fr h₀ env.locals h m₁ → News h₀ env.locals h ((I, it) :: nx) →
      wpAny (model prog w) A (assign target env v) (fun _ s₂ => wpAny (model prog w) A (execs body env) (TPost h₀ env.locals I it (J (i + 1)) { s with heap := h, toks := tk } Q) (fun _ _ => False) s₂) (fun _ _ => False) { s with heap := h, toks := tk })
    (done : ∀ m₁ nx h tk, J items.size m₁ nx → Fr h₀ env.locals h m₁ → News h₀ env.locals h nx → Q .next { s with heap := h, toks := tk }) :
    LedAt prog w A env target body Q (.ref l) s := by
  have hm := hJl _ _ _ hj
  have hl : s.heap.IsTuple l items := ⟨_, (N _ hm).1, hc, hd⟩
  have hlt : l < s.heap.objs.size := Heap.lt_size (N _ hm).1
  have hb : ∀ p ∈ news, p.1 < s.heap.objs.size := fun p hp => Heap.lt_size (N p hp).1
  unfold LedAt
  refine wpAny_pyIter_tuple hl ?_
  refine loop_led (s := { s with heap := s.heap.push { cls := .type "tuple_iterator", data := .fields #[.ref l, .int 0 0] } }) (Walks.tuple hh _ l (Nat.ne_of_lt hlt) items) ?_ (fun i s' v Q' st hQ' => letGo_tupleiter st.1 hQ') J hJl ?_ (Nat.ne_of_lt F.ns.lt) (next_is_new F) ⟨⟨_, Heap.get?_push_size _ rfl, rfl, rfl⟩, hl.at fun o e => Heap.get?_push_of_some _ e⟩ (F.push _) (fun p hp => ⟨Heap.get?_push_of_some _ (N p hp).1, (N p hp).2⟩) hj ?_ ?_
  · rintro i h ⟨⟨o, ho, _⟩, _⟩
    exact ⟨o, ho⟩
  · intro i m nx hJ p hp
    have h1 : p.1 ∈ news.map (·.1) := (hJa _ _ _ hJ) ▸ List.mem_map.mpr ⟨p, hp, rfl⟩
    obtain ⟨q, hq, e⟩ := List.mem_map.mp h1
    rw [← e]
    exact Nat.ne_of_lt (hb q hq)
  · intro i v m₁ nx h tk it _ hP hJ F₁ N₁
    exact turn _ hb i v m₁ nx h tk it hP hJ F₁ N₁
  · intro m₁ nx h tk hJ F₁ N₁
    exact done m₁ nx h tk hJ F₁ N₁
end
end Mine
end
section
open PySem PySem.W PyProof.Rows PySem.Calls
namespace Mine
noncomputable abbrev LS : List Str := looseW hd.view_39 [Str.ofString "ACCESS_MODS", Str.ofString "ACCESS_OF", Str.ofString "SLOT_MODS"]
/-- what a call of the text's def at f gives: for every frame that calls it, a way on behind the call -/
abbrev Clm (k : Nat) (w : World) (mean : ExcName → Option Value) (mg mb : Str → Option Value) (f : Addr) (news : List (Addr × Obj)) (vs : List Value) (Out : Heap → Addr → (Str → Option Value) → Shared → (Value → Shared → Prop) → Prop) : Prop :=
  ∀ (dp un : Nat) (gd : Option (List Code)) (cn : Str) (cs : Scope) (a : Addr) (ccd : Value) (cl : List (Str × Addr)) (outer : List Env) (A₀ : Around) (base h₀ : Heap) (L : Addr) (m : Str → Option Value) (s : Shared) (Q E : Value → Shared → Prop),
    Below A₀ base outer h₀ → Fr h₀ L s.heap m → (hd.heap_39 w.params).In h₀ → News h₀ L s.heap news → Top hd.view_39 LS mean mg mb h₀ → cs.kind = .function →
    dp + k < recursionLimit → un + 8 * k < cLine → Out h₀ L m s Q →
      wpAny (model Challenge.rw_xw0075_01.row.prog w) (ktrTop dp un gd cn cs L a ccd cl outer) (call (.ref f) vs) Q E s
/-- an int comes back, the ledger as it was -/
abbrev OutI (news : List (Addr × Obj)) (r : Int) (h₀ : Heap) (L : Addr) (m : Str → Option Value) (s : Shared) (Q : Value → Shared → Prop) : Prop :=
  ∀ (t : Tok) (h' : Heap) (tk' : Nat), Fr h₀ L h' m → News h₀ L h' news → Q (.int r t) { s with heap := h', toks := tk' }
theorem out_int {h₀ h' : Heap} {L : Addr} {m : Str → Option Value} {news : List (Addr × Obj)} {s : Shared} {Q : Value → Shared → Prop} {t : Tok} {tk' : Nat} {x y : Int} (hret : OutI news x h₀ L m s Q) (e : y = x) (F : Fr h₀ L h' m) (N : News h₀ L h' news) : Q (.int y t) { s with heap := h', toks := tk' } := by
  subst e
  exact hret t h' tk' F N
section
variable {prog : Program} {w : World} {A : Around} {E : Value → Shared → Prop} {s : Shared} {env : Env} {h₀ : Heap} {L : Addr} {m : Str → Option Value} {news : List (Addr × Obj)}
/-- a test's value, read off -/
def KB (h₀ : Heap) (L : Addr) (m : Str → Option Value) (news : List (Addr × Obj)) (s : Shared) (r : Bool) (b : Bool) (s' : Shared) : Prop :=
  b = r ∧ ∃ h tk, s' = { s with heap := h, toks := tk } ∧ Fr h₀ L h m ∧ News h₀ L h news
theorem KB.intro {r b : Bool} {h : Heap} {tk : Nat} (e : b = r) (F : Fr h₀ L h m) (N : News h₀ L h news) : KB h₀ L m news s r b { s with heap := h, toks := tk } := ⟨e, h, tk, rfl, F, N⟩
theorem and2 {e1 e2 : Expr} {pos : Pos} {whole : Sem Value} {b1 b2 : Bool} {Q : Bool → Shared → Prop} (_F : Fr h₀ L s.heap m) (_N : News h₀ L s.heap news)
    (h1 : wpAny (model prog w) A (isTrue e1 env (eval e1 env)) (KB h₀ L m news s b1) E s)
    (h2 : ∀ h tk, Fr h₀ L h m → News h₀ L h news → wpAny (model prog w) A (isTrue e2 env (eval e2 env)) (KB h₀ L m news { s with heap := h, toks := tk } b2) E { s with heap := h, toks := tk })
    (hk : ∀ h tk, Fr h₀ L h m → News h₀ L h news → Q (b1 && b2) { s with heap := h, toks := tk }) :
    wpAny (model prog w) A (isTrue (.BoolOp .And [e1, e2] pos) env whole) Q E s := by
  refine isTrue_and (wpAny_mono h1 (fun b s₁ hb => ?_) fun _ _ e => e)
  obtain ⟨rfl, h, tk, rfl, F, N⟩ := hb
  cases b with
  | false => simp only [Bool.false_eq_true, if_false]; exact hk h tk F N
  | true =>
    simp only [if_true]
    refine isTrue_and (wpAny_mono (h2 h tk F N) (fun b s₁ hb => ?_) fun _ _ e => e)
    obtain ⟨rfl, h', tk', rfl, F', N'⟩ := hb
    cases b with
    | false => simp only [Bool.false_eq_true, if_false]; exact hk h' tk' F' N'
    | true =>
      simp only [if_true]
      exact isTrue_and_nil (hk h' tk' F' N')
end
/-- the plain law's words: the access of the four bits -/
def accessOf (k u : Int) : Int := if k = 1 then 6 else if k = 2 then 1 else if k = 4 then 4 else if k = 8 then 3 else if k = 12 then 5 else if k = 6 then 2 else u
end Mine
end
section
open PySem PySem.W PyProof.Rows PySem.Calls
set_option maxHeartbeats 8000000
namespace Mine
section
theorem access_call (w : World) (mean : ExcName → Option Value) (mg mb : Str → Option Value) (news : List (Addr × Obj)) (mods u : Int) (tk tu : Tok) :
    Clm 1 w mean mg mb 43 news [.int mods tk, .int u tu] (OutI news (accessOf (Builtin.bitAnd mods 15) u)) := by
  unfold Clm
  w_top off
  k_fill
  intro dp un gd cn cs a ccd cl outer A₀ base h₀ L m s Q E B F X N T hk hd hu hret
  refine wpAny_call ?_
  k_dflt cell_enter
  k_steps
  all_goals (refine out_int hret ?_ (by k_asm) (by k_asm))
  all_goals (unfold accessOf; (repeat (first | rw [if_pos (by assumption)] | rw [if_neg (by first | assumption | omega)])))
end
end Mine
end
section
open PySem PySem.W PyProof.Rows PySem.Calls
set_option maxHeartbeats 8000000
namespace Mine
def numberOf (s f m : Int) : Int :=
  if (Builtin.bitAnd m 16 != 0 && Builtin.bitAnd m 224 != 0) = true then 112 else
  if (Builtin.bitAnd m 128 != 0 && Builtin.bitAnd m (Builtin.bitOr 2048 64) != 0) = true then 113 else
  if (Builtin.bitAnd m 256 != 0 && !Builtin.bitAnd m 128 != 0) = true then 238 else
  if (Builtin.bitAnd m 32 != 0 && Builtin.bitAnd m (Builtin.bitOr 64 256) != 0) = true then (if Builtin.bitAnd m 64 = 0 then 502 else 503) else
  if (Builtin.bitAnd m 224 != 0 && accessOf (Builtin.bitAnd m 15) 1 == 1) = true then 621 else
  if (s == 2 && Builtin.bitAnd m (Builtin.bitOr 32 64) != 0) = true then 106 else
  if (Builtin.bitAnd m 32 != 0 && !Builtin.bitAnd f 1 != 0) = true then 513 else
  if (Builtin.bitAnd m 64 != 0 && Builtin.bitAnd f 2 != 0) = true then 549 else
  if (s == 2 && Builtin.bitAnd m 4 != 0) = true then 666 else 0
section
local macro_rules | `(tactic| k_get) => `(tactic| assumption)
local macro_rules | `(tactic| walk_at "KB") => `(tactic| exact KB.intro rfl (by k_asm) (by k_asm))
local macro_rules | `(tactic| walk_at "isTrue BoolOp") => `(tactic| (k_here; (with_reducible show wpAny _ _ (isTrue (Expr.BoolOp BoolOp.And [_, _] _) _ _) _ _ _); (rename Fr _ _ _ _ => aF'); (rename News _ _ _ _ => aN'); k_dflt ((refine' and2 aF' aN' ?ah1 ?ah2 ?_); (case ah1 => ((try k_fold); k_steps)); (case ah2 => (intro h9 tk9 F9 N9; (try k_fold); k_steps)); (intro h9 tk9 F9 N9))))
local macro_rules | `(tactic| walk_at "call ref") => `(tactic| (k_here; (with_reducible show wpAny _ _ (call (Value.ref 43) _) _ _ _); k_dflt (refine' access_call _ _ _ _ _ _ _ _ _ _ _ _ _ _ _ _ _ _ _ _ _ _ _ _ _ _ ?k1 ?k2 ?k3 ?k4 ?k5 ?k6 ?k7 ?k8 ?_; (case k1 => k_asm); (case k2 => k_asm); (case k3 => k_asm); (case k4 => k_asm); (case k5 => k_asm); (case k6 => first | rfl | assumption); (case k7 => ktr_room); (case k8 => ktr_units)); intro t9 h9 tk9 F9 N9; (try dsimp only); (try k_fold)))
theorem number_call (w : World) (mean : ExcName → Option Value) (mg mb : Str → Option Value) (news : List (Addr × Obj)) (mods : Int) (tk : Tok) (x dx : Addr) (es : List DictEntry) (n : Nat) (sort flags : Int) (t1 t2 : Tok)
    (h1 : (x, instObj 31 dx) ∈ news) (h2 : (dx, dictOf es n) ∈ news) (h3 : getL (Str.ofString "sort") es = some (some (.int sort t1))) (h4 : getL (Str.ofString "flags") es = some (some (.int flags t2))) :
    Clm 4 w mean mg mb 50 news [.ref x, .int mods tk] (OutI news (numberOf sort flags mods)) := by
  unfold Clm
  w_top off
  k_fill
  intro dp un gd cn cs a ccd cl outer A₀ base h₀ L m s Q E B F X N T hk hd hu hret
  refine wpAny_call ?_
  k_dflt cell_enter
  k_steps
  all_goals (refine out_int hret ?_ (by k_asm) (by k_asm))
  all_goals (unfold numberOf; (repeat (first | rw [if_pos (by assumption)] | rw [if_neg (by first | assumption | (simp only [Bool.not_eq_true]; assumption))])))
end
end Mine
end
section
open PySem PySem.W PyProof.Rows PySem.Calls
set_option maxHeartbeats 8000000
namespace Mine
def flagsA (m : Int) : Int := if Builtin.bitAnd m 16 = 0 then 0 else Builtin.bitOr 0 1
def flagsB (m : Int) : Int := if Builtin.bitAnd m 224 = 0 then flagsA m else if Builtin.bitAnd m 128 = 0 then Builtin.bitOr (Builtin.bitOr (flagsA m) 2) 4 else Builtin.bitOr (flagsA m) 2
def flagsC (m : Int) : Int := if Builtin.bitAnd m 32 = 0 then flagsB m else Builtin.bitOr (flagsB m) 8
def flagsOf (m : Int) : Int := if (Builtin.bitAnd m 256 != 0 && Builtin.bitAnd m 128 != 0) = true then Builtin.bitOr (flagsC m) 16 else flagsC m
section
local macro_rules | `(tactic| walk_at "KB") => `(tactic| exact KB.intro rfl (by k_asm) (by k_asm))
local macro_rules | `(tactic| walk_at "isTrue BoolOp") => `(tactic| (k_here; (with_reducible show wpAny _ _ (isTrue (Expr.BoolOp BoolOp.And [_, _] _) _ _) _ _ _); (rename Fr _ _ _ _ => aF'); (rename News _ _ _ _ => aN'); k_dflt ((refine' and2 aF' aN' ?ah1 ?ah2 ?_); (case ah1 => ((try k_fold); k_steps)); (case ah2 => (intro h9 tk9 F9 N9; (try k_fold); k_steps)); (intro h9 tk9 F9 N9))))
theorem flags_call (w : World) (mean : ExcName → Option Value) (mg mb : Str → Option Value) (news : List (Addr × Obj)) (mods : Int) (tk : Tok) :
    Clm 4 w mean mg mb 57 news [.int mods tk] (OutI news (flagsOf mods)) := by
  unfold Clm
  w_top off
  k_fill
  intro dp un gd cn cs a ccd cl outer A₀ base h₀ L m s Q E B F X N T hk hd hu hret
  refine wpAny_call ?_
  k_dflt cell_enter
  k_steps
  all_goals (refine out_int hret ?_ (by k_asm) (by k_asm))
  all_goals (unfold flagsOf flagsC flagsB flagsA; (repeat (first | rw [if_pos (by assumption)] | rw [if_neg (by first | assumption | (simp only [Bool.not_eq_true]; assumption))])))
end
end Mine
end
section
open PySem PySem.W PyProof.Rows PySem.Calls
set_option maxHeartbeats 8000000
namespace Mine
section
variable {prog : Program} {w : World} {A : Around} {E : Value → Shared → Prop} {s : Shared} {env : Env} {h₀ : Heap} {L : Addr} {m : Str → Option Value} {news : List (Addr × Obj)}
variable {ct : Expr} {x : Str} {px : Pos} {scope : Scope} {cl : List (Str × Addr)} {S : List (Addr × Obj) → Prop}
theorem strs_snoc {y : Str} {t : Tok} : ∀ {vs : List Value} {ys : List Str}, StrsAre vs ys → StrsAre (vs ++ [.str y t]) (ys ++ [y])
  | _, _, .nil => .cons y t .nil
  | _, _, .cons z u r => .cons z u (strs_snoc r)
/-- a name of a comprehension's own block -/
theorem comp_name {M : Model} {C : Addr} {oC : Obj} {m₂ : Str → Option Value} {v : Value} {Q : Value → Shared → Prop} (hk : scope.kind = .function) (hx : scope.names.lookup x = some .local) (hd : (x == ("__debug__" : Str)) = false)
    (hC : LCg.NsObj oC m₂) (hv : m₂ x = some v) (hg : s.heap.get? C = some oC) (h : Q v s) : wpAny M A (eval (.Name x px) (compEnvC scope cl C env)) Q E s :=
  wpAny_Name (wpAny_loadName_local (env := compEnvC scope cl C env) (by simp [compEnvC, relabel, hk]) (lookup_relabel_local hx) (hC.ns hg) hv h) hd
/-- a filter of texts by a test that is a function of the text -/
theorem str_rest {vs : List Value} {ks : List Str} {Fin : List Value → List (Addr × Obj) → Prop} (p : Str → Bool) (hi : StrsAre vs ks) (hk : scope.kind = .function) (hx : scope.names.lookup x = some .local) (hd : (x == ("__debug__" : Str)) = false) (hS : S news)
    (turn : ∀ k t I oI C oC D m₂ ys h tk (E' : Value → Shared → Prop), k ∈ ks → LCg.NsObj oC m₂ → m₂ x = some (.str k t) → Fr h₀ L h m → News h₀ L h ((I, oI) :: (C, oC) :: (D, LCg.lst ys) :: news) → LCg.Off3 I C D news → ((@Ne Nat I C) ∧ (@Ne Nat I D) ∧ (@Ne Nat C D)) →
      wpAny (model prog w) A (isTrue ct (compEnvC scope cl C env) (eval ct (compEnvC scope cl C env))) (KB h₀ L m ((I, oI) :: (C, oC) :: (D, LCg.lst ys) :: news) { s with heap := h, toks := tk } (p k)) E' { s with heap := h, toks := tk })
    (fin : ∀ ys, StrsAre ys (ks.filter p) → ys.length ≤ vs.length → Fin ys news) : LCt.CompRestT prog w A h₀ L m env ct (.Name x px) x scope cl s S (fun i v => vs.toArray[i]? = some v) Fin vs.toArray.size 0 [] news := by
  have key : ∀ (j i : Nat) (ys : List Value), i + j = ks.length → StrsAre ys ((ks.take i).filter p) → LCt.CompRestT prog w A h₀ L m env ct (.Name x px) x scope cl s S (fun i v => vs.toArray[i]? = some v) Fin j i ys news := by
    intro j
    induction j with
    | zero =>
      intro i ys hij hy
      have e : i = ks.length := by omega
      subst e
      rw [List.take_length] at hy
      refine LCt.CompRestT.zero (fin ys hy ?_)
      rw [hy.length, hi.length]
      exact List.length_filter_le _ _
    | succ j ih =>
      intro i ys hij hy
      refine LCt.CompRestT.succ ?_
      intro v I oI C oC D m₂ h tk E' hv hC hxv F N off ne
      have hlt : i < ks.length := by omega
      have hk' : ks[i]? = some ks[i] := List.getElem?_eq_getElem hlt
      obtain ⟨t, ht⟩ := hi.get i ks[i] hk'
      have hv' : v = .str ks[i] t := by
        have h2 : vs[i]? = some v := by simpa using hv
        rw [ht] at h2
        exact (Option.some.inj h2).symm
      subst hv'
      have hs : (ks.take (i + 1)).filter p = (ks.take i).filter p ++ (if p ks[i] = true then [ks[i]] else []) := by
        rw [List.take_add_one, hk', List.filter_append]
        simp only [Option.toList]
        cases hp : p ks[i] with
        | true => simp [hp]
        | false => simp [hp]
      refine wpAny_mono (turn _ t I oI C oC D m₂ ys h tk E' (List.getElem_mem _) hC hxv F N off ne) (fun b s₂ hb => ?_) fun _ _ e => e
      obtain ⟨rfl, h', tk', rfl, F', N'⟩ := hb
      cases hp : p ks[i] with
      | true =>
        simp only [if_true]
        refine comp_name hk hx hd hC hxv (N' (C, oC) (.tail _ (.head _))).1 ?_
        refine ⟨h', tk', news, rfl, F', N', off, hS, ih (i + 1) _ (by omega) ?_⟩
        rw [hs, hp]
        exact strs_snoc hy
      | false =>
        simp only [Bool.false_eq_true, if_false]
        refine ⟨h', tk', news, rfl, F', N', off, hS, ih (i + 1) _ (by omega) ?_⟩
        rw [hs, hp]
        simpa using hy
  have e : vs.toArray.size = ks.length := by simp [hi.length]
  rw [e]
  exact key ks.length 0 [] (by omega) (by simpa using StrsAre.nil)
end
end Mine
end
section
open PySem PySem.W PyProof.Rows PySem.Calls PySem.SeqAt PySem.Spec
set_option maxHeartbeats 8000000
namespace Mine
def OkS (ys : List Str) : Prop := ∀ y ∈ ys, PyData.canLay0 (.str y) = true
theorem OkS.filter {ys : List Str} (h : OkS ys) (p : Str → Bool) : OkS (ys.filter p) := fun y hy => h y (List.mem_filter.mp hy).1
theorem OkS.append {ys zs : List Str} (h : OkS ys) (k : OkS zs) : OkS (ys ++ zs) := fun y hy => (List.mem_append.mp hy).elim (h y) (k y)
theorem canLay_strs : ∀ {ys : List Str}, OkS ys → PyData.canLayAll0 (ys.map PyData.str) = true
  | [], _ => by simp [PyData.canLayAll0]
  | y :: r, h => by
    have h1 := h y (.head _)
    have h2 := canLay_strs fun z hz => h z (.tail _ hz)
    simp only [List.map_cons, PyData.canLayAll0, h1, h2, Bool.and_self]
theorem depth_strs : ∀ ys : List Str, PyData.depthAll (ys.map PyData.str) ≤ 1
  | [] => by simp [PyData.depthAll]
  | y :: r => by
    have := depth_strs r
    simp only [List.map_cons, PyData.depthAll, PyData.depth]
    omega
theorem shaped_strsL {ys : List Str} (h : OkS ys) : shaped (.list (ys.map PyData.str)) = true := by
  have h1 := depth_strs ys
  have h2 : PyData.depth (.list (ys.map PyData.str)) ≤ 64 := by simp only [PyData.depth]; omega
  show (PyData.canLay0 (.list (ys.map PyData.str)) && decide (PyData.depth (.list (ys.map PyData.str)) ≤ 64)) = true
  rw [Bool.and_eq_true]
  exact ⟨by simp only [PyData.canLay0]; exact canLay_strs h, decide_eq_true h2⟩
theorem shaped_strsT {ys : List Str} (h : OkS ys) : shaped (.tuple (ys.map PyData.str)) = true := by
  have h1 := depth_strs ys
  have h2 : PyData.depth (.tuple (ys.map PyData.str)) ≤ 64 := by simp only [PyData.depth]; omega
  show (PyData.canLay0 (.tuple (ys.map PyData.str)) && decide (PyData.depth (.tuple (ys.map PyData.str)) ≤ 64)) = true
  rw [Bool.and_eq_true]
  exact ⟨by simp only [PyData.canLay0]; exact canLay_strs h, decide_eq_true h2⟩
theorem shaped_nil : shaped (.list []) = true := by decide
theorem readsL {h : Heap} {a : Addr} {vs : List Value} {ys : List Str} (hl : h.IsList a vs.toArray) (hi : StrsAre vs ys) : Reads h (.ref a) (.list (ys.map PyData.str)) [a] := by
  obtain ⟨o, ho, hc, n, hd⟩ := hl
  exact Reads.list ho hc hd (by simpa using StrsAre.reads h hi)
theorem readsT {h : Heap} {a : Addr} {vs : List Value} {ys : List Str} (hl : IsTup h a vs.toArray) (hi : StrsAre vs ys) : Reads h (.ref a) (.tuple (ys.map PyData.str)) [] := by
  obtain ⟨o, ho, hc, n, hd⟩ := hl
  exact Reads.tuple ho hc hd (by simpa using StrsAre.reads h hi)
theorem readsNil {h : Heap} {a : Addr} (hl : h.IsList a #[]) : Reads h (.ref a) (.list []) [a] := by
  obtain ⟨o, ho, hc, n, hd⟩ := hl
  exact Reads.list ho hc hd .nil
section
variable {prog : Program} {w : World} {A : Around} {E : Value → Shared → Prop} {s : Shared}
theorem same_nilS (ys : List Str) : Spec.same (.list (ys.map PyData.str)) (.list []) = ys.isEmpty := by cases ys <;> simp [Spec.same, Spec.sameAll]
theorem noMix_nilS (ys : List Str) : noMix (.list (ys.map PyData.str)) (.list []) = true := by cases ys <;> simp [noMix, noMixAll]
theorem eq_nilS {a b : Addr} {vs : List Value} {ys : List Str} {Q : Value → Shared → Prop} (hl : s.heap.IsList a vs.toArray) (hi : StrsAre vs ys) (hok : OkS ys) (hl' : s.heap.IsList b #[]) (hu : A.units + 64 < cLine)
    (h : Q (.bool ys.isEmpty) s) : wpAny (model prog w) A (compareOp .Eq (.ref a) (.ref b)) Q E s :=
  eq_dataH_same (readsL hl hi) (readsNil hl') (shaped_strsL hok) shaped_nil hu (noMix_nilS ys) (by rw [same_nilS]; exact h)
theorem ne_nilS {a b : Addr} {vs : List Value} {ys : List Str} {Q : Value → Shared → Prop} (hl : s.heap.IsList a vs.toArray) (hi : StrsAre vs ys) (hok : OkS ys) (hl' : s.heap.IsList b #[]) (hu : A.units + 64 < cLine)
    (h : Q (.bool (!ys.isEmpty)) s) : wpAny (model prog w) A (compareOp .NotEq (.ref a) (.ref b)) Q E s :=
  ne_dataH_same (readsL hl hi) (readsNil hl') (shaped_strsL hok) shaped_nil hu (noMix_nilS ys) (by rw [same_nilS]; exact h)
/-- a tuple of texts among the tuples of texts of a table -/
theorem noMix_strs : ∀ ys zs : List Str, noMixAll (ys.map PyData.str) (zs.map PyData.str) = true
  | [], [] => by simp [noMixAll]
  | [], _ :: _ => by simp [noMixAll]
  | _ :: _, [] => by simp [noMixAll]
  | _ :: r, _ :: q => by simp [noMixAll, noMix, noMix_strs r q]
theorem same_strs : ∀ ys zs : List Str, Spec.sameAll (ys.map PyData.str) (zs.map PyData.str) = decide (ys = zs)
  | [], [] => by simp [Spec.sameAll]
  | [], _ :: _ => by simp [Spec.sameAll]
  | _ :: _, [] => by simp [Spec.sameAll]
  | n :: r, k :: q => by
    simp only [List.map_cons, Spec.sameAll, Spec.same, same_strs r q]
    by_cases h : n = k <;> simp [h]
theorem count_strs (zs : List Str) : ∀ ts : List (List Str), decide (countIn (.tuple (zs.map PyData.str)) (ts.map fun t => PyData.tuple (t.map PyData.str)) ≠ 0) = ts.any (· == zs)
  | [] => by simp [Spec.countIn]
  | t :: r => by
    have ih := count_strs zs r
    have h0 := countIn_ge0 (.tuple (zs.map PyData.str)) (r.map fun t => PyData.tuple (t.map PyData.str))
    simp only [List.map_cons, Spec.countIn, Spec.same, same_strs, List.any_cons]
    by_cases h : t = zs
    · subst h
      simp
      omega
    · have hb : (t == zs) = false := by simpa using h
      rw [hb, Bool.false_or, ← ih]
      simp [h]
theorem notin_seen {a b : Addr} {vs : List Value} {ys : List Str} {ts : List (List Str)} {as : List Addr} {Q : Value → Shared → Prop} (hl : IsTup s.heap a vs.toArray) (hi : StrsAre vs ys) (hok : OkS ys)
    (hr : Reads s.heap (.ref b) (.tuple (ts.map fun t => PyData.tuple (t.map PyData.str))) as) (hsh : shaped (.tuple (ts.map fun t => PyData.tuple (t.map PyData.str))) = true) (hu : A.units + 65 < cLine)
    (h : Q (.bool (!ts.any (· == ys))) s) : wpAny (model prog w) A (compareOp .NotIn (.ref a) (.ref b)) Q E s :=
  notIn_tuple_dataH hr (readsT hl hi) hsh (shaped_strsT hok) hu (by
    intro y hy
    obtain ⟨t, _, rfl⟩ := List.mem_map.mp hy
    simp only [noMix]
    exact noMix_strs t ys) (by rw [count_strs]; exact h)
end
end Mine
end
section
open PySem PySem.W PyProof.Rows PySem.Calls
set_option maxHeartbeats 8000000
namespace Mine
def isSlot (k : Str) : Bool := [Str.ofString "abstract", Str.ofString "virtual", Str.ofString "override"].any fun x => x == k
def lflagsA (ws : List Str) : Int := if (ws.filter isSlot).isEmpty = true then 0 else if (ws.any fun x => x == Str.ofString "override") = true then 2 else 6
def lflagsB (ws : List Str) : Int := if (ws.any fun x => x == Str.ofString "static") = true then lflagsA ws + 1 else lflagsA ws + 0
def lflagsC (ws : List Str) : Int := if (ws.any fun x => x == Str.ofString "abstract") = true then lflagsB ws + 8 else lflagsB ws + 0
def lflagsOf (ws : List Str) : Int := if ((ws.any fun x => x == Str.ofString "override") && ws.any fun x => x == Str.ofString "sealed") = true then lflagsC ws + 16 else lflagsC ws
section
local macro_rules | `(tactic| k_mem) => `(tactic| first | exact List.mem_cons_self | assumption | (refine List.mem_cons_of_mem _ ?_; k_mem))
local macro_rules | `(tactic| walk_at "KB") => `(tactic| (first | exact KB.intro rfl (by k_asm) (by k_asm) | exact KB.intro rfl (by k_asm) (cb_drop (by k_asm) (by kcj_all))))
local macro_rules | `(tactic| walk_at "CompSrcT") => `(tactic| (k_here; k_dflt ((refine LCt.CompSrcT.ledger (by rfl) (by k_asm) (by k_asm) (by k_mem) (by (simp only [List.size_toArray, PySem.sizeLine_eq]; omega)) ?_); intro g'; (refine' str_rest isSlot (by assumption) (by rfl) (by rfl) (by decide) (Or.inr ⟨_, by k_mem, rfl, _, rfl⟩) (fun k' t' I' oI' C' oC' D' m' ys' h' tk' E' hk' hC' hx' F' N' off' ne' => ?_) (fun ys hys hyl => ?_)))))
local macro_rules | `(tactic| walk_at "compareOp In str ref") => `(tactic| (k_here; k_dflt (refine in_list_strs (News.isList (by k_asm) (by k_mem)) (by assumption) ?_)))
local macro_rules | `(tactic| walk_at "compareOp NotIn str ref") => `(tactic| (k_here; k_dflt (refine notin_list_strs (News.isList (by k_asm) (by k_mem)) (by assumption) ?_)))
local macro_rules | `(tactic| walk_at "compareOp Eq ref ref") => `(tactic| (k_here; k_dflt (refine eq_nilS (News.isList (by k_asm) (by k_mem)) (by assumption) (by first | assumption | exact OkS.filter (by assumption) _) (News.isList (by k_asm) (by k_mem)) (by ktr_units) ?_)))
local macro_rules | `(tactic| walk_at "isTrue BoolOp") => `(tactic| (k_here; (with_reducible show wpAny _ _ (isTrue (Expr.BoolOp BoolOp.And [_, _] _) _ _) _ _ _); (rename Fr _ _ _ _ => aF'); (rename News _ _ _ _ => aN'); k_dflt ((refine' and2 aF' aN' ?ah1 ?ah2 ?_); (case ah1 => ((try k_fold); k_steps)); (case ah2 => (intro h9 tk9 F9 N9; (try k_fold); k_steps)); (intro h9 tk9 F9 N9))))
theorem lflags_call (w : World) (mean : ExcName → Option Value) (mg mb : Str → Option Value) (news : List (Addr × Obj)) (l : Addr) (vs : List Value) (ws : List Str) (nn : Nat) (hm : (l, listOf vs.toArray nn) ∈ news) (hs : StrsAre vs ws) (hok : OkS ws) (hb : vs.length ≤ 64) :
    Clm 16 w mean mg mb 110 news [.ref l] (OutI news (lflagsOf ws)) := by
  unfold Clm
  w_top off
  k_fill
  intro dp un gd cn cs a ccd cl outer A₀ base h₀ L m s Q E B F X N T hk hd hu hret
  refine wpAny_call ?_
  k_dflt cell_enter
  k_steps
  all_goals (refine out_int hret ?_ (by k_asm) (by first | k_asm | exact cb_drop (by k_asm) (by kcj_all)))
  all_goals (unfold lflagsOf lflagsC lflagsB lflagsA; (repeat (first | rw [if_pos (by assumption)] | rw [if_neg (by first | assumption | (simp only [Bool.not_eq_true]; assumption))])))
end
end Mine
end
section
open PySem PySem.W PyProof.Rows PySem.Calls
set_option maxHeartbeats 8000000
namespace Mine
theorem adjust_upto (b n : Nat) (hb : b ≤ n) : Builtin.Slice.sliceAdjust none (some (b : Int)) 1 (n : Int) = (0, (b : Int)) := by
  unfold Builtin.Slice.sliceAdjust
  have h1 : ¬ ((1 : Int) < 0) := by omega
  have h2 : ¬ ((b : Int) < 0) := by omega
  simp only [h1, h2, if_false]
  congr 1
  omega
theorem places_upto (b : Nat) : Builtin.Slice.slicePlaces 0 (b : Int) 1 = b := by
  unfold Builtin.Slice.slicePlaces
  have h1 : (1 : Int) > 0 := by omega
  simp only [h1, if_true, Int.ediv_one]
  split <;> omega
section
variable {prog : Program} {w : World} {A : Around} {E : Value → Shared → Prop} {s : Shared}
theorem sliceApplied_upto {sl : Addr} {b n : Nat} {u : Tok} {Q : Int × Int × Nat → Shared → Prop} (hs : s.heap.IsSliceOf sl .none (.int b u) .none) (hb : b ≤ n) (h : Q (0, 1, b) s) :
    wpAny (model prog w) A (Builtin.Slice.sliceApplied (.ref sl) (pure (n : Int))) Q E s := by
  obtain ⟨os, hos, hcs, hds⟩ := id hs
  unfold Builtin.Slice.sliceApplied Builtin.Slice.sliceFields
  refine wpAny_bind (wpAny_bind (wpAny_field hos hds (x := .none) rfl (wpAny_bind (wpAny_field hos hds (x := .int b u) rfl (wpAny_bind (wpAny_field hos hds (x := .none) rfl (wpAny_pure ?_)))))))
  refine wpAny_bind (slicePart_none ?_)
  show wpAny _ _ (if ((1 : Int) == 0) = true then _ else _) _ _ s
  rw [if_neg (by decide)]
  refine wpAny_bind (slicePart_none (wpAny_bind (slicePart_int (wpAny_bind (wpAny_pure ?_)))))
  show wpAny _ _ (match Builtin.Slice.sliceAdjust none (some (b : Int)) 1 (n : Int) with | (lo, hi) => pure (lo, (1 : Int), Builtin.Slice.slicePlaces lo hi 1)) _ _ s
  rw [adjust_upto b n hb]
  show wpAny _ _ (pure ((0 : Int), (1 : Int), Builtin.Slice.slicePlaces 0 (b : Int) 1)) _ _ s
  rw [places_upto b]
  exact wpAny_pure h
theorem pick_upto (xs : Array Value) (b : Nat) (_hb : b ≤ xs.size) : ((List.range b).filterMap fun (k : Nat) => xs[((0 : Int) + (k : Int) * 1).toNat]?).toArray = (xs.toList.take b).toArray := by
  have e : (fun (k : Nat) => xs[((0 : Int) + (k : Int) * 1).toNat]?) = fun k => xs[0 + k]? := by
    funext k
    have : ((0 : Int) + (k : Int) * 1).toNat = 0 + k := by omega
    rw [this]
  rw [e]
  have := pick_run xs 0 b
  rw [List.filterMap_map] at this
  have e2 : ((fun x => xs[x]?) ∘ fun x => 0 + x) = fun k => xs[0 + k]? := rfl
  rw [e2] at this
  rw [this, List.drop_zero]
theorem getItem_tuple_upto {t sl : Addr} {items : Array Value} {b : Nat} {u : Tok} {Q : Value → Shared → Prop} (ht : IsTup s.heap t items) (hs : s.heap.IsSliceOf sl .none (.int b u) .none) (hb : b < items.size)
    (h : Q (.ref s.heap.objs.size) { s with heap := s.heap.push { cls := .type "tuple", data := .seq (items.toList.take b).toArray } })
    (hsz : items.size ≤ sizeLine := by size_fits) : wpAny (model prog w) A (getItem (.ref t) (.ref sl)) Q E s := by
  have hdrop : sizeOk (.seq (items.toList.take b).toArray) := by
    show (items.toList.take b).toArray.size ≤ sizeLine
    rw [List.size_toArray, List.length_take, Array.length_toList]
    omega
  obtain ⟨os, hos, hcs, hds⟩ := id hs
  have hTs : s.TypeIs (.ref sl) "slice" := ⟨os, hos, hcs⟩
  unfold getItem
  try with_reducible refine wpAny_holding ?_
  first | refine wpAny_bind (wpAny_pure ?_) | skip
  refine wpAny_bind (wpAny_sequenceKey ht.typeIs (by decide) ?_)
  refine wpAny_bind (wpAny_callSpecial?_slot (name := Str.ofString "__getitem__") ht.typeIs slot_tuple_getitem
    (wpAny_call_entry slot_tuple_getitem ht.typeIs entry_tuple_getitem ?_ (args_tuple_getitem _ _)))
  show wpAny _ _ (Builtin.Tuple.tupleItemsOf (.ref t) >>= _) _ _ s
  refine wpAny_bind (tupleItemsOf_ ht ?_)
  refine wpAny_bind (wpAny_typeOf hTs ?_)
  rw [if_pos (by decide)]
  refine wpAny_bind (sliceApplied_upto hs (Nat.le_of_lt hb) ?_)
  have hno : ¬ (((0 : Int) == 0 && (1 : Int) == 1 && b == items.size) = true) := by
    have : (b == items.size) = false := by rw [beq_eq_false_iff_ne]; omega
    rw [this]; simp
  show wpAny _ _ (if ((0 : Int) == 0 && (1 : Int) == 1 && b == items.size) = true then _ else _) _ _ s
  rw [if_neg hno, pick_upto items b (Nat.le_of_lt hb)]
  first
    | exact wpAny_bind (m := Builtin.Tuple.tupleExact _) (wpAny_newObj_type (wpAny_pure ⟨_, rfl, wpAny_pure h⟩) hdrop)
    | exact wpAny_bind (m := Builtin.Tuple.tupleExact _) (wpAny_newObj_type (wpAny_bind (wpAny_pure (wpAny_pure ⟨_, rfl, wpAny_pure h⟩))) hdrop)
    | exact wpAny_bind (wpAny_bind (m := Builtin.Tuple.tupleExact _) (wpAny_newObj_type (wpAny_pure (wpAny_pure ⟨_, rfl, wpAny_pure h⟩)) hdrop))
    | exact wpAny_bind (wpAny_bind (m := Builtin.Tuple.tupleExact _) (wpAny_newObj_type (wpAny_pure ⟨_, rfl, wpAny_pure h⟩) hdrop))
end
section
variable {prog : Program} {w : World} {A : Around} {E : Value → Shared → Prop} {s : Shared} {h₀ : Heap} {L : Addr} {m : Str → Option Value} {news : List (Addr × Obj)}
theorem slice_tuple_upto {value slice : Expr} {t : Addr} {items : Array Value} {b : Nat} {u : Tok} {zs : List Value} {Q : Value → Shared → Prop}
    (F : Fr h₀ L s.heap m) (N : News h₀ L s.heap news) (ht : IsTup s.heap t items) (hb : b < items.size) (e : items.toList.take b = zs)
    (h : ∀ D h', Fr h₀ L h' m → News h₀ L h' ((D, { cls := .type "tuple", data := .seq zs.toArray }) :: news) → (∀ p ∈ news, p.1 < D) → Q (.ref D) { s with heap := h' })
    (hs : subscripted slice false (.ref t) (.ref s.heap.objs.size) = operate [.ref s.heap.objs.size, .ref t] (getItem (.ref t) (.ref s.heap.objs.size)) := by with_unfolding_all rfl)
    (hg : ∀ r, letTemporaryGo value (.ref t) r = pure () := by intro _; with_unfolding_all rfl)
    (hsz : items.size ≤ sizeLine := by size_fits) :
    wpAny (model prog w) A (subscriptTail value slice (.ref t) (.ref s.heap.objs.size)) Q E { s with heap := s.heap.push { cls := .type "slice", data := .fields #[.none, .int b u, .none] } } := by
  subst e
  have ht' : IsTup (s.heap.push { cls := .type "slice", data := .fields #[.none, .int b u, .none] }) t items := ht.keeps fun _ _ e => Heap.get?_push_of_some _ e
  refine subscriptTail_ops (s := { s with heap := s.heap.push { cls := .type "slice", data := .fields #[.none, .int b u, .none] } }) ht'.typeIs slot_tuple_getitem.lookup
    (getItem_tuple_upto ht' (Heap.IsSliceOf.new ..) hb ?_ hsz) hs hg
  have N1 := News.push (F.push { cls := .type "slice", data := .fields #[.none, .int b u, .none] }) (N.grown fun _ _ e => Heap.get?_push_of_some _ e) { cls := .type "tuple", data := .seq (items.toList.take b).toArray }
  rw [Heap.size_push] at N1
  show Q (.ref (s.heap.push _).objs.size) _
  rw [Heap.size_push]
  exact h _ _ ((F.push _).push _) N1 fun p hp => Nat.lt_succ_of_lt (Heap.lt_size (N p hp).1)
end
end Mine
end
section
open PySem PySem.W PyProof.Rows PySem.Calls
set_option maxHeartbeats 8000000
namespace Mine
def seenT : List (List Str) := [[Str.ofString "public"], [Str.ofString "protected"], [Str.ofString "internal"], [Str.ofString "protected", Str.ofString "internal"], [Str.ofString "private", Str.ofString "protected"]]
theorem reads_tup {h : Heap} {a : Addr} {o : Obj} {vs : List Value} {n : Nat} {xs : List PyData} (e : h.get? a = some o) (hc : o.cls = .type "tuple") (hd : o.data = .seq vs.toArray n) (r : ReadsAll h vs xs []) : Reads h (.ref a) (.tuple xs) [] := Reads.tuple e hc hd (by simpa using r)
theorem reads_cons {h : Heap} {v : Value} {vs : List Value} {d : PyData} {ds : List PyData} (x : Reads h v d []) (r : ReadsAll h vs ds []) : ReadsAll h (v :: vs) (d :: ds) [] := ReadsAll.cons x r
theorem seen_reads (w : World) {h : Heap} (X : (hd.heap_39 w.params).In h) : Reads h (.ref 95) (.tuple (seenT.map fun t => PyData.tuple (t.map PyData.str))) [] := by
  have e95 := X 95 _ rfl
  have e90 := X 90 _ rfl
  have e91 := X 91 _ rfl
  have e92 := X 92 _ rfl
  have e93 := X 93 _ rfl
  have e94 := X 94 _ rfl
  exact reads_tup e95 rfl rfl (reads_cons (reads_tup e90 rfl rfl (reads_cons (.str _ _) .nil)) (reads_cons (reads_tup e91 rfl rfl (reads_cons (.str _ _) .nil)) (reads_cons (reads_tup e92 rfl rfl (reads_cons (.str _ _) .nil))
    (reads_cons (reads_tup e93 rfl rfl (reads_cons (.str _ _) (reads_cons (.str _ _) .nil))) (reads_cons (reads_tup e94 rfl rfl (reads_cons (.str _ _) (reads_cons (.str _ _) .nil))) .nil)))))
theorem seen_shaped : PySem.SeqAt.shaped (.tuple (seenT.map fun t => PyData.tuple (t.map PyData.str))) = true := by decide +kernel
end Mine
end
section
open PySem PySem.W PyProof.Rows PySem.Calls
set_option maxHeartbeats 8000000
namespace Mine
section
variable {prog : Program} {w : World} {A : Around} {E : Value → Shared → Prop} {s : Shared} {env : Env} {h₀ : Heap} {L : Addr} {m : Str → Option Value} {news : List (Addr × Obj)}
/-- the end of an arm that appends one text -/
def KA (h₀ : Heap) (L : Addr) (m : Str → Option Value) (news : List (Addr × Obj)) (l : Addr) (us : List Value) (c : Str) (s : Shared) (f : Flow) (s' : Shared) : Prop :=
  f = .next ∧ ∃ h tk t nn, s' = { s with heap := h, toks := tk } ∧ Fr h₀ L h m ∧ News h₀ L h ((l, listOf (us ++ [Value.str c t]).toArray nn) :: news)
theorem KA.intro {l : Addr} {us : List Value} {c : Str} {h : Heap} {tk nn : Nat} {t : Tok} (F : Fr h₀ L h m) (N : News h₀ L h ((l, listOf (us.toArray.push (Value.str c t)) nn) :: news)) : KA h₀ L m news l us c s .next { s with heap := h, toks := tk } :=
  ⟨rfl, h, tk, t, nn, rfl, F, by rw [List.push_toArray] at N; exact N⟩
theorem if_join {test : Expr} {body : List Stmt} {pos : Pos} {b : Bool} {l : Addr} {us : List Value} {nn : Nat} {fs : List Str} {c : Str} {Q : Flow → Shared → Prop}
    (_F : Fr h₀ L s.heap m) (_N : News h₀ L s.heap ((l, listOf us.toArray nn) :: news)) (hs : StrsAre us fs)
    (h1 : wpAny (model prog w) A (isTrue test env (eval test env)) (KB h₀ L m ((l, listOf us.toArray nn) :: news) s b) E s)
    (h2 : ∀ h tk, Fr h₀ L h m → News h₀ L h ((l, listOf us.toArray nn) :: news) → wpAny (model prog w) A (execs body env) (KA h₀ L m news l us c { s with heap := h, toks := tk }) E { s with heap := h, toks := tk })
    (hk : ∀ us' nn' h tk, StrsAre us' (fs ++ if b = true then [c] else []) → us'.length ≤ us.length + 1 → Fr h₀ L h m → News h₀ L h ((l, listOf us'.toArray nn') :: news) → Q .next { s with heap := h, toks := tk }) :
    wpAny (model prog w) A (exec (.If test body [] pos) env) Q E s := by
  refine wpAny_If (wpAny_mono h1 (fun b' s₁ hb => ?_) fun _ _ e => e)
  obtain ⟨rfl, h, tk, rfl, F, N⟩ := hb
  cases b' with
  | false =>
    simp only [Bool.false_eq_true, if_false] at hk ⊢
    exact wpAny_execs_nil (hk us nn h tk (by simpa using hs) (Nat.le_succ _) F N)
  | true =>
    simp only [if_true] at hk ⊢
    refine wpAny_mono (h2 h tk F N) (fun f s₂ hf => ?_) fun _ _ e => e
    obtain ⟨rfl, h', tk', t, nn', rfl, F', N'⟩ := hf
    exact hk _ nn' h' tk' (strs_snoc hs) (by simp) F' N'
theorem ifexp_str {test : Expr} {x y : Str} {k1 k2 : Nat} {p1 p2 pos : Pos} {b : Bool} {Q : Value → Shared → Prop} (_F : Fr h₀ L s.heap m) (_N : News h₀ L s.heap news)
    (h1 : wpAny (model prog w) A (isTrue test env (eval test env)) (KB h₀ L m news s b) E s)
    (hk : ∀ t h tk, Fr h₀ L h m → News h₀ L h news → Q (.str (if b = true then x else y) t) { s with heap := h, toks := tk }) :
    wpAny (model prog w) A (eval (.IfExp test (.Constant (.str x) k1 p1) (.Constant (.str y) k2 p2) pos) env) Q E s := by
  refine IfExp_ (wpAny_mono h1 (fun b' s₁ hb => ?_) fun _ _ e => e)
  obtain ⟨rfl, h, tk, rfl, F, N⟩ := hb
  cases b' with
  | false =>
    simp only [Bool.false_eq_true, if_false] at hk ⊢
    exact Constant_str (hk _ h _ F N)
  | true =>
    simp only [if_true] at hk ⊢
    exact Constant_str (hk _ h _ F N)
theorem add_strs {l b : Addr} {us vs : List Value} {Q : Value → Shared → Prop} (F : Fr h₀ L s.heap m) (N : News h₀ L s.heap news) (hl : s.heap.IsList l us.toArray) (hb : s.heap.IsList b vs.toArray) (hz : us.length + vs.length ≤ sizeLine)
    (h : ∀ D h', Fr h₀ L h' m → News h₀ L h' ((D, listOf (us ++ vs).toArray 0) :: news) → (∀ p ∈ news, p.1 < D) → Q (.ref D) { s with heap := h' }) : wpAny (model prog w) A (binaryOp .Add (.ref l) (.ref b)) Q E s :=
  add_arrays F N hl hb (fun h' F' N' => h _ h' F' N' fun p hp => Heap.lt_size (N p hp).1) (by simpa using hz)
end
end Mine
end
section
open PySem PySem.W PyProof.Rows PySem.Calls
set_option maxHeartbeats 8000000
namespace Mine
def isAcc (k : Str) : Bool := [Str.ofString "public", Str.ofString "private", Str.ofString "protected", Str.ofString "internal"].any fun x => x == k
def factsH (sort shut : Int) (ws : List Str) : List Str :=
  ((([if (shut.fmod 2 == 1) = true then Str.ofString "of an abstract type" else Str.ofString "of a whole type"] ++ if (!ws.any fun x => x == Str.ofString "override") = true then [Str.ofString "stands for none"] else []) ++ if (!seenT.any fun x => x == List.filter isAcc ws) = true then [Str.ofString "seen by none"] else []) ++ if (sort == 2) = true then [Str.ofString "of a struct"] else []) ++ if decide (2 ≤ shut) = true then [Str.ofString "of a sealed type"] else []
def factsOf (sort shut : Int) (ws : List Str) : List Str := factsH sort shut ws ++ ws
theorem facts_len (sort shut : Int) (ws : List Str) : (factsOf sort shut ws).length ≤ ws.length + 5 := by
  unfold factsOf factsH
  simp only [List.length_append, List.length_cons, List.length_nil]
  (repeat' split) <;> simp only [List.length_cons, List.length_nil] <;> omega
theorem facts_ok (sort shut : Int) {ws : List Str} (h : OkS ws) : OkS (factsOf sort shut ws) := by
  unfold factsOf
  refine OkS.append ?_ h
  have one : ∀ t : String, PyData.canLay0 (.str (Str.ofString t)) = true → OkS [Str.ofString t] := fun t ht y hy => by rw [List.mem_singleton.mp hy]; exact ht
  have nil : OkS [] := fun y hy => nomatch hy
  unfold factsH
  refine OkS.append (OkS.append (OkS.append (OkS.append ?_ ?_) ?_) ?_) ?_
  all_goals (split)
  all_goals first | exact nil | exact one _ (by decide +kernel)
theorem lt_tail {q : Addr × Obj} {news : List (Addr × Obj)} {D : Addr} (h : ∀ p ∈ q :: news, p.1 < D) : ∀ p ∈ news, p.1 < D := fun p hp => h p (List.mem_cons_of_mem _ hp)
/-- a new list of texts comes back -/
abbrev OutL (news : List (Addr × Obj)) (fs : List Str) (h₀ : Heap) (L : Addr) (m : Str → Option Value) (s : Shared) (Q : Value → Shared → Prop) : Prop :=
  ∀ (D : Addr) (us : List Value) (nn : Nat) (h' : Heap) (tk' : Nat), Fr h₀ L h' m → News h₀ L h' ((D, listOf us.toArray nn) :: news) → (∀ p ∈ news, p.1 < D) → StrsAre us fs → Q (.ref D) { s with heap := h', toks := tk' }
section
local macro_rules | `(tactic| k_mem) => `(tactic| first | exact List.mem_cons_self | assumption | (refine List.mem_cons_of_mem _ ?_; k_mem))
local macro_rules | `(tactic| walk_at "KB") => `(tactic| (first | exact KB.intro rfl (by k_asm) (by k_asm) | exact KB.intro rfl (by k_asm) (cb_drop (by k_asm) (by kcj_all))))
local macro_rules | `(tactic| walk_at "KA") => `(tactic| exact KA.intro (by k_asm) (by k_asm))
local macro_rules | `(tactic| walk_at "CompSrcT") => `(tactic| (k_here; k_dflt ((refine LCt.CompSrcT.ledger (by rfl) (by k_asm) (by k_asm) (by k_mem) (by (simp only [List.size_toArray, PySem.sizeLine_eq]; omega)) ?_); intro g'; (refine' str_rest isAcc (by assumption) (by rfl) (by rfl) (by decide) (Or.inr ⟨_, by k_mem, rfl, _, rfl⟩) (fun k' t' I' oI' C' oC' D' m' ys' h' tk' E' hk' hC' hx' F' N' off' ne' => ?_) (fun ys hys hyl => ?_)))))
local macro_rules | `(tactic| walk_at "compareOp In str ref") => `(tactic| (k_here; k_dflt (refine in_list_strs (News.isList (by k_asm) (by k_mem)) (by assumption) ?_)))
local macro_rules | `(tactic| walk_at "compareOp NotIn str ref") => `(tactic| (k_here; k_dflt (refine notin_list_strs (News.isList (by k_asm) (by k_mem)) (by assumption) ?_)))
local macro_rules | `(tactic| walk_at "subscriptTail Name Slice ref ref") => `(tactic| (k_here; (with_reducible show wpAny _ _ (subscriptTail _ (PySem.Expr.Slice none (some _) none _) (Value.ref 58) (Value.ref _)) _ _ _); k_dflt (refine' slice_tuple_upto (b := 4) ?F ?N ?t ?b ?e ?_ ?s ?g ?z; (case F => k_asm); (case N => k_asm); (case t => exact tupK (by k_in) (by k_is)); (case b => decide); (case e => kl_lit); (case s => with_unfolding_all rfl); (case g => (intro _; with_unfolding_all rfl)); (case z => exact Nat.le_of_ble_eq_true rfl)); intro D' h' F' N' l1; (try k_lt l1); (try k_sweep)))
local macro_rules | `(tactic| walk_at "compareOp NotIn ref ref") => `(tactic| (k_here; (with_reducible show wpAny _ _ (compareOp CmpOp.NotIn _ (Value.ref 95)) _ _ _); k_dflt (refine notin_seen (News.isTup (by k_asm) (by k_mem)) (by assumption) (OkS.filter (by assumption) _) (seen_reads _ (by k_in)) seen_shaped (by ktr_units) ?_)))
local macro_rules | `(tactic| walk_at "exec If") => `(tactic| (k_here; (rename Fr _ _ _ _ => aF'); (rename News _ _ _ _ => aN'); k_dflt ((refine' if_join aF' aN' (by first | assumption | exact .cons _ _ .nil) ?ah1 ?ah2 ?_); (case ah1 => ((try k_fold); k_steps)); (case ah2 => (intro h9 tk9 F9 N9; (try k_fold); k_steps)); (intro us9 nn9 h9 tk9 hS9 hl9 F9 N9; (try k_sweep)))))
local macro_rules | `(tactic| walk_at "eval IfExp") => `(tactic| (k_here; (rename Fr _ _ _ _ => aF'); (rename News _ _ _ _ => aN'); k_dflt ((refine' ifexp_str aF' aN' ?ah1 ?_); (case ah1 => ((try k_fold); k_steps)); (intro t9 h9 tk9 F9 N9; (try k_sweep)))))
local macro_rules | `(tactic| walk_at "binaryOp Add ref ref") => `(tactic| (k_here; k_dflt (refine add_strs (by k_asm) (by k_asm) (News.isList (by k_asm) (by k_mem)) (News.isList (by k_asm) (by k_mem)) (by (simp only [PySem.sizeLine_eq, List.length_cons, List.length_nil] at *; omega)) ?_); intro D' h' F' N' l1; (try k_sweep)))
theorem facts_call (w : World) (mean : ExcName → Option Value) (mg mb : Str → Option Value) (news : List (Addr × Obj)) (sort shut : Int) (t1 t2 : Tok) (l : Addr) (vs : List Value) (ws : List Str) (nn : Nat) (hm : (l, listOf vs.toArray nn) ∈ news) (hs : StrsAre vs ws) (hok : OkS ws) (hb : vs.length ≤ 64) :
    Clm 16 w mean mg mb 100 news [.int sort t1, .int shut t2, .ref l] (OutL news (factsOf sort shut ws)) := by
  unfold Clm
  w_top off
  k_fill
  intro dp un gd cn cs a ccd cl outer A₀ base h₀ L m s Q E B F X N T hk hd hu hret
  have hMk := kstMark
  refine wpAny_call ?_
  k_dflt cell_enter
  k_steps
  refine hret _ _ _ _ _ (by k_asm) (cb_drop (by k_asm) (by kcj_all)) (lt_tail (by assumption)) (StrsAre.append' (by assumption) (by assumption))
end
end Mine
end
section
open PySem PySem.W PyProof.Rows PySem.Calls PyProof.Rows.LCg
set_option maxHeartbeats 8000000
namespace Mine
section
variable {prog : Program} {w : World} {A : Around} {R : Result → Shared → Prop} {E : Value → Shared → Prop} {s : Shared} {env : Env} {h₀ : Heap} {m : Str → Option Value} {news : List (Addr × Obj)}
theorem compLoop_testsG {elt target iter ct : Expr} {scope : Scope} {pos : Pos} {it acc : Value} {cenv : Env} (I : Nat → Shared → Prop)
    (turn : ∀ n s, I n s → wpAny (model prog w) A (pyNext it) (fun r s₁ => match r with
      | none => R (.ok .next) s₁
      | some v => wpAny (model prog w) A (letOwnedTupleGo target it v) (fun _ s₀ => wpAny (model prog w) A (assign target cenv v) (fun _ s₂ =>
          wpAny (model prog w) A (isTrue ct cenv (eval ct cenv)) (fun ok s₃ =>
            if ok = true then wpAny (model prog w) A (eval elt cenv) (fun x s₄ =>
              wpAny (model prog w) A (call (.builtin "list.append") [acc, x]) (fun _ s₅ => ∃ m, m < n ∧ I m s₅) (fun _ _ => False) s₄) (fun _ _ => False) s₃
            else ∃ m, m < n ∧ I m s₃) (fun _ _ => False) s₂) (fun _ _ => False) s₀) (fun _ _ => False) s₁) (fun _ _ => False) s)
    (n : Nat) (h : I n s) : codeAny (model prog w) A (.compLoop (.ListComp elt [⟨target, iter, [ct], 0⟩] scope pos) 0 it acc cenv) R s := by
  refine codeAny_loop rfl I (fun n s hI => ?_) n h
  show wpAny _ A ((compTurn (.ListComp elt [⟨target, iter, [ct], 0⟩] scope pos) 0 it acc cenv).onRaise (fun x => do noteFrame x cenv; theTreesLotGoes x)) _ _ s
  refine wpAny_noted ?_
  rw [compTurn_list]
  refine wpAny_noRaise ?_
  refine wpAny_bind (wpAny_standAt (wpAny_bind (wpAny_mono (turn n s hI) (fun r s₁ h₁ => ?_) fun _ _ h' => h')))
  cases r with
  | none => exact wpAny_pure h₁
  | some v =>
    refine wpAny_bind (wpAny_mono h₁ (fun _ s₀ h₀' => ?_) fun _ _ h' => h')
    refine wpAny_bind (wpAny_mono h₀' (fun _ s₂ h₂ => ?_) fun _ _ h' => h')
    refine wpAny_bind (wpAny_tests_one ?_)
    refine wpAny_mono h₂ (fun ok s₃ h₃ => ?_) fun _ _ h' => h'
    cases ok with
    | false =>
      simp only [Bool.false_eq_true, if_false] at h₃ ⊢
      exact wpAny_pure ⟨rfl, h₃⟩
    | true =>
      simp only [if_true] at h₃ ⊢
      exact wpAny_bind (wpAny_bind (wpAny_mono h₃ (fun x s₄ h₄ => wpAny_bind (wpAny_mono h₄ (fun _ s₅ h₅ => wpAny_pure (wpAny_pure ⟨rfl, h₅⟩)) fun _ _ h' => h')) fun _ _ h' => h'))
theorem assign3 {cenv : Env} {x1 x2 x3 : Str} {p1 p2 p3 tp : Pos} {kk : Nat} {T c1 c2 : Addr} {v1 v2 v3 : Value} {u1 u2 : Option Value} {m₂ : Str → Option Value} {Q : Unit → Shared → Prop} (hh : A.handled = none) (ht : IsTup s.heap T #[v1, v2, v3])
    (k1 : cenv.kindOf x1 = some .local) (k2 : cenv.kindOf x2 = some .cell) (k3 : cenv.kindOf x3 = some .cell) (hk : cenv.scope.kind = .function) (g2 : cenv.cells.lookup x2 = some c1) (g3 : cenv.cells.lookup x3 = some c2)
    (hn : s.heap.Ns cenv.locals m₂) (w1 : s.heap.IsCell c1 u1) (w2 : s.heap.IsCell c2 u2) (n1 : c1 ≠ cenv.locals) (n2 : c2 ≠ cenv.locals) (n3 : c1 ≠ c2)
    (h : ∀ (h' : Heap) (tk : Nat), h'.Ns cenv.locals (fun z => if z = x1 then some v1 else m₂ z) → h'.IsCell c1 (some v2) → h'.IsCell c2 (some v3) → (∀ b o, b ≠ cenv.locals → b ≠ c1 → b ≠ c2 → s.heap.get? b = some o → h'.get? b = some o) → Q () { s with heap := h', toks := tk }) :
    wpAny (model prog w) A (assign (.Tuple [.Name x1 p1, .Name x2 p2, .Name x3 p3] kk tp) cenv (.ref T)) Q E s := by
  refine wpAny_assign_Tuple hh ht rfl rfl fun h₁ he₁ => ?_
  have up₁ : ∀ c o, s.heap.get? c = some o → h₁.get? c = some o := fun c o e => he₁ c o (Nat.ne_of_lt (Heap.lt_size e)) e
  have hn₁ : h₁.Ns cenv.locals m₂ := hn.keeps up₁
  have w1₁ := w1.keeps up₁
  have w2₁ := w2.keeps up₁
  show wpAny _ _ (assignInOrder [assign (.Name x1 p1) cenv, assign (.Name x2 p2) cenv, assign (.Name x3 p3) cenv] [v1, v2, v3]) _ _ _
  refine assignInOrder_cons ?_
  refine wpAny_assign_Name (wpAny_storeName_local k1 hn₁ (fun h₂ hn₂ hs₂ => ?_) (by rw [hk]; rfl))
  refine assignInOrder_cons ?_
  refine wpAny_assign_Name (wpAny_storeName_cell hk k2 g2 (w1₁.sameBut hs₂ n1) fun h₃ w1₃ hs₃ => ?_)
  refine assignInOrder_cons ?_
  refine wpAny_assign_Name (wpAny_storeName_cell hk k3 g3 ((w2₁.sameBut hs₂ n2).sameBut hs₃ (Ne.symm n3)) fun h₄ w2₄ hs₄ => ?_)
  refine assignInOrder_nil ?_
  exact h h₄ _ ((hn₂.sameBut hs₃ (Ne.symm n1)).sameBut hs₄ (Ne.symm n2)) (w1₃.sameBut hs₄ n3) w2₄ fun b o a1 a2 a3 e => (hs₄.2 b a3).trans ((hs₃.2 b a2).trans ((hs₂.2 b a1).trans (up₁ b o e)))
theorem nm1 {b I : Nat} (h : b ≠ I) : b ∉ [I] := by simpa using h
theorem lt1 {a b : Nat} (h : a < b) : a < b := h
structure Row where
  num : Int
  tok : Tok
  a : Addr
  b : Addr
inductive RowsAre (h : Heap) : List Value → List Row → Prop
  | nil : RowsAre h [] []
  | cons {r : Addr} {vs : List Value} {q : Row} {rows : List Row} : IsTup h r #[.int q.num q.tok, .ref q.a, .ref q.b] → RowsAre h vs rows → RowsAre h (.ref r :: vs) (q :: rows)
theorem RowsAre.length {h : Heap} : ∀ {vs : List Value} {rows : List Row}, RowsAre h vs rows → vs.length = rows.length
  | _, _, .nil => rfl
  | _, _, .cons _ r => congrArg (· + 1) r.length
theorem RowsAre.at {h : Heap} : ∀ {vs : List Value} {rows : List Row}, RowsAre h vs rows → ∀ (i : Nat) (v : Value), vs[i]? = some v → ∃ r q, v = .ref r ∧ rows[i]? = some q ∧ IsTup h r #[.int q.num q.tok, .ref q.a, .ref q.b]
  | _, _, .nil, i, v, e => by cases i <;> cases e
  | _, _, .cons t r, 0, v, e => by cases e; exact ⟨_, _, rfl, rfl, t⟩
  | _, _, .cons t r, i + 1, v, e => r.at i v e
theorem ints_snoc {y : Int} {t : Tok} {vs : List Value} {ys : List Int} (h : IntsAre vs ys) : IntsAre (vs ++ [.int y t]) (ys ++ [y]) := IntsAre.append h (.cons y t .nil)
/-- a block whose scope keeps two cells: [x1 for x1, x2, x3 in ROWS if ct], stored -/
theorem rows_comp {iter ct : Expr} {x1 x2 x3 y : Str} {p0 p1 p2 p3 tp py pos spos : Pos} {kk : Nat} {scope : Scope} {cl : List (Str × Addr)} {T : Addr} {vs : List Value} {rows : List Row} {q : Row → Bool} {Q : Flow → Shared → Prop}
    (hsw : swapsWith (.ListComp (.Name x1 p0) [⟨.Tuple [.Name x1 p1, .Name x2 p2, .Name x3 p3] kk tp, iter, [ct], 0⟩] scope pos) (some (.Name y py)) spos.line env = pure true)
    (hclos : closureFor scope env = pure cl) (hkind : scope.kind = .function) (hnames : ∀ z ∈ scope.names, z.2 = .local → scope.names.lookup z.1 = some .local)
    (hcf : ∀ n, cellsFrom n scope.names cl = (x3, n + 1) :: (x2, n) :: cl) (hpc : ∀ h, pushCells h scope.names = (h.push { cls := .type "cell", data := .cell none }).push { cls := .type "cell", data := .cell none })
    (k1 : scope.names.lookup x1 = some .local) (k2 : ∀ c C, (compEnvC scope c C env).kindOf x2 = some .cell) (k3 : ∀ c C, (compEnvC scope c C env).kindOf x3 = some .cell) (hd1 : (x1 == ("__debug__" : Str)) = false) (h32 : (x2 == x3) = false)
    (hy : env.kindOf y = some .local) (hp : (env.scope.kind == .class || (env.scope.kind == .module && env.locals != env.globals)) = false)
    (hh : A.handled = none) (F : Fr h₀ env.locals s.heap m) (N : News h₀ env.locals s.heap news) (hT : IsTup h₀ T vs.toArray) (hR : RowsAre h₀ vs rows) (hsz : vs.length ≤ sizeLine)
    (hit : wpAny (model prog w) A (eval iter env) (fun xv s₁ => xv = .ref T ∧ ∃ h tk, s₁ = { s with heap := h, toks := tk } ∧ Fr h₀ env.locals h m ∧ News h₀ env.locals h news) E s)
    (turn : ∀ r I oI C oC c1 o1 c2 o2 D m₂ ys h tk, r ∈ rows → NsObj oC m₂ → m₂ x1 = some (.int r.num r.tok) → o1.data = .cell (some (.ref r.a)) → o2.data = .cell (some (.ref r.b)) → Fr h₀ env.locals h m →
      News h₀ env.locals h ((I, oI) :: (C, oC) :: (c1, o1) :: (c2, o2) :: (D, lst ys) :: news) → (∀ p ∈ news, p.1 < I) → I < D → D < C → C < c1 → c1 < c2 →
      wpAny (model prog w) A (isTrue ct (compEnvC scope ((x3, c2) :: (x2, c1) :: cl) C env) (eval ct (compEnvC scope ((x3, c2) :: (x2, c1) :: cl) C env)))
        (KB h₀ env.locals m ((I, oI) :: (C, oC) :: (c1, o1) :: (c2, o2) :: (D, lst ys) :: news) { s with heap := h, toks := tk } (q r)) (fun _ _ => False) { s with heap := h, toks := tk })
    (done : ∀ ys D h tk, IntsAre ys ((rows.filter q).map (·.num)) → Fr h₀ env.locals h (fun z => if z = y then some (.ref D) else m z) → News h₀ env.locals h ((D, lst ys) :: news) → (∀ p ∈ news, p.1 < D) → Q .next { s with heap := h, toks := tk })
    (hs : ∀ x, foldedSetIterable iter env x = pure x := by intro _; rfl) :
    wpAny (model prog w) A (exec (.Assign [.Name y py] (.ListComp (.Name x1 p0) [⟨.Tuple [.Name x1 p1, .Name x2 p2, .Name x3 p3] kk tp, iter, [ct], 0⟩] scope pos) spos) env) Q E s := by
  rw [exec_Assign_Name_used _ _ _ _ hsw]
  refine wpAny_bind (wpAny_standAt (wpAny_bind ?_))
  show wpAny _ A (do let _ ← comprehension (.ListComp (.Name x1 p0) [⟨.Tuple [.Name x1 p1, .Name x2 p2, .Name x3 p3] kk tp, iter, [ct], 0⟩] scope pos) scope env _ (newList []) false (eval iter env) (some (assign (.Name y py) env))) _ _ s
  refine wpAny_bind (wpAny_mono (wpAny_comprehension_free (use := some (assign (.Name y py) env)) (Q := fun _ s' => Q .next s') rfl hs hclos hkind hnames
    (wpAny_mono hit (fun xv s₁ h₁ => ?_) fun _ _ e => e)) (fun _ s' hq => wpAny_pure (wpAny_pure hq)) fun _ _ e => e)
  obtain ⟨rfl, hA, tkA, rfl, FA, NA⟩ := h₁
  have htA : IsTup hA T vs.toArray := hT.keeps fun b o e => FA.keep b o e
  have hlt : T < hA.objs.size := by obtain ⟨_, e, _⟩ := htA; exact Heap.lt_size e
  refine wpAny_pyIter_tuple htA ?_
  refine wpAny_newObj_type ?_
  have hcells : ∀ (Z : Env → Shared → Prop) (s' : Shared), Z { scope := scope, locals := s'.heap.objs.size, globals := env.globals, cells := (x3, s'.heap.objs.size + 1 + 1) :: (x2, s'.heap.objs.size + 1) :: cl, qual := env.qual, func := none, code := env.code, frame := env.frame, builtins := env.builtins }
      { s' with heap := ((s'.heap.push { cls := .type "dict", data := .dict #[] }).push { cls := .type "cell", data := .cell none }).push { cls := .type "cell", data := .cell none } } →
      wpAny (model prog w) A (newFunctionEnv scope env.globals cl [] env.qual none .none (some env)) Z E s' := by
    intro Z s' hZ
    simp only [newFunctionEnv, Option.isSome_some, if_true]
    refine wpAny_bind (wpAny_alloc ?_)
    refine wpAny_bind (wpAny_layCells _ (fun name kind cells => by cases hkc : kind == NameKind.cell <;> simp [hkc]) _ _ _ _ ?_)
    rw [hcf, hpc]
    rw [show ({ s' with heap := s'.heap.push { cls := .type "dict", data := .dict #[] } } : Shared).heap.objs.size = s'.heap.objs.size + 1 from Heap.size_push ..]
    exact wpAny_bind (wpAny_pure (wpAny_pure hZ))
  refine hcells _ _ ?_
  dsimp only
  generalize hH1 : hA.push { cls := .type "tuple_iterator", data := .fields #[.ref T, .int 0 0] } = H1
  generalize hH2 : H1.push { cls := .type "list", dict := none, data := .seq ([] : List Value).toArray } = H2
  generalize hH3 : ((H2.push { cls := .type "dict", data := .dict #[] }).push { cls := .type "cell", data := .cell none }).push { cls := .type "cell", data := .cell none } = H3
  have z1 : H1.objs.size = hA.objs.size + 1 := by rw [← hH1, Heap.size_push]
  have z2 : H2.objs.size = hA.objs.size + 2 := by rw [← hH2, Heap.size_push, z1]
  rw [z1, z2]
  have hn0 : ∀ b o, hA.get? b = some o → b < hA.objs.size := fun b o e => Heap.lt_size e
  have upH1 : ∀ b o, hA.get? b = some o → H1.get? b = some o := fun b o e => hH1 ▸ Heap.get?_push_of_some _ e
  have upH2 : ∀ b o, H1.get? b = some o → H2.get? b = some o := fun b o e => hH2 ▸ Heap.get?_push_of_some _ e
  have upH3 : ∀ b o, H2.get? b = some o → H3.get? b = some o := fun b o e => hH3 ▸ Heap.get?_push_of_some _ (Heap.get?_push_of_some _ (Heap.get?_push_of_some _ e))
  have up3 : ∀ b o, hA.get? b = some o → H3.get? b = some o := fun b o e => upH3 b o (upH2 b o (upH1 b o e))
  have gI : H1.get? hA.objs.size = some { cls := .type "tuple_iterator", data := .fields #[.ref T, .int 0 0] } := hH1 ▸ Heap.get?_push_size _ rfl
  have gD : H2.get? (hA.objs.size + 1) = some (lst []) := by rw [← z1, ← hH2]; exact Heap.get?_push_size _ rfl
  have gC : H3.Ns (hA.objs.size + 2) (fun _ => none) := by
    rw [← z2, ← hH3]
    exact (Heap.Ns.new H2 (.type "dict")).keeps fun b o e => Heap.get?_push_of_some _ (Heap.get?_push_of_some _ e)
  have g1 : H3.IsCell (hA.objs.size + 2 + 1) none := by
    refine ⟨{ cls := .type "cell", data := .cell none }, ?_, rfl⟩
    rw [← hH3]
    refine Heap.get?_push_of_some _ ?_
    have := Heap.get?_push_size (H2.push { cls := .type "dict", data := .dict #[] }) (o := { cls := .type "cell", data := .cell none }) rfl
    rwa [Heap.size_push, z2] at this
  have g2 : H3.IsCell (hA.objs.size + 2 + 1 + 1) none := by
    refine ⟨{ cls := .type "cell", data := .cell none }, ?_, rfl⟩
    rw [← hH3]
    have := Heap.get?_push_size ((H2.push { cls := .type "dict", data := .dict #[] }).push { cls := .type "cell", data := .cell none }) (o := { cls := .type "cell", data := .cell none }) rfl
    rwa [Heap.size_push, Heap.size_push, z2] at this
  have hLlt : @LT.lt Nat _ env.locals hA.objs.size := FA.ns.lt
  have fresh : ∀ a, hA.objs.size ≤ a → h₀.get? a = none := fun a ha => by
    cases e : h₀.get? a with
    | none => rfl
    | some o' => exact absurd (hn0 _ _ (FA.keep a o' e)) (Nat.not_lt.mpr ha)
  have hnews : ∀ p ∈ news, @LT.lt Nat _ p.1 hA.objs.size := fun p hp => hn0 _ _ (NA p hp).1
  have hT0 : @LT.lt Nat _ T hA.objs.size := hlt
  obtain ⟨oT, heT, hcT, nT, hdT⟩ := id hT
  clear hcells
  generalize hn : hA.objs.size = n0 at *
  have W := Walks.tuple (prog := prog) (w := w) hh n0 T (Nat.ne_of_lt hT0) vs.toArray
  have hsz' : vs.toArray.size = vs.length := by simp
  rw [hsz'] at W
  show codeAny _ _ (.compStart _ 0 _ _ (compEnvC scope ((x3, n0 + 2 + 1 + 1) :: (x2, n0 + 2 + 1) :: cl) (n0 + 2) env)) _ _
  have st0 : H3.IsTupleIter n0 T 0 ∧ H3.IsTuple T vs.toArray := ⟨⟨_, upH3 _ _ (upH2 _ _ gI), rfl, rfl⟩, htA.keeps up3⟩
  have hcu : (compEnvC scope ((x3, n0 + 2 + 1 + 1) :: (x2, n0 + 2 + 1) :: cl) (n0 + 2) env).scope.kind = .function := by simp [compEnvC, relabel, hkind]
  have loop : codeAny (model prog w) A (.compLoop (.ListComp (.Name x1 p0) [⟨.Tuple [.Name x1 p1, .Name x2 p2, .Name x3 p3] kk tp, iter, [ct], 0⟩] scope pos) 0 (.ref n0) (.ref (n0 + 1)) (compEnvC scope ((x3, n0 + 2 + 1 + 1) :: (x2, n0 + 2 + 1) :: cl) (n0 + 2) env))
      (compPost (model prog w) A E (some (assign (.Name y py) env)) (fun _ s' => Q Flow.next s') (.ref (n0 + 1)) (n0 + 2)) { s with heap := H3, toks := tkA } := by
    refine compLoop_testsG (fun k s' => ∃ h' tk i ys m', s' = { s with heap := h', toks := tk } ∧ i ≤ vs.length ∧ k = vs.length + 1 - i ∧ (h'.IsTupleIter n0 T i ∧ h'.IsTuple T vs.toArray) ∧ Fr h₀ env.locals h' m ∧ h'.Ns (n0 + 2) m' ∧ (∃ v, h'.IsCell (n0 + 2 + 1) v) ∧ (∃ v, h'.IsCell (n0 + 2 + 1 + 1) v) ∧
      News h₀ env.locals h' ((n0 + 1, lst ys) :: news) ∧ IntsAre ys (((rows.take i).filter q).map (·.num)) ∧ ys.length ≤ i) ?_ (vs.length + 1)
      ⟨H3, tkA, 0, [], _, rfl, Nat.zero_le _, rfl, st0, FA.keeps up3, gC, ⟨_, g1⟩, ⟨_, g2⟩, fun p hp => ?_, by simpa using IntsAre.nil, Nat.le_refl _⟩
    · rintro k s' ⟨h', tk, i, ys, m', rfl, hi, rfl, hst, F', hn', ⟨u1, w1⟩, ⟨u2, w2⟩, N', hI, hyl⟩
      have hyr : vs.length = rows.length := hR.length
      by_cases hlt' : i < vs.length
      · refine W.item i _ _ _ hlt' hst fun v h₁ tk₁ hP hst₁ hk₁ => ?_
        obtain ⟨r, q', rfl, hq, htup⟩ := hR.at i v (by simpa using hP)
        refine letGo_tupleiter hst₁.1 ?_
        have F₁ : Fr h₀ env.locals h₁ m := fr_but F' hk₁ (neN (by omega)) (fresh _ (Nat.le_refl _))
        refine assign3 hh (htup.keeps F₁.keep) (lookup_relabel_local k1) (k2 _ _) (k3 _ _) hcu (by simp [compEnvC, List.lookup, h32]) (by simp [compEnvC, List.lookup]) (hn'.at' fun o e => hk₁ _ o (nm1 (by omega)) e)
          (u1 := u1) (u2 := u2) (by obtain ⟨o, ho, hd⟩ := w1; exact ⟨o, hk₁ _ o (nm1 (by omega)) ho, hd⟩) (by obtain ⟨o, ho, hd⟩ := w2; exact ⟨o, hk₁ _ o (nm1 (by omega)) ho, hd⟩) (show @Ne Nat (n0 + 2 + 1) (n0 + 2) by omega) (show @Ne Nat (n0 + 2 + 1 + 1) (n0 + 2) by omega) (neN (by omega)) fun h₂ tk₂ hn₂ w1₂ w2₂ hk₂ => ?_
        change h₂.Ns (n0 + 2) _ at hn₂
        change ∀ b o, b ≠ n0 + 2 → _ at hk₂
        have F₂ : Fr h₀ env.locals h₂ m := ⟨F₁.ns.at' fun o e => hk₂ _ o (neN (by omega)) (neN (by omega)) (neN (by omega)) e, fun b o e => by
          have hb : @LT.lt Nat _ b n0 := by
            rcases Nat.lt_or_ge b n0 with hb | hb
            · exact hb
            · rw [fresh b hb] at e; cases e
          exact hk₂ b o (neN (by omega)) (neN (by omega)) (neN (by omega)) (F₁.keep b o e), F₁.above⟩
        have st₂ : h₂.IsTupleIter n0 T (i + 1) ∧ h₂.IsTuple T vs.toArray := W.frame _ _ _ hst₁ fun b hb o e => by
          rcases List.mem_cons.mp hb with rfl | hb
          · exact hk₂ _ o (neN (by omega)) (neN (by omega)) (neN (by omega)) e
          · rw [List.mem_singleton.mp hb] at e ⊢
            exact hk₂ _ o (neN (by omega)) (neN (by omega)) (neN (by omega)) e
        obtain ⟨oI, heI, _⟩ := id st₂.1
        obtain ⟨oC, heC, hoC⟩ := ns_obj hn₂
        obtain ⟨o1, he1, hd1'⟩ := w1₂
        obtain ⟨o2, he2, hd2'⟩ := w2₂
        have N₂ : News h₀ env.locals h₂ ((n0, oI) :: (n0 + 2, oC) :: (n0 + 2 + 1, o1) :: (n0 + 2 + 1 + 1, o2) :: (n0 + 1, lst ys) :: news) := fun p hp => by
          rcases List.mem_cons.mp hp with rfl | hp
          · exact ⟨heI, neN (by dsimp only; omega), fresh _ (Nat.le_refl _)⟩
          rcases List.mem_cons.mp hp with rfl | hp
          · exact ⟨heC, neN (by dsimp only; omega), fresh _ (by dsimp only; omega)⟩
          rcases List.mem_cons.mp hp with rfl | hp
          · exact ⟨he1, neN (by dsimp only; omega), fresh _ (by dsimp only; omega)⟩
          rcases List.mem_cons.mp hp with rfl | hp
          · exact ⟨he2, neN (by dsimp only; omega), fresh _ (by dsimp only; omega)⟩
          have hlt2 : @LT.lt Nat _ p.1 n0 ∨ @Eq Nat p.1 (n0 + 1) := by
            rcases List.mem_cons.mp hp with rfl | hp
            · exact .inr rfl
            · exact .inl (hnews p hp)
          have z := N' p hp
          exact ⟨hk₂ _ _ (neN (by omega)) (neN (by omega)) (neN (by omega)) (hk₁ _ _ (nm1 (by omega)) z.1), z.2⟩
        refine wpAny_mono (turn q' n0 oI (n0 + 2) oC (n0 + 2 + 1) o1 (n0 + 2 + 1 + 1) o2 (n0 + 1) _ ys h₂ tk₂ (List.mem_of_getElem? hq) hoC (by simp) hd1' hd2' F₂ N₂ hnews (lt1 (by omega)) (lt1 (by omega)) (lt1 (by omega)) (lt1 (by omega))) (fun b s₃ hb => ?_) (fun _ _ e => e)
        obtain ⟨rfl, h₃, tk₃, rfl, F₃, N₃⟩ := hb
        have zI := (N₃ _ (.head _)).1
        have zC := (N₃ _ (.tail _ (.head _))).1
        have zc1 := (N₃ _ (.tail _ (.tail _ (.head _)))).1
        have zc2 := (N₃ _ (.tail _ (.tail _ (.tail _ (.head _))))).1
        have zD := (N₃ _ (.tail _ (.tail _ (.tail _ (.tail _ (.head _)))))).1
        have N₃' : News h₀ env.locals h₃ ((n0 + 1, lst ys) :: news) := fun p hp => N₃ p (.tail _ (.tail _ (.tail _ (.tail _ hp))))
        have st₃ : h₃.IsTupleIter n0 T (i + 1) ∧ h₃.IsTuple T vs.toArray := W.frame _ _ _ st₂ fun b hb o e => by
          rcases List.mem_cons.mp hb with rfl | hb
          · rw [heI] at e; cases e; exact zI
          · rw [List.mem_singleton.mp hb] at e ⊢
            rw [F₂.keep T oT heT] at e
            cases e
            exact F₃.keep T oT heT
        have htk : rows.take (i + 1) = rows.take i ++ [q'] := by rw [List.take_add_one, hq]; rfl
        cases hqq : q q' with
        | false =>
          simp only [Bool.false_eq_true, if_false]
          refine ⟨_, by omega, h₃, tk₃, i + 1, ys, _, rfl, hlt', rfl, st₃, F₃, hoC.ns zC, ⟨_, o1, zc1, hd1'⟩, ⟨_, o2, zc2, hd2'⟩, N₃', ?_, Nat.le_succ_of_le hyl⟩
          rw [htk, List.filter_append, List.filter_cons, hqq]
          simpa using hI
        | true =>
          simp only [if_true]
          refine comp_name hkind k1 hd1 hoC (v := .int q'.num q'.tok) (by simp) zC ?_
          refine append_at (hsz := by show ys.toArray.size ≤ sizeLine; rw [List.size_toArray]; omega) zD fun h₄ hs₄ hD₄ => ?_
          refine ⟨_, by omega, h₄, tk₃, i + 1, ys ++ [.int q'.num q'.tok], _, rfl, hlt', rfl, ?_, F₃.change hs₄ (neN (by omega)) (fresh _ (by omega)), (hoC.ns zC).sameBut hs₄ (neN (by omega)), ⟨_, o1, hs₄.extBut _ _ (neN (by omega)) zc1, hd1'⟩, ⟨_, o2, hs₄.extBut _ _ (neN (by omega)) zc2, hd2'⟩, fun p hp => ?_, ?_, by simp; omega⟩
          · exact W.frame _ _ _ st₃ fun b hb o e => by
              rcases List.mem_cons.mp hb with rfl | hb
              · exact hs₄.extBut _ _ (neN (by omega)) e
              · rw [List.mem_singleton.mp hb] at e ⊢
                exact hs₄.extBut _ _ (neN (by omega)) e
          · rcases List.mem_cons.mp hp with rfl | hp
            · exact ⟨hD₄.trans (congrArg some (lst_snoc ys _)), (N₃' _ (.head _)).2⟩
            · have := hnews p hp
              exact ⟨hs₄.extBut _ _ (neN (by omega)) (N₃' p (.tail _ hp)).1, (N₃' p (.tail _ hp)).2⟩
          · rw [htk, List.filter_append, List.filter_cons, hqq]
            simpa using ints_snoc hI
      · obtain rfl : i = vs.length := Nat.le_antisymm hi (Nat.not_lt.mp hlt')
        refine W.done _ _ _ hst fun h₂ tk₂ hk₂ => ?_
        have F₂ : Fr h₀ env.locals h₂ m := fr_but F' hk₂ (neN (by omega)) (fresh _ (Nat.le_refl _))
        have N₂ : News h₀ env.locals h₂ ((n0 + 1, lst ys) :: news) := news_but N' hk₂ fun p hp => by
          rcases List.mem_cons.mp hp with rfl | hp
          · simp
          · exact Nat.ne_of_lt (hnews p hp)
        show wpAny _ A (assign (.Name y py) env (.ref (n0 + 1))) _ _ _
        refine wpAny_assign_Name (wpAny_storeName_local hy F₂.ns (fun h₃ hn₃ hs₃ => ?_) hp)
        have F₃ : Fr h₀ env.locals h₃ (fun z => if z = y then some (.ref (n0 + 1)) else m z) := F₂.set hn₃ hs₃
        have N₃ : News h₀ env.locals h₃ ((n0 + 1, lst ys) :: news) := N₂.set hs₃
        refine ⟨m', (hn'.at' fun o e => hk₂ _ o (nm1 (by omega)) e).sameBut hs₃ (neN (by omega)), fun h₄ hs₄ => ?_⟩
        refine done ys (n0 + 1) h₄ _ ?_ (F₃.change hs₄ (neN (by omega)) (fresh _ (by omega))) (fun p hp => ⟨hs₄.extBut _ _ ?_ (N₃ p hp).1, (N₃ p hp).2⟩) (fun p hp => Nat.lt_succ_of_lt (hnews p hp))
        · rw [List.take_of_length_le (by omega)] at hI
          exact hI
        · rcases List.mem_cons.mp hp with rfl | hp
          · exact neN (by dsimp only; omega)
          · have := hnews p hp
            exact neN (by omega)
    · rcases List.mem_cons.mp hp with rfl | hp
      · exact ⟨upH3 _ _ gD, neN (by dsimp only; omega), fresh _ (by dsimp only; omega)⟩
      · exact ⟨up3 _ _ (NA p hp).1, (NA p hp).2⟩
  exact codeAny_compStart_list loop (W.self 0 _ _ _ st0 loop)
theorem rows_compL {iter ct : Expr} {x1 x2 x3 y : Str} {p0 p1 p2 p3 tp py pos spos : Pos} {kk : Nat} {scope : Scope} {cl : List (Str × Addr)} {T : Addr} {vs : List Value} {rows : List Row} {q : Row → Bool} {Q : Flow → Shared → Prop} {L : Addr} (hLe : env.locals = L)
    (hsw : swapsWith (.ListComp (.Name x1 p0) [⟨.Tuple [.Name x1 p1, .Name x2 p2, .Name x3 p3] kk tp, iter, [ct], 0⟩] scope pos) (some (.Name y py)) spos.line env = pure true)
    (hclos : closureFor scope env = pure cl) (hkind : scope.kind = .function) (hnames : ∀ z ∈ scope.names, z.2 = .local → scope.names.lookup z.1 = some .local)
    (hcf : ∀ n, cellsFrom n scope.names cl = (x3, n + 1) :: (x2, n) :: cl) (hpc : ∀ h, pushCells h scope.names = (h.push { cls := .type "cell", data := .cell none }).push { cls := .type "cell", data := .cell none })
    (k1 : scope.names.lookup x1 = some .local) (k2 : ∀ c C, (compEnvC scope c C env).kindOf x2 = some .cell) (k3 : ∀ c C, (compEnvC scope c C env).kindOf x3 = some .cell) (hd1 : (x1 == ("__debug__" : Str)) = false) (h32 : (x2 == x3) = false)
    (hy : env.kindOf y = some .local) (hp : (env.scope.kind == .class || (env.scope.kind == .module && env.locals != env.globals)) = false)
    (hh : A.handled = none) (F : Fr h₀ L s.heap m) (N : News h₀ L s.heap news) (hT : IsTup h₀ T vs.toArray) (hR : RowsAre h₀ vs rows) (hsz : vs.length ≤ sizeLine)
    (hit : wpAny (model prog w) A (eval iter env) (fun xv s₁ => xv = .ref T ∧ ∃ h tk, s₁ = { s with heap := h, toks := tk } ∧ Fr h₀ L h m ∧ News h₀ L h news) E s)
    (turn : ∀ r I oI C oC c1 o1 c2 o2 D m₂ ys h tk, r ∈ rows → NsObj oC m₂ → m₂ x1 = some (.int r.num r.tok) → o1.data = .cell (some (.ref r.a)) → o2.data = .cell (some (.ref r.b)) → Fr h₀ L h m →
      News h₀ L h ((I, oI) :: (C, oC) :: (c1, o1) :: (c2, o2) :: (D, lst ys) :: news) → (∀ p ∈ news, p.1 < I) → I < D → D < C → C < c1 → c1 < c2 →
      wpAny (model prog w) A (isTrue ct (compEnvC scope ((x3, c2) :: (x2, c1) :: cl) C env) (eval ct (compEnvC scope ((x3, c2) :: (x2, c1) :: cl) C env)))
        (KB h₀ L m ((I, oI) :: (C, oC) :: (c1, o1) :: (c2, o2) :: (D, lst ys) :: news) { s with heap := h, toks := tk } (q r)) (fun _ _ => False) { s with heap := h, toks := tk })
    (done : ∀ ys D h tk, IntsAre ys ((rows.filter q).map (·.num)) → Fr h₀ L h (fun z => if z = y then some (.ref D) else m z) → News h₀ L h ((D, lst ys) :: news) → (∀ p ∈ news, p.1 < D) → Q .next { s with heap := h, toks := tk })
    (hs : ∀ x, foldedSetIterable iter env x = pure x := by intro _; rfl) :
    wpAny (model prog w) A (exec (.Assign [.Name y py] (.ListComp (.Name x1 p0) [⟨.Tuple [.Name x1 p1, .Name x2 p2, .Name x3 p3] kk tp, iter, [ct], 0⟩] scope pos) spos) env) Q E s := by
  subst hLe
  exact rows_comp hsw hclos hkind hnames hcf hpc k1 k2 k3 hd1 h32 hy hp hh F N hT hR hsz hit turn done hs
end
end Mine
end
section
open PySem PySem.W PyProof.Rows PySem.Calls
set_option maxHeartbeats 8000000
namespace Mine
def lawRows : List Row := [⟨112, 353, 59, 60⟩, ⟨113, 358, 62, 63⟩, ⟨238, 362, 65, 66⟩, ⟨503, 365, 68, 69⟩, ⟨502, 368, 71, 72⟩, ⟨621, 371, 74, 75⟩, ⟨106, 376, 77, 78⟩, ⟨513, 380, 80, 81⟩, ⟨549, 383, 83, 84⟩, ⟨666, 386, 86, 87⟩]
def lawVs : List Value := [.ref 61, .ref 64, .ref 67, .ref 70, .ref 73, .ref 76, .ref 79, .ref 82, .ref 85, .ref 88]
theorem law_rows (w : World) {h : Heap} (X : (hd.heap_39 w.params).In h) : RowsAre h lawVs lawRows :=
  .cons ⟨_, X 61 _ rfl, rfl, _, rfl⟩ (.cons ⟨_, X 64 _ rfl, rfl, _, rfl⟩ (.cons ⟨_, X 67 _ rfl, rfl, _, rfl⟩ (.cons ⟨_, X 70 _ rfl, rfl, _, rfl⟩ (.cons ⟨_, X 73 _ rfl, rfl, _, rfl⟩
    (.cons ⟨_, X 76 _ rfl, rfl, _, rfl⟩ (.cons ⟨_, X 79 _ rfl, rfl, _, rfl⟩ (.cons ⟨_, X 82 _ rfl, rfl, _, rfl⟩ (.cons ⟨_, X 85 _ rfl, rfl, _, rfl⟩ (.cons ⟨_, X 88 _ rfl, rfl, _, rfl⟩ .nil)))))))))
theorem law_tab (w : World) {h : Heap} (X : (hd.heap_39 w.params).In h) : IsTup h 89 lawVs.toArray := ⟨_, X 89 _ rfl, rfl, _, rfl⟩
def wordsAt : Nat → List Str
  | 59 => [Str.ofString "static"]
  | 60 => [Str.ofString "virtual", Str.ofString "abstract", Str.ofString "override"]
  | 62 => [Str.ofString "override"]
  | 63 => [Str.ofString "new", Str.ofString "virtual"]
  | 65 => [Str.ofString "sealed"]
  | 66 => [Str.ofString "stands for none"]
  | 68 => [Str.ofString "abstract"]
  | 69 => [Str.ofString "virtual"]
  | 71 => [Str.ofString "abstract"]
  | 72 => [Str.ofString "sealed"]
  | 74 => [Str.ofString "virtual", Str.ofString "abstract", Str.ofString "override"]
  | 75 => [Str.ofString "seen by none"]
  | 77 => [Str.ofString "of a struct"]
  | 78 => [Str.ofString "abstract", Str.ofString "virtual"]
  | 80 => [Str.ofString "abstract"]
  | 81 => [Str.ofString "of a whole type"]
  | 83 => [Str.ofString "virtual"]
  | 84 => [Str.ofString "of a sealed type"]
  | 86 => [Str.ofString "of a struct"]
  | 87 => [Str.ofString "protected"]
  | _ => []
def TupS (h : Heap) (a : Addr) (ws : List Str) : Prop := ∃ vs : List Value, IsTup h a vs.toArray ∧ StrsAre vs ws
theorem TupS.one {h : Heap} {a : Addr} {o : Obj} {x : Str} {t : Tok} {n : Nat} (e : h.get? a = some o) (hc : o.cls = .type "tuple") (hd : o.data = .seq #[.str x t] n) : TupS h a [x] := ⟨[.str x t], ⟨o, e, hc, n, hd⟩, .cons _ _ .nil⟩
theorem TupS.two {h : Heap} {a : Addr} {o : Obj} {x y : Str} {t u : Tok} {n : Nat} (e : h.get? a = some o) (hc : o.cls = .type "tuple") (hd : o.data = .seq #[.str x t, .str y u] n) : TupS h a [x, y] := ⟨[.str x t, .str y u], ⟨o, e, hc, n, hd⟩, .cons _ _ (.cons _ _ .nil)⟩
theorem TupS.three {h : Heap} {a : Addr} {o : Obj} {x y z : Str} {t u v : Tok} {n : Nat} (e : h.get? a = some o) (hc : o.cls = .type "tuple") (hd : o.data = .seq #[.str x t, .str y u, .str z v] n) : TupS h a [x, y, z] := ⟨[.str x t, .str y u, .str z v], ⟨o, e, hc, n, hd⟩, .cons _ _ (.cons _ _ (.cons _ _ .nil))⟩
theorem row_tups (w : World) {h : Heap} (X : (hd.heap_39 w.params).In h) : ∀ r ∈ lawRows, TupS h r.a (wordsAt r.a) ∧ TupS h r.b (wordsAt r.b) := by
  intro r hr
  simp only [lawRows, List.mem_cons, List.not_mem_nil, or_false] at hr
  rcases hr with rfl | rfl | rfl | rfl | rfl | rfl | rfl | rfl | rfl | rfl
  · exact ⟨.one (X 59 _ rfl) rfl rfl, .three (X 60 _ rfl) rfl rfl⟩
  · exact ⟨.one (X 62 _ rfl) rfl rfl, .two (X 63 _ rfl) rfl rfl⟩
  · exact ⟨.one (X 65 _ rfl) rfl rfl, .one (X 66 _ rfl) rfl rfl⟩
  · exact ⟨.one (X 68 _ rfl) rfl rfl, .one (X 69 _ rfl) rfl rfl⟩
  · exact ⟨.one (X 71 _ rfl) rfl rfl, .one (X 72 _ rfl) rfl rfl⟩
  · exact ⟨.three (X 74 _ rfl) rfl rfl, .one (X 75 _ rfl) rfl rfl⟩
  · exact ⟨.one (X 77 _ rfl) rfl rfl, .two (X 78 _ rfl) rfl rfl⟩
  · exact ⟨.one (X 80 _ rfl) rfl rfl, .one (X 81 _ rfl) rfl rfl⟩
  · exact ⟨.one (X 83 _ rfl) rfl rfl, .one (X 84 _ rfl) rfl rfl⟩
  · exact ⟨.one (X 86 _ rfl) rfl rfl, .one (X 87 _ rfl) rfl rfl⟩
def anyOf (ws : List Str) (k : Str) : Bool := ws.any fun x => x == k
def hitIn (fs ws : List Str) : Bool := !(fs.filter (anyOf ws)).isEmpty
def hitRow (fs : List Str) (r : Row) : Bool := hitIn fs (wordsAt r.a) && hitIn fs (wordsAt r.b)
def brokenOf (fs : List Str) : List Int := (lawRows.filter (hitRow fs)).map (·.num)
def lnumberOf (fs : List Str) : Int := (brokenOf fs).headD 0
end Mine
end
section
open PySem PySem.W PyProof.Rows PySem.Calls PySem.SeqAt
set_option maxHeartbeats 8000000
namespace Mine
section
variable {prog : Program} {w : World} {A : Around} {E : Value → Shared → Prop} {s : Shared}
theorem ne_nil0 {a b : Addr} {vs : List Value} {Q : Value → Shared → Prop} (hl : s.heap.IsList a vs.toArray) (hi : IntsAre vs []) (hl' : s.heap.IsList b #[]) (hu : A.units + 64 < cLine)
    (h : Q (.bool false) s) : wpAny (model prog w) A (compareOp .NotEq (.ref a) (.ref b)) Q E s :=
  ne_intsK hl hi (us := []) hl' .nil hu (by simpa using h)
theorem ne_nil1 {a b : Addr} {vs : List Value} {n : Int} {r : List Int} {Q : Value → Shared → Prop} (hl : s.heap.IsList a vs.toArray) (hi : IntsAre vs (n :: r)) (hl' : s.heap.IsList b #[]) (hu : A.units + 64 < cLine)
    (h : Q (.bool true) s) : wpAny (model prog w) A (compareOp .NotEq (.ref a) (.ref b)) Q E s :=
  ne_intsK hl hi (us := []) hl' .nil hu (by simpa using h)
theorem item1 {value slice : Expr} {a : Addr} {vs : List Value} {n : Int} {r : List Int} {u : Tok} {Q : Value → Shared → Prop} (hl : s.heap.IsList a vs.toArray) (hi : IntsAre vs (n :: r))
    (h : ∀ t, Q (.int n t) s) (hs : subscripted slice false (.ref a) (.int 0 u) = operate [.ref a, .int 0 u] (getItem (.ref a) (.int 0 u)) := by with_unfolding_all rfl) :
    wpAny (model prog w) A (subscriptTail value slice (.ref a) (.int 0 u)) Q E s := by
  obtain ⟨t, vs', rfl, _⟩ := hi.cons_inv
  exact tail_any hl.typeIs slot_list_getitem.lookup (wpAny_getItem_list hl (by decide) (by decide) (by rfl) (h t)) hs
end
section
local macro_rules | `(tactic| k_mem) => `(tactic| first | exact List.mem_cons_self | assumption | (refine List.mem_cons_of_mem _ ?_; k_mem))
local macro_rules | `(tactic| walk_at "KB") => `(tactic| k_dflt (refine KB.intro ?q1 ?q2 ?q3; (case q1 => exact rfl); (case q2 => k_asm); (case q3 => first | k_asm | exact cb_drop (by k_asm) (by kcj_all))))
local macro_rules | `(tactic| walk_at "CompSrcT") => `(tactic| (k_here; k_dflt ((refine LCt.CompSrcT.ledger (by rfl) (by k_asm) (by k_asm) (by k_mem) (by (simp only [List.size_toArray, PySem.sizeLine_eq]; omega)) ?_); intro g'; (refine' str_rest (anyOf _) (by assumption) (by rfl) (by rfl) (by decide) (Or.inr ⟨_, by k_mem, rfl, _, rfl⟩) ?aturn ?_); (case aturn => (intro k' t' I' oI' C' oC' D' m' ys' h' tk' E' hk' hC' hx' F' N' off' ne'; (try k_fold); k_steps)); intro ys hys hyl)))
local macro_rules | `(tactic| walk_at "compareOp In str ref") => `(tactic| (k_here; k_dflt (refine in_tuple_strs (IsTup.keeps (by assumption) (Fr.keep (by k_asm))) (by assumption) ?_)))
local macro_rules | `(tactic| walk_at "compareOp NotEq ref ref") => `(tactic| (k_here; k_dflt (first
  | refine ne_nilS (News.isList (by k_asm) (by k_mem)) (by assumption) (by first | assumption | exact OkS.filter (by assumption) _) (News.isList (by k_asm) (by k_mem)) (by ktr_units) ?_
  | refine ne_nil0 (News.isList (by k_asm) (by k_mem)) (by assumption) (News.isList (by k_asm) (by k_mem)) (by ktr_units) ?_
  | refine ne_nil1 (News.isList (by k_asm) (by k_mem)) (by assumption) (News.isList (by k_asm) (by k_mem)) (by ktr_units) ?_)))
local macro_rules | `(tactic| walk_at "isTrue BoolOp") => `(tactic| (k_here; (with_reducible show wpAny _ _ (isTrue (Expr.BoolOp BoolOp.And [_, _] _) _ _) _ _ _); (rename Fr _ _ _ _ => aF'); (rename News _ _ _ _ => aN'); k_dflt ((refine' and2 aF' aN' ?ah1 ?ah2 ?_); (case ah1 => ((try k_fold); k_steps)); (case ah2 => (intro h9 tk9 F9 N9; (try k_fold); k_steps)); (intro h9 tk9 F9 N9))))
local macro_rules | `(tactic| walk_at "subscriptTail") => `(tactic| (k_here; (with_reducible show wpAny _ _ (subscriptTail _ _ (Value.ref _) (Value.int _ _)) _ _ _); k_dflt (refine item1 (News.isList (by k_asm) (by k_mem)) (by assumption) ?_; intro t9)))
local macro_rules | `(tactic| walk_at "eval ListComp") => `(tactic| (k_here; k_dflt (refine LCt.ListComp_T (F₀ := by k_asm) (by with_unfolding_all rfl) (by decide) (by rfl) (by decide) (by rfl) ?_)))
theorem lnumber_call (w : World) (mean : ExcName → Option Value) (mg mb : Str → Option Value) (news : List (Addr × Obj)) (l : Addr) (us : List Value) (fs : List Str) (nn : Nat) (hm : (l, listOf us.toArray nn) ∈ news) (hs : StrsAre us fs) (hok : OkS fs) (hb : us.length ≤ 80) :
    Clm 24 w mean mg mb 105 news [.ref l] (OutI news (lnumberOf fs)) := by
  unfold Clm
  w_top off
  k_fill
  intro dp un gd cn cs a ccd cl outer A₀ base h₀ L m s Q E B F X N T hk hd hu hret
  have hMk := kstMark
  refine wpAny_call ?_
  k_dflt (refine' code_defC ?k1 ?k2 ?k3 ?k4 ?k5 ?kA ?kF ?kK ?k6 ?k7 ?k8 ?k9 ?kB ?kD ?_ ?c2 ?c3 ?c4; (case kA => exact rfl); (case kF => exact rfl); (case kK => assumption); (case k1 => k_asm); (case k2 => k_asm); (case k3 => k_asm); (case k4 => k_asm); (case k5 => k_asm); (case k6 => k_is); (case k7 => k_is); (case k8 => ktr_room); (case k9 => exact BindsTo.of_eq rfl); (case kB => exact rfl); (case kD => decide +kernel); (case c2 => exact rfl); (case c3 => exact rfl); (case c4 => exact rfl))
  intro g' L' h' tk' cells' FG' F' N' Y' B' X' T' l1
  obtain ⟨o', rfl, d1'⟩ := CellsAre.one Y'
  simp only [List.cons_append, List.nil_append] at N'
  try dsimp only
  try k_fold
  have d1 : o'.data = .cell (some (.ref l)) := d1'
  clear d1' Y'
  refine wpAny_execs_cons ?_
  have hrt := row_tups w X'
  k_dflt refine' rows_compL (L := L') (rows := lawRows) (q := hitRow fs) (T := 89) (vs := lawVs) (cl := [(Str.ofString "facts", L' + 1)]) (by rfl) (by with_unfolding_all rfl) (by with_unfolding_all rfl) (by rfl) (by decide) (fun _ => rfl) (fun _ => rfl) (by rfl) (fun _ _ => rfl) (fun _ _ => rfl) (by decide) (by decide) (by rfl) (by rfl) (by rfl) F' N' (law_tab w X') (law_rows w X') (by rw [PySem.sizeLine_eq]; decide) ?ait ?aturn ?adone
  case ait =>
    k_dflt k_fold
    walk1
    exact ⟨rfl, _, _, rfl, F', N'⟩
  case aturn =>
    intro r I oI C oC c1 o1 c2 o2 D m2 ys h tk hr hC hx e1 e2 F2 N2 hlt q1 q2 q3 q4
    obtain ⟨⟨va, hta, hsa⟩, ⟨vb, htb, hsb⟩⟩ := hrt r hr
    refine' and2 (b1 := hitIn fs (wordsAt r.a)) (b2 := hitIn fs (wordsAt r.b)) F2 N2 ?ah1 ?ah2 ?_
    case ah1 =>
      k_fold
      k_steps
    case ah2 =>
      intro h9 tk9 F9 N9
      k_fold
      k_steps
    intro h9 tk9 F9 N9
    exact KB.intro rfl F9 N9
  case adone =>
    intro ys D h tk hI F2 N2 hlt
    have hI' : IntsAre ys (brokenOf fs) := hI
    cases hbr : brokenOf fs with
    | nil =>
      rw [hbr] at hI'
      show wpAny _ _ (execs _ _) _ _ _
      try k_fold
      k_steps
      exact out_int hret (by simp [lnumberOf, hbr]) (by k_asm) (cb_drop (by k_asm) (by kcj_all))
    | cons n r =>
      rw [hbr] at hI'
      show wpAny _ _ (execs _ _) _ _ _
      try k_fold
      k_steps
      exact out_int hret (by simp [lnumberOf, hbr]) (by k_asm) (cb_drop (by k_asm) (by kcj_all))
end
end Mine
end
section
open PySem PySem.W PyProof.Rows PySem.Calls
set_option maxHeartbeats 8000000
namespace Mine
def Stop (P : Prop) : Prop := P
theorem stop_ {P : Prop} (h : Stop P) : P := h
section
variable {prog : Program} {w : World} {A : Around} {E : Value → Shared → Prop} {s : Shared} {env : Env}
def NumsAt (h₀ : Heap) (L C : Addr) (o : Obj) (m : Str → Option Value) (s s' : Shared) : Prop :=
  ∃ h tk l zs ks nn, s' = { s with heap := h, toks := tk } ∧ Fr h₀ L h (fun z => if z = Str.ofString "nums" then some (.ref l) else m z) ∧ News h₀ L h [(l, listOf zs.toArray nn), (C, o)] ∧ IntsAre zs ks ∧ (∀ k ∈ ks, 0 ≤ k ∧ k < 10485760) ∧ zs.length ≤ 12
def EndIf (J : Shared → Prop) (f : Flow) (s' : Shared) : Prop := f = .next ∧ J s'
theorem if_cut {M : Model} {st : Stmt} {h₀ : Heap} {L C : Addr} {o : Obj} {m : Str → Option Value} {nx : List (Addr × Obj)} {Q : Flow → Shared → Prop} (_F : Fr h₀ L s.heap m) (_N : News h₀ L s.heap (nx ++ [(C, o)]))
    (h : wpAny M A (exec st env) (EndIf (NumsAt h₀ L C o m s)) (fun _ _ => False) s)
    (hk : ∀ h tk l zs ks nn, Fr h₀ L h (fun z => if z = Str.ofString "nums" then some (.ref l) else m z) → News h₀ L h [(l, listOf zs.toArray nn), (C, o)] → IntsAre zs ks → (∀ k ∈ ks, 0 ≤ k ∧ k < 10485760) → zs.length ≤ 12 → Q .next { s with heap := h, toks := tk }) : wpAny M A (exec st env) Q E s := by
  refine wpAny_mono h (fun f s' e => ?_) (fun _ _ e => e.elim)
  obtain ⟨rfl, h, tk, l, zs, ks, nn, rfl, F, N, hi, hb, hl⟩ := e
  exact hk h tk l zs ks nn F N hi hb hl
theorem NumsAt.lit {h₀ h : Heap} {L C l : Addr} {o : Obj} {m : Str → Option Value} {tk : Nat} {a b c d : Tok} (F : Fr h₀ L h (fun z => if z = Str.ofString "nums" then some (.ref l) else m z)) (N : News h₀ L h [(l, listOf #[.int 8345 a, .int 1311 b, .int 2651 c, .int 170 d] 0), (C, o)]) :
    EndIf (NumsAt h₀ L C o m s) .next { s with heap := h, toks := tk } :=
  ⟨rfl, h, tk, l, [.int 8345 a, .int 1311 b, .int 2651 c, .int 170 d], [8345, 1311, 2651, 170], 0, rfl, F, N, .cons _ _ (.cons _ _ (.cons _ _ (.cons _ _ .nil))), by decide, Nat.le_of_ble_eq_true rfl⟩
theorem NumsAt.old {h₀ h : Heap} {L C l : Addr} {o : Obj} {m : Str → Option Value} {tk : Nat} {zs : List Value} {ns : List Int} (F : Fr h₀ L h (fun z => if z = Str.ofString "nums" then some (.ref l) else m z)) (N : News h₀ L h [(l, LCg.lst zs), (C, o)]) (hi : IntsAre zs (List.map (fun k' => k'.fmod 10485760) (List.take 12 ns))) :
    EndIf (NumsAt h₀ L C o (fun z => if z = Str.ofString "nums" then some (.ref l) else m z) s) .next { s with heap := h, toks := tk } := by
  refine ⟨rfl, h, tk, l, zs, _, _, rfl, ?_, N, hi, ?_, ?_⟩
  · have e : (fun z => if z = Str.ofString "nums" then some (Value.ref l) else if z = Str.ofString "nums" then some (Value.ref l) else m z) = fun z => if z = Str.ofString "nums" then some (Value.ref l) else m z := by
      funext z
      by_cases hz : z = Str.ofString "nums" <;> simp [hz]
    rw [e]
    exact F
  · intro k hk
    obtain ⟨x, _, rfl⟩ := List.mem_map.mp hk
    exact ⟨Int.fmod_nonneg_of_pos _ (by decide), Int.fmod_lt_of_pos _ (by decide)⟩
  · rw [hi.length, List.length_map, List.length_take]
    exact Nat.min_le_left _ _
/-- the outer loop's word -/
def J1 (l C : Addr) (zs : List Value) (nn : Nat) (_i : Nat) (_m : Str → Option Value) (nx : List (Addr × Obj)) : Prop := ∃ ob v, nx = [(l, listOf zs.toArray nn), (C, ob)] ∧ ob.data = .cell v
end
end Mine
end
section
open PySem PySem.W PyProof.Rows PySem.Calls
set_option maxHeartbeats 8000000
namespace Mine
def modWords : List Str := [Str.ofString "public", Str.ofString "private", Str.ofString "protected", Str.ofString "internal", Str.ofString "static", Str.ofString "abstract", Str.ofString "virtual", Str.ofString "override", Str.ofString "sealed", Str.ofString "readonly", Str.ofString "const", Str.ofString "new"]
def bitOn (mods : Int) (j : Nat) : Bool := (mods.fdiv (2 ^ j)).fmod 2 == 1
def wordAt (j : Nat) : Str := modWords.getD j Str.empty
def wordsOf (mods : Int) : List Str := ((List.range 12).filter (bitOn mods)).map wordAt
theorem bit_eq (mods : Int) (i : Nat) : ((mods.fdiv (2 ^ (0 + (i : Int)).toNat)).fmod 2 == 1) = bitOn mods i := by
  have e : (0 + (i : Int)).toNat = i := by omega
  rw [e]
  rfl
theorem word_eq (i : Nat) : modWords.getD (0 + (i : Int)).toNat Str.empty = wordAt i := by
  have e : (0 + (i : Int)).toNat = i := by omega
  rw [e]
  rfl
theorem words_ok (mods : Int) : OkS (wordsOf mods) := by
  intro y hy
  obtain ⟨j, hj, rfl⟩ := List.mem_map.mp hy
  have h := List.mem_range.mp (List.mem_filter.mp hj).1
  have all : ∀ j < 12, PyData.canLay0 (.str (wordAt j)) = true := by decide +kernel
  exact all j h
theorem words_len (mods : Int) : (wordsOf mods).length ≤ 12 := by
  unfold wordsOf
  rw [List.length_map]
  exact List.length_filter_le _ _
theorem facts_room {sort shut mods : Int} {us : List Value} (h : StrsAre us (factsOf sort shut (wordsOf mods))) : us.length ≤ 80 := by
  have h1 := facts_len sort shut (wordsOf mods)
  have h2 := words_len mods
  have h3 := h.length
  omega
theorem words_room {mods : Int} {us : List Value} (h : StrsAre us (wordsOf mods)) : us.length ≤ 64 := by
  have h2 := words_len mods
  have h3 := h.length
  omega
theorem news_tl {h₀ h : Heap} {L : Addr} {q : Addr × Obj} {r : List (Addr × Obj)} (N : News h₀ L h (q :: r)) : News h₀ L h r := fun p hp => N p (.tail _ hp)
theorem cell_ne {h₀ h : Heap} {L l C : Addr} {o : Obj} {its : Array Value} {k : Nat} {v : Option Value} {news : List (Addr × Obj)} (N : News h₀ L h news) (h1 : (l, listOf its k) ∈ news) (h2 : (C, o) ∈ news) (hd : o.data = .cell v) : @Ne Nat l C := fun e => by
  have e1 := (N _ h1).1
  have e2 := (N _ h2).1
  dsimp only at e1 e2
  rw [show l = C from e, e2] at e1
  rw [Option.some.inj e1] at hd
  cases hd
def bitsL : List Int := [1, 2, 4, 8, 16, 32, 64, 128, 256, 2048]
section
variable {prog : Program} {w : World} {A : Around} {E : Value → Shared → Prop} {s : Shared} {env : Env} {h₀ : Heap} {L : Addr} {m : Str → Option Value} {news : List (Addr × Obj)}
variable {ct elt : Expr} {x : Str} {px : Pos} {scope : Scope} {cl : List (Str × Addr)} {S : List (Addr × Obj) → Prop}
/-- an element's value, read off -/
def KS (h₀ : Heap) (L : Addr) (m : Str → Option Value) (news : List (Addr × Obj)) (s : Shared) (r : Str) (v : Value) (s' : Shared) : Prop :=
  ∃ t h tk, v = .str r t ∧ s' = { s with heap := h, toks := tk } ∧ Fr h₀ L h m ∧ News h₀ L h news
theorem KS.intro {r : Str} {t : Tok} {h : Heap} {tk : Nat} (F : Fr h₀ L h m) (N : News h₀ L h news) : KS h₀ L m news s r (.str r t) { s with heap := h, toks := tk } := ⟨t, h, tk, rfl, rfl, F, N⟩
theorem KS.of {r x : Str} {t : Tok} {h : Heap} {tk : Nat} (e : x = r) (F : Fr h₀ L h m) (N : News h₀ L h news) : KS h₀ L m news s r (.str x t) { s with heap := h, toks := tk } := by
  subst e
  exact ⟨t, h, tk, rfl, rfl, F, N⟩
theorem range_rest {n : Nat} {Fin : List Value → List (Addr × Obj) → Prop} (p : Nat → Bool) (g : Nat → Str) (hS : S news)
    (turn : ∀ i t I oI C oC D m₂ ys h tk (E' : Value → Shared → Prop), i < n → LCg.NsObj oC m₂ → m₂ x = some (.int (0 + (i : Int)) t) → Fr h₀ L h m → News h₀ L h ((I, oI) :: (C, oC) :: (D, LCg.lst ys) :: news) → LCg.Off3 I C D news → ((@Ne Nat I C) ∧ (@Ne Nat I D) ∧ (@Ne Nat C D)) →
      wpAny (model prog w) A (isTrue ct (compEnvC scope cl C env) (eval ct (compEnvC scope cl C env))) (KB h₀ L m ((I, oI) :: (C, oC) :: (D, LCg.lst ys) :: news) { s with heap := h, toks := tk } (p i)) E' { s with heap := h, toks := tk })
    (el : ∀ i t I oI C oC D m₂ ys h tk (E' : Value → Shared → Prop), i < n → LCg.NsObj oC m₂ → m₂ x = some (.int (0 + (i : Int)) t) → Fr h₀ L h m → News h₀ L h ((I, oI) :: (C, oC) :: (D, LCg.lst ys) :: news) → LCg.Off3 I C D news → ((@Ne Nat I C) ∧ (@Ne Nat I D) ∧ (@Ne Nat C D)) →
      wpAny (model prog w) A (eval elt (compEnvC scope cl C env)) (KS h₀ L m ((I, oI) :: (C, oC) :: (D, LCg.lst ys) :: news) { s with heap := h, toks := tk } (g i)) E' { s with heap := h, toks := tk })
    (fin : ∀ ys, StrsAre ys (((List.range n).filter p).map g) → ys.length ≤ n → Fin ys news) : LCt.CompRestT prog w A h₀ L m env ct elt x scope cl s S (fun i v => ∃ t, v = .int (0 + (i : Int)) t) Fin n 0 [] news := by
  have key : ∀ (j i : Nat) (ys : List Value), i + j = n → StrsAre ys (((List.range i).filter p).map g) → LCt.CompRestT prog w A h₀ L m env ct elt x scope cl s S (fun i v => ∃ t, v = .int (0 + (i : Int)) t) Fin j i ys news := by
    intro j
    induction j with
    | zero =>
      intro i ys hij hy
      have e : i = n := by omega
      subst e
      refine LCt.CompRestT.zero (fin ys hy ?_)
      rw [hy.length, List.length_map]
      refine Nat.le_trans (List.length_filter_le _ _) ?_
      rw [List.length_range]
      exact Nat.le_refl _
    | succ j ih =>
      intro i ys hij hy
      refine LCt.CompRestT.succ ?_
      intro v I oI C oC D m₂ h tk E' hv hC hxv F N off ne
      obtain ⟨t, rfl⟩ := hv
      have hlt : i < n := by omega
      have hs : ((List.range (i + 1)).filter p).map g = ((List.range i).filter p).map g ++ (if p i = true then [g i] else []) := by
        rw [List.range_succ, List.filter_append, List.map_append]
        cases hp : p i with
        | true => simp [hp]
        | false => simp [hp]
      refine wpAny_mono (turn i t I oI C oC D m₂ ys h tk E' hlt hC hxv F N off ne) (fun b s₂ hb => ?_) fun _ _ e => e
      obtain ⟨rfl, h', tk', rfl, F', N'⟩ := hb
      cases hp : p i with
      | true =>
        simp only [if_true]
        refine wpAny_mono (el i t I oI C oC D m₂ ys h' tk' E' hlt hC hxv F' N' off ne) (fun v s₃ hv => ?_) fun _ _ e => e
        obtain ⟨u, h2, tk2, rfl, rfl, F2, N2⟩ := hv
        refine ⟨h2, tk2, news, rfl, F2, N2, off, hS, ih (i + 1) _ (by omega) ?_⟩
        rw [hs, hp]
        exact strs_snoc hy
      | false =>
        simp only [Bool.false_eq_true, if_false]
        refine ⟨h', tk', news, rfl, F', N', off, hS, ih (i + 1) _ (by omega) ?_⟩
        rw [hs, hp]
        simpa using hy
  exact key n 0 [] (by omega) .nil
theorem ne_same {a b : Int} {t u : Tok} {Q : Value → Shared → Prop} (e : a = b) (h : Q (.bool false) s) : wpAny (model prog w) A (compareOp .NotEq (.int a t) (.int b u)) Q E s := PyProof.Rows.ne_int (by rw [e]; simpa using h)
end
theorem over_map {k : Str} {a : Option Value} (m : Str → Option Value) (e : m k = a) : m = fun z => if z = k then a else m z := by
  funext z
  by_cases hz : z = k
  · rw [if_pos hz, hz, e]
  · rw [if_neg hz]
theorem over_twice {k : Str} {a b : Option Value} {m : Str → Option Value} : (fun z => if z = k then a else if z = k then b else m z) = fun z => if z = k then a else m z := by
  funext z
  by_cases hz : z = k
  · rw [if_pos hz, if_pos hz]
  · rw [if_neg hz, if_neg hz, if_neg hz]
/-- the loop that writes one list: its word -/
def J2 (M : Str → Option Value) (pre : Addr × Obj) (la : Addr) (rest : List (Addr × Obj)) (i : Nat) (m' : Str → Option Value) (nx : List (Addr × Obj)) : Prop :=
  ∃ v avs ks k, m' = (fun z => if z = Str.ofString "bit" then v else M z) ∧ nx = pre :: (la, listOf (List.toArray avs) k) :: rest ∧ IntsAre avs ks ∧ avs.length ≤ i + 1
/-- the loop over the list: its word -/
def J3 (M : Str → Option Value) (pre : List (Addr × Obj)) (C : Addr) (_i : Nat) (m' : Str → Option Value) (nx : List (Addr × Obj)) : Prop :=
  ∃ v oc vc, m' = (fun z => if z = Str.ofString "words" then v else M z) ∧ nx = pre ++ [(C, oc)] ∧ oc.data = .cell vc
theorem tidyLed {prog : Program} {w : World} {A : Around} {s : Shared} {env : Env} {target : Expr} {body : List Stmt} {Q : Flow → Shared → Prop} {h₀ : Heap} {L : Addr} {m : Str → Option Value} {news : List (Addr × Obj)}
    {n sort shut dr fl : Int} {t1 t2 t3 t4 t5 t6 t7 : Tok} {b x la dx C l9 I1 : Addr} {ob it1 lo oc : Obj} {es : List DictEntry} {k nn : Nat} (F : Fr h₀ L s.heap m) (N : News h₀ L s.heap news)
    (e1 : m (Str.ofString "n") = some (.int n t1)) (e2 : m (Str.ofString "sort") = some (.int sort t2)) (e3 : m (Str.ofString "shut") = some (.int shut t3)) (e4 : m (Str.ofString "drawn") = some (.int dr t4)) (e5 : m (Str.ofString "t") = some (.ref x)) (e6 : m (Str.ofString "about") = some (.ref la))
    (hb : (b, ob) ∈ news) (ha : (la, listOf #[.int dr t5] nn) ∈ news) (hx : (x, instObj 31 dx) ∈ news) (hdx : (dx, dictOf es k) ∈ news) (hI : (I1, it1) ∈ news) (hl : (l9, lo) ∈ news) (hC : (C, oc) ∈ news)
    (d1 : ob.cls = .type "tuple") (d2 : ∃ bvs bn, ob.data = .seq (List.toArray bvs) bn ∧ IntsAre bvs bitsL) (g1 : getL (Str.ofString "sort") es = some (some (.int sort t6))) (g2 : getL (Str.ofString "flags") es = some (some (.int fl t7)))
    (h : ∀ (m0 : Str → Option Value) (t1 t2 t3 t4 t5 t6 t7 : Tok) (es : List DictEntry) (k : Nat) (ob : Obj) (bvs : List Value) (bn : Nat), Fr h₀ L s.heap (fun z => if z = Str.ofString "about" then some (.ref la) else if z = Str.ofString "t" then some (.ref x) else if z = Str.ofString "drawn" then some (.int dr t4) else if z = Str.ofString "shut" then some (.int shut t3) else if z = Str.ofString "sort" then some (.int sort t2) else if z = Str.ofString "n" then some (.int n t1) else m0 z) →
      News h₀ L s.heap [(b, ob), (la, listOf (List.toArray [.int dr t5]) nn), (x, instObj 31 dx), (dx, dictOf es k), (I1, it1), (l9, lo), (C, oc)] → getL (Str.ofString "sort") es = some (some (.int sort t6)) → getL (Str.ofString "flags") es = some (some (.int fl t7)) →
      ob.cls = .type "tuple" → ob.data = .seq (List.toArray bvs) bn → IntsAre bvs bitsL → LedAt prog w A env target body Q (.ref b) s) : LedAt prog w A env target body Q (.ref b) s := by
  obtain ⟨bvs, bn, hd, hbi⟩ := d2
  refine h m t1 t2 t3 t4 t5 t6 t7 es k ob bvs bn ?_ (cb_drop N ?_) g1 g2 d1 hd hbi
  · have e := (over_map m e6).trans ((congrArg (fun f z => if z = Str.ofString "about" then some (Value.ref la) else f z) ((over_map m e5).trans ((congrArg (fun f z => if z = Str.ofString "t" then some (Value.ref x) else f z) ((over_map m e4).trans ((congrArg (fun f z => if z = Str.ofString "drawn" then some (Value.int dr t4) else f z) ((over_map m e3).trans ((congrArg (fun f z => if z = Str.ofString "shut" then some (Value.int shut t3) else f z) ((over_map m e2).trans ((congrArg (fun f z => if z = Str.ofString "sort" then some (Value.int sort t2) else f z) (over_map m e1)))))))))))))))
    exact e ▸ F
  · intro p hp
    simp only [List.mem_cons, List.not_mem_nil, or_false] at hp
    rcases hp with rfl | rfl | rfl | rfl | rfl | rfl | rfl <;> assumption
section
variable {prog : Program} {w : World} {A : Around} {s : Shared} {env : Env} {h₀ : Heap} {target : Expr} {body : List Stmt} {Q : Flow → Shared → Prop} {M : Str → Option Value} {b la l9 C : Addr} {ob oc : Obj} {rest pre : List (Addr × Obj)} {bn k0 : Nat}
theorem J2.loop {bvs avs0 : List Value} {as0 : List Int} (hh : A.handled = none) (F : Fr h₀ env.locals s.heap M) (N : News h₀ env.locals s.heap ((b, ob) :: (la, listOf (List.toArray avs0) k0) :: rest)) (d1 : ob.cls = .type "tuple") (d2 : ob.data = .seq (List.toArray bvs) bn) (hbi : IntsAre bvs bitsL) (ha0 : IntsAre avs0 as0) (hl0 : avs0.length ≤ 1)
    (turn : ∀ I (i : Nat) (bit : Int) (t : Tok) v avs ks k h tk it, 1 ≤ bit → bit ≤ 2048 → i < 10 → (∀ p ∈ (b, ob) :: (la, listOf (List.toArray avs0) k0) :: rest, p.1 < I) → IntsAre avs ks → avs.length ≤ i + 1 → Fr h₀ env.locals h (fun z => if z = Str.ofString "bit" then v else M z) → News h₀ env.locals h ((I, it) :: (b, ob) :: (la, listOf (List.toArray avs) k) :: rest) →
      wpAny (model prog w) A (assign target env (.int bit t)) (fun _ s₂ => wpAny (model prog w) A (execs body env) (TPost h₀ env.locals I it (J2 M (b, ob) la rest (i + 1)) { s with heap := h, toks := tk } Q) (fun _ _ => False) s₂) (fun _ _ => False) { s with heap := h, toks := tk })
    (done : ∀ v avs ks k h tk, IntsAre avs ks → avs.length ≤ 11 → Fr h₀ env.locals h (fun z => if z = Str.ofString "bit" then v else M z) → News h₀ env.locals h ((b, ob) :: (la, listOf (List.toArray avs) k) :: rest) → Q .next { s with heap := h, toks := tk }) :
    LedAt prog w A env target body Q (.ref b) s := by
  have hn : (List.toArray bvs).size = 10 := by
    rw [List.size_toArray, hbi.length]
    rfl
  refine LedAt.tuple (items := List.toArray bvs) hh F N d1 ⟨_, d2⟩ (J2 M (b, ob) la rest) ?_ ?_ ?_ ?_ ?_
  · rintro i m nx ⟨v, avs, ks, k, rfl, rfl, _, _⟩; exact .head _
  · rintro i m nx ⟨v, avs, ks, k, rfl, rfl, _, _⟩; rfl
  · exact ⟨_, _, _, _, over_map _ rfl, rfl, ha0, by omega⟩
  · rintro I hI i v m₁ nx h tk it hv ⟨v3, avs, ks, k, rfl, rfl, ha, hal⟩ F1 N1
    have hv' : bvs[i]? = some v := by simpa using hv
    obtain ⟨bit, t, rfl, hb⟩ := hbi.at _ _ hv'
    have hm := List.mem_of_getElem? hb
    have all : ∀ b ∈ bitsL, 1 ≤ b ∧ b ≤ 2048 := by decide
    have hi : i < 10 := hn ▸ (Array.getElem?_eq_some_iff.mp hv).1
    exact turn I i bit t v3 avs ks k h tk it (all _ hm).1 (all _ hm).2 hi hI ha hal F1 N1
  · rintro m₁ nx h tk ⟨v3, avs, ks, k, rfl, rfl, ha, hal⟩ F1 N1
    rw [hn] at hal
    exact done v3 avs ks k h tk ha hal F1 N1
theorem J2.close {L I : Addr} {it : Obj} {h : Heap} {tk k i : Nat} {a v : Option Value} {x : Int} {t : Tok} {avs : List Value} {ks : List Int} (F : Fr h₀ L h (fun z => if z = Str.ofString "bit" then a else if z = Str.ofString "bit" then v else M z)) (N : News h₀ L h ((I, it) :: (b, ob) :: (la, listOf (List.toArray (avs ++ [.int x t])) k) :: rest)) (hi : IntsAre avs ks) (hl : avs.length ≤ i + 1) :
    TPost h₀ L I it (J2 M (b, ob) la rest (i + 1)) s Q .next { s with heap := h, toks := tk } := by
  rw [over_twice] at F
  exact ⟨h, tk, _, _, rfl, F, N, _, _, _, _, rfl, rfl, ints_snoc hi, by simp; omega⟩
theorem J3.loop {avs : List Value} {ks : List Int} {v0 : Option Value} (hh : A.handled = none) (F : Fr h₀ env.locals s.heap M) (N : News h₀ env.locals s.heap ((la, listOf (List.toArray avs) k0) :: rest ++ [(C, oc)])) (hoc : oc.data = .cell v0) (hi : IntsAre avs ks)
    (turn : ∀ I (x : Int) (t : Tok) v oc vc i h tk it, (∀ p ∈ (la, listOf (List.toArray avs) k0) :: rest ++ [(C, oc)], p.1 < I) → oc.data = .cell vc → Fr h₀ env.locals h (fun z => if z = Str.ofString "words" then v else M z) → News h₀ env.locals h ((I, it) :: (la, listOf (List.toArray avs) k0) :: rest ++ [(C, oc)]) →
      wpAny (model prog w) A (assign target env (.int x t)) (fun _ s₂ => wpAny (model prog w) A (execs body env) (TPost h₀ env.locals I it (J3 M ((la, listOf (List.toArray avs) k0) :: rest) C (i + 1)) { s with heap := h, toks := tk } Q) (fun _ _ => False) s₂) (fun _ _ => False) { s with heap := h, toks := tk })
    (done : ∀ v oc vc h tk, oc.data = .cell vc → Fr h₀ env.locals h (fun z => if z = Str.ofString "words" then v else M z) → News h₀ env.locals h ((la, listOf (List.toArray avs) k0) :: rest ++ [(C, oc)]) → Q .next { s with heap := h, toks := tk }) :
    LedAt prog w A env target body Q (.ref la) s := by
  refine LedAt.list (items := List.toArray avs) (nn := k0) hh F N (J3 M ((la, listOf (List.toArray avs) k0) :: rest) C) ?_ ?_ ?_ ?_ ?_
  · rintro i m nx ⟨v, oc, vc, rfl, rfl, _⟩; exact .head _
  · rintro i m nx ⟨v, oc, vc, rfl, rfl, _⟩; simp
  · exact ⟨_, _, _, over_map _ rfl, rfl, hoc⟩
  · rintro I hI i v m₁ nx h tk it hv ⟨v3, oc', vc, rfl, rfl, hd⟩ F1 N1
    have hv' : avs[i]? = some v := by simpa using hv
    obtain ⟨x, t, rfl, hb⟩ := hi.at _ _ hv'
    refine turn I x t v3 oc' vc i h tk it (fun p hp => ?_) hd F1 N1
    have : p.1 ∈ ((la, listOf (List.toArray avs) k0) :: rest ++ [(C, oc)]).map (·.1) := by
      have := List.mem_map_of_mem (f := fun q : Addr × Obj => q.1) hp
      simpa using this
    obtain ⟨q, hq, e⟩ := List.mem_map.mp this
    rw [← e]
    exact hI q hq
  · rintro m₁ nx h tk ⟨v3, oc', vc, rfl, rfl, hd⟩ F1 N1
    exact done v3 oc' vc h tk hd F1 N1
theorem J3.close {L I : Addr} {it : Obj} {h : Heap} {tk i : Nat} {a v vc : Option Value} (F : Fr h₀ L h (fun z => if z = Str.ofString "words" then a else if z = Str.ofString "words" then v else M z)) (N : News h₀ L h ((I, it) :: (pre ++ [(C, oc)]))) (hd : oc.data = .cell vc) :
    TPost h₀ L I it (J3 M pre C (i + 1)) s Q .next { s with heap := h, toks := tk } := by
  rw [over_twice] at F
  exact ⟨h, tk, _, _, rfl, F, N, _, _, _, rfl, rfl, hd⟩
theorem J1.close {L I : Addr} {it : Obj} {h : Heap} {tk i nn : Nat} {m : Str → Option Value} {vc : Option Value} {zs : List Value} (F : Fr h₀ L h m) (N : News h₀ L h [(I, it), (la, listOf (List.toArray zs) nn), (C, oc)]) (hd : oc.data = .cell vc) :
    TPost h₀ L I it (J1 la C zs nn (i + 1)) s Q .next { s with heap := h, toks := tk } :=
  ⟨h, tk, _, _, rfl, F, N, _, _, rfl, hd⟩
end
end Mine
end
section
open PySem PySem.W PyProof.Rows PySem.Calls
set_option maxHeartbeats 8000000
namespace Mine
def ofB : List Bool → Int
  | [] => 0
  | b :: l => (if b = true then 1 else 0) + 2 * ofB l
def maskFrom (m : Int) : Nat → List Bool → List Bool
  | _, [] => []
  | k, b :: l => (b && bitOn m k) :: maskFrom m (k + 1) l
theorem ofB_cons (b : Bool) (l : List Bool) : ofB (b :: l) = (if b = true then 1 else 0) + 2 * ofB l := rfl
theorem mask_cons (m : Int) (k : Nat) (b : Bool) (l : List Bool) : maskFrom m k (b :: l) = (b && bitOn m k) :: maskFrom m (k + 1) l := rfl
theorem ofB_nonneg : ∀ l : List Bool, 0 ≤ ofB l
  | [] => Int.le_refl 0
  | b :: l => by
    have := ofB_nonneg l
    unfold ofB
    split <;> omega
theorem ofB_ne : ∀ l : List Bool, (ofB l != 0) = l.any id
  | [] => rfl
  | b :: l => by
    have h1 := ofB_ne l
    have h2 := ofB_nonneg l
    rw [List.any_cons, ← h1, ofB_cons]
    cases b with
    | true =>
      simp only [if_true, id, Bool.true_or, bne_iff_ne, ne_eq]
      omega
    | false =>
      simp only [Bool.false_eq_true, if_false, id, Bool.false_or]
      rw [Bool.eq_iff_iff, bne_iff_ne, bne_iff_ne]
      omega
theorem bitOn_iff (m : Int) (k : Nat) : bitOn m k = decide (m / 2 ^ k % 2 = 1) := by
  unfold bitOn
  rw [Int.fdiv_eq_ediv_of_nonneg _ (Int.le_of_lt (kbt_pos k)), Int.fmod_eq_emod_of_nonneg _ (by decide)]
  rw [Bool.eq_iff_iff, beq_iff_eq, decide_eq_true_iff]
theorem and_from (m : Int) : ∀ (l : List Bool) (k : Nat), Builtin.bitAnd (m / 2 ^ k) (ofB l) = ofB (maskFrom m k l)
  | [], k => by
    have h := bitAnd_range (m / 2 ^ k) (y := 0) (Int.le_refl 0)
    show Builtin.bitAnd _ 0 = 0
    omega
  | b :: l, k => by
    have ih := and_from m l (k + 1)
    have e1 : m / 2 ^ k / 2 = m / 2 ^ (k + 1) := by
      rw [Int.ediv_ediv_of_nonneg (Int.le_of_lt (kbt_pos k)), Int.pow_succ]
    have e2 : ofB (b :: l) / 2 = ofB l := by
      rw [ofB_cons]
      split <;> omega
    have e3 : ofB (b :: l) % 2 = if b = true then 1 else 0 := by
      rw [ofB_cons]
      split <;> omega
    rw [kbt_halves, e1, e2, e3, ih]
    rw [mask_cons, ofB_cons, bitOn_iff]
    cases b with
    | false => simp
    | true => by_cases h : m / 2 ^ k % 2 = 1 <;> simp [h] <;> omega
theorem and_ofB (m : Int) (l : List Bool) : Builtin.bitAnd m (ofB l) = ofB (maskFrom m 0 l) := by
  have h := and_from m l 0
  rwa [Int.pow_zero, Int.ediv_one] at h
theorem and_ne (m c : Int) (l : List Bool) (hc : ofB l = c) : (Builtin.bitAnd m c != 0) = (maskFrom m 0 l).any id := by
  rw [← hc, and_ofB, ofB_ne]
section
variable (m : Int)
theorem n1 : (Builtin.bitAnd m 1 != 0) = bitOn m 0 := by rw [and_ne m 1 [true] (by decide)]; simp [maskFrom]
theorem n2 : (Builtin.bitAnd m 2 != 0) = bitOn m 1 := by rw [and_ne m 2 [false, true] (by decide)]; simp [maskFrom]
theorem n4 : (Builtin.bitAnd m 4 != 0) = bitOn m 2 := by rw [and_ne m 4 [false, false, true] (by decide)]; simp [maskFrom]
theorem n16 : (Builtin.bitAnd m 16 != 0) = bitOn m 4 := by rw [and_ne m 16 [false, false, false, false, true] (by decide)]; simp [maskFrom]
theorem n32 : (Builtin.bitAnd m 32 != 0) = bitOn m 5 := by rw [and_ne m 32 [false, false, false, false, false, true] (by decide)]; simp [maskFrom]
theorem n64 : (Builtin.bitAnd m 64 != 0) = bitOn m 6 := by rw [and_ne m 64 [false, false, false, false, false, false, true] (by decide)]; simp [maskFrom]
theorem n128 : (Builtin.bitAnd m 128 != 0) = bitOn m 7 := by rw [and_ne m 128 [false, false, false, false, false, false, false, true] (by decide)]; simp [maskFrom]
theorem n256 : (Builtin.bitAnd m 256 != 0) = bitOn m 8 := by rw [and_ne m 256 [false, false, false, false, false, false, false, false, true] (by decide)]; simp [maskFrom]
theorem n224 : (Builtin.bitAnd m 224 != 0) = (bitOn m 5 || bitOn m 6 || bitOn m 7) := by rw [and_ne m 224 [false, false, false, false, false, true, true, true] (by decide)]; simp [maskFrom, Bool.or_assoc]
theorem n96 : (Builtin.bitAnd m (Builtin.bitOr 32 64) != 0) = (bitOn m 5 || bitOn m 6) := by rw [and_ne m (Builtin.bitOr 32 64) [false, false, false, false, false, true, true] (by decide)]; simp [maskFrom, Bool.or_assoc]
theorem n320 : (Builtin.bitAnd m (Builtin.bitOr 64 256) != 0) = (bitOn m 6 || bitOn m 8) := by rw [and_ne m (Builtin.bitOr 64 256) [false, false, false, false, false, false, true, false, true] (by decide)]; simp [maskFrom, Bool.or_assoc]
theorem n2112 : (Builtin.bitAnd m (Builtin.bitOr 2048 64) != 0) = (bitOn m 6 || bitOn m 11) := by rw [and_ne m (Builtin.bitOr 2048 64) [false, false, false, false, false, false, true, false, false, false, false, true] (by decide)]; simp [maskFrom, Bool.or_assoc]
theorem n15 : Builtin.bitAnd m 15 = ofB [bitOn m 0, bitOn m 1, bitOn m 2, bitOn m 3] := by
  have h := and_ofB m [true, true, true, true]
  rw [show ofB [true, true, true, true] = 15 by decide] at h
  rw [h]
  simp [maskFrom]
end
theorem zero_iff (x : Int) : (x = 0) = ((x != 0) = false) := by
  apply propext
  constructor
  · rintro rfl
    rfl
  · intro h
    simpa using h
/-- the words of the bits, for any bits -/
def wordsB (b : Nat → Bool) : List Str := ((List.range 12).filter b).map wordAt
theorem any_words (b : Nat → Bool) (p : Str → Bool) : (wordsB b).any p = (((List.range 12).map b).zip (modWords.map p)).any fun q => q.1 && q.2 := by
  unfold wordsB
  rw [List.any_map, List.any_filter]
  rfl
theorem seen_bits : ∀ b0 b1 b2 b3 : Bool, (accessOf (ofB [b0, b1, b2, b3]) 1 == 1) = !(seenT.any fun x => x == ([0, 1, 2, 3].filter (fun j => [b0, b1, b2, b3].getD j false)).map wordAt) := by decide +kernel
theorem acc_words (b : Nat → Bool) : (wordsB b).filter isAcc = ([0, 1, 2, 3].filter (fun j => [b 0, b 1, b 2, b 3].getD j false)).map wordAt := by
  have all : ∀ j < 12, isAcc (wordAt j) = decide (j < 4) := by decide +kernel
  unfold wordsB
  rw [List.filter_map, List.filter_filter]
  have e : (List.range 12).filter (fun a => (isAcc ∘ wordAt) a && b a) = (List.range 12).filter (fun a => decide (a < 4) && b a) := by
    refine List.filter_congr fun a ha => ?_
    rw [Function.comp, all a (List.mem_range.mp ha)]
  rw [e]
  congr 1
/-- the facts, in the order in which a list of facts names them -/
def allFacts : List Str := [Str.ofString "of an abstract type", Str.ofString "of a whole type", Str.ofString "stands for none", Str.ofString "seen by none", Str.ofString "of a struct", Str.ofString "of a sealed type"]
theorem any_if (c : Bool) (x : Str) (p : Str → Bool) : (if c = true then [x] else []).any p = (c && p x) := by cases c <;> simp
theorem any_ite (c : Bool) (x y : Str) (p : Str → Bool) : ([if c = true then x else y] : List Str).any p = ((c && p x) || (!c && p y)) := by cases c <;> simp
theorem any_facts (sort shut : Int) (b : Nat → Bool) (p : Str → Bool) : (factsOf sort shut (wordsB b)).any p =
    (([shut.fmod 2 == 1, !(shut.fmod 2 == 1), !(wordsB b).any (fun x => x == Str.ofString "override"), !seenT.any (fun x => x == List.filter isAcc (wordsB b)), sort == 2, decide (2 ≤ shut)].zip (allFacts.map p)).any (fun q => q.1 && q.2) || (((List.range 12).map b).zip (modWords.map p)).any fun q => q.1 && q.2) := by
  unfold factsOf factsH
  rw [List.any_append, List.any_append, List.any_append, List.any_append, List.any_append, any_ite, any_if, any_if, any_if, any_if, any_words b p]
  simp [allFacts, Bool.or_assoc]
theorem hit_any (fs ws : List Str) : hitIn fs ws = fs.any (anyOf ws) := by
  unfold hitIn
  induction fs with
  | nil => rfl
  | cons f r ih =>
    rw [List.filter_cons, List.any_cons, ← ih]
    cases anyOf ws f <;> simp
theorem slot_any (fs : List Str) (p : Str → Bool) : (fs.filter p).isEmpty = !fs.any p := by
  induction fs with
  | nil => rfl
  | cons f r ih =>
    rw [List.filter_cons, List.any_cons, Bool.not_or, ← ih]
    cases p f <;> simp
theorem head_cons (p : Row → Bool) (g : Row → Int) (r : Row) (rs : List Row) : (((r :: rs).filter p).map g).headD 0 = if p r = true then g r else ((rs.filter p).map g).headD 0 := by
  rw [List.filter_cons]
  cases p r <;> simp
theorem over_any (b : Nat → Bool) : (wordsB b).any (fun x => x == Str.ofString "override") = b 7 := by
  rw [any_words, show modWords.map (fun x => x == Str.ofString "override") = [false, false, false, false, false, false, false, true, false, false, false, false] by decide +kernel]
  simp [List.range_succ]
/-- a list of words, hit -/
theorem hit_bits (sort shut : Int) (b : Nat → Bool) (a : Nat) (us vs : List Bool) (hu : allFacts.map (anyOf (wordsAt a)) = us) (hv : modWords.map (anyOf (wordsAt a)) = vs) : hitIn (factsOf sort shut (wordsB b)) (wordsAt a) =
    (([shut.fmod 2 == 1, !(shut.fmod 2 == 1), !b 7, accessOf (ofB [b 0, b 1, b 2, b 3]) 1 == 1, sort == 2, decide (2 ≤ shut)].zip us).any (fun q => q.1 && q.2) || (((List.range 12).map b).zip vs).any fun q => q.1 && q.2) := by
  rw [hit_any, any_facts, over_any, acc_words, ← seen_bits, hu, hv]
section
variable (sort shut : Int) (b : Nat → Bool)
theorem hit59 : hitIn (factsOf sort shut (wordsB b)) (wordsAt 59) = (b 4) := by
  rw [hit_bits _ _ _ _ [false, false, false, false, false, false] [false, false, false, false, true, false, false, false, false, false, false, false] (by decide +kernel) (by decide +kernel)]
  simp [List.range_succ, Bool.or_assoc]
theorem hit60 : hitIn (factsOf sort shut (wordsB b)) (wordsAt 60) = (b 5 || b 6 || b 7) := by
  rw [hit_bits _ _ _ _ [false, false, false, false, false, false] [false, false, false, false, false, true, true, true, false, false, false, false] (by decide +kernel) (by decide +kernel)]
  simp [List.range_succ, Bool.or_assoc]
theorem hit62 : hitIn (factsOf sort shut (wordsB b)) (wordsAt 62) = (b 7) := by
  rw [hit_bits _ _ _ _ [false, false, false, false, false, false] [false, false, false, false, false, false, false, true, false, false, false, false] (by decide +kernel) (by decide +kernel)]
  simp [List.range_succ, Bool.or_assoc]
theorem hit63 : hitIn (factsOf sort shut (wordsB b)) (wordsAt 63) = (b 6 || b 11) := by
  rw [hit_bits _ _ _ _ [false, false, false, false, false, false] [false, false, false, false, false, false, true, false, false, false, false, true] (by decide +kernel) (by decide +kernel)]
  simp [List.range_succ, Bool.or_assoc]
theorem hit65 : hitIn (factsOf sort shut (wordsB b)) (wordsAt 65) = (b 8) := by
  rw [hit_bits _ _ _ _ [false, false, false, false, false, false] [false, false, false, false, false, false, false, false, true, false, false, false] (by decide +kernel) (by decide +kernel)]
  simp [List.range_succ, Bool.or_assoc]
theorem hit66 : hitIn (factsOf sort shut (wordsB b)) (wordsAt 66) = ((!b 7)) := by
  rw [hit_bits _ _ _ _ [false, false, true, false, false, false] [false, false, false, false, false, false, false, false, false, false, false, false] (by decide +kernel) (by decide +kernel)]
  simp [List.range_succ, Bool.or_assoc]
theorem hit68 : hitIn (factsOf sort shut (wordsB b)) (wordsAt 68) = (b 5) := by
  rw [hit_bits _ _ _ _ [false, false, false, false, false, false] [false, false, false, false, false, true, false, false, false, false, false, false] (by decide +kernel) (by decide +kernel)]
  simp [List.range_succ, Bool.or_assoc]
theorem hit69 : hitIn (factsOf sort shut (wordsB b)) (wordsAt 69) = (b 6) := by
  rw [hit_bits _ _ _ _ [false, false, false, false, false, false] [false, false, false, false, false, false, true, false, false, false, false, false] (by decide +kernel) (by decide +kernel)]
  simp [List.range_succ, Bool.or_assoc]
theorem hit71 : hitIn (factsOf sort shut (wordsB b)) (wordsAt 71) = (b 5) := by
  rw [hit_bits _ _ _ _ [false, false, false, false, false, false] [false, false, false, false, false, true, false, false, false, false, false, false] (by decide +kernel) (by decide +kernel)]
  simp [List.range_succ, Bool.or_assoc]
theorem hit72 : hitIn (factsOf sort shut (wordsB b)) (wordsAt 72) = (b 8) := by
  rw [hit_bits _ _ _ _ [false, false, false, false, false, false] [false, false, false, false, false, false, false, false, true, false, false, false] (by decide +kernel) (by decide +kernel)]
  simp [List.range_succ, Bool.or_assoc]
theorem hit74 : hitIn (factsOf sort shut (wordsB b)) (wordsAt 74) = (b 5 || b 6 || b 7) := by
  rw [hit_bits _ _ _ _ [false, false, false, false, false, false] [false, false, false, false, false, true, true, true, false, false, false, false] (by decide +kernel) (by decide +kernel)]
  simp [List.range_succ, Bool.or_assoc]
theorem hit75 : hitIn (factsOf sort shut (wordsB b)) (wordsAt 75) = ((accessOf (ofB [b 0, b 1, b 2, b 3]) 1 == 1)) := by
  rw [hit_bits _ _ _ _ [false, false, false, true, false, false] [false, false, false, false, false, false, false, false, false, false, false, false] (by decide +kernel) (by decide +kernel)]
  simp [List.range_succ, Bool.or_assoc]
theorem hit77 : hitIn (factsOf sort shut (wordsB b)) (wordsAt 77) = ((sort == 2)) := by
  rw [hit_bits _ _ _ _ [false, false, false, false, true, false] [false, false, false, false, false, false, false, false, false, false, false, false] (by decide +kernel) (by decide +kernel)]
  simp [List.range_succ, Bool.or_assoc]
theorem hit78 : hitIn (factsOf sort shut (wordsB b)) (wordsAt 78) = (b 5 || b 6) := by
  rw [hit_bits _ _ _ _ [false, false, false, false, false, false] [false, false, false, false, false, true, true, false, false, false, false, false] (by decide +kernel) (by decide +kernel)]
  simp [List.range_succ, Bool.or_assoc]
theorem hit80 : hitIn (factsOf sort shut (wordsB b)) (wordsAt 80) = (b 5) := by
  rw [hit_bits _ _ _ _ [false, false, false, false, false, false] [false, false, false, false, false, true, false, false, false, false, false, false] (by decide +kernel) (by decide +kernel)]
  simp [List.range_succ, Bool.or_assoc]
theorem hit81 : hitIn (factsOf sort shut (wordsB b)) (wordsAt 81) = ((!(shut.fmod 2 == 1))) := by
  rw [hit_bits _ _ _ _ [false, true, false, false, false, false] [false, false, false, false, false, false, false, false, false, false, false, false] (by decide +kernel) (by decide +kernel)]
  simp [List.range_succ, Bool.or_assoc]
theorem hit83 : hitIn (factsOf sort shut (wordsB b)) (wordsAt 83) = (b 6) := by
  rw [hit_bits _ _ _ _ [false, false, false, false, false, false] [false, false, false, false, false, false, true, false, false, false, false, false] (by decide +kernel) (by decide +kernel)]
  simp [List.range_succ, Bool.or_assoc]
theorem hit84 : hitIn (factsOf sort shut (wordsB b)) (wordsAt 84) = ((decide (2 ≤ shut))) := by
  rw [hit_bits _ _ _ _ [false, false, false, false, false, true] [false, false, false, false, false, false, false, false, false, false, false, false] (by decide +kernel) (by decide +kernel)]
  simp [List.range_succ, Bool.or_assoc]
theorem hit86 : hitIn (factsOf sort shut (wordsB b)) (wordsAt 86) = ((sort == 2)) := by
  rw [hit_bits _ _ _ _ [false, false, false, false, true, false] [false, false, false, false, false, false, false, false, false, false, false, false] (by decide +kernel) (by decide +kernel)]
  simp [List.range_succ, Bool.or_assoc]
theorem hit87 : hitIn (factsOf sort shut (wordsB b)) (wordsAt 87) = (b 2) := by
  rw [hit_bits _ _ _ _ [false, false, false, false, false, false] [false, false, true, false, false, false, false, false, false, false, false, false] (by decide +kernel) (by decide +kernel)]
  simp [List.range_succ, Bool.or_assoc]
theorem num_bits : lnumberOf (factsOf sort shut (wordsB b)) = if ((b 4) && (b 5 || b 6 || b 7)) = true then 112 else if ((b 7) && (b 6 || b 11)) = true then 113 else if ((b 8) && ((!b 7))) = true then 238 else if ((b 5) && (b 6)) = true then 503 else if ((b 5) && (b 8)) = true then 502 else if ((b 5 || b 6 || b 7) && ((accessOf (ofB [b 0, b 1, b 2, b 3]) 1 == 1))) = true then 621 else if (((sort == 2)) && (b 5 || b 6)) = true then 106 else if ((b 5) && ((!(shut.fmod 2 == 1)))) = true then 513 else if ((b 6) && ((decide (2 ≤ shut)))) = true then 549 else if (((sort == 2)) && (b 2)) = true then 666 else 0 := by
  unfold lnumberOf brokenOf lawRows
  rw [head_cons, head_cons, head_cons, head_cons, head_cons, head_cons, head_cons, head_cons, head_cons, head_cons]
  simp only [hitRow, hit59, hit60, hit62, hit63, hit65, hit66, hit68, hit69, hit71, hit72, hit74, hit75, hit77, hit78, hit80, hit81, hit83, hit84, hit86, hit87]
  rfl
end
theorem same_number : ∀ b2 b4 b5 b6 b7 b8 b11 acc s2 h1 h2 : Bool,
    (if (b4 && (b5 || b6 || b7)) = true then (112 : Int) else if (b7 && (b6 || b11)) = true then 113 else if (b8 && !b7) = true then 238 else if (b5 && (b6 || b8)) = true then (if b6 = false then 502 else 503) else if ((b5 || b6 || b7) && acc) = true then 621 else if (s2 && (b5 || b6)) = true then 106 else if (b5 && !h1) = true then 513 else if (b6 && h2) = true then 549 else if (s2 && b2) = true then 666 else 0) =
    (if ((b4) && (b5 || b6 || b7)) = true then 112 else if ((b7) && (b6 || b11)) = true then 113 else if ((b8) && (!b7)) = true then 238 else if ((b5) && (b6)) = true then 503 else if ((b5) && (b8)) = true then 502 else if ((b5 || b6 || b7) && (acc)) = true then 621 else if ((s2) && (b5 || b6)) = true then 106 else if ((b5) && (!h1)) = true then 513 else if ((b6) && (h2)) = true then 549 else if ((s2) && (b2)) = true then 666 else 0) := by decide +kernel
theorem law_number (sort shut q mods : Int) (h0 : 0 ≤ shut) (h1 : shut < 4) : numberOf sort (shut + 4 * q) mods = lnumberOf (factsOf sort shut (wordsOf mods)) := by
  have w : wordsOf mods = wordsB (bitOn mods) := rfl
  have f1 : (Builtin.bitAnd (shut + 4 * q) 1 != 0) = (shut.fmod 2 == 1) := by
    rw [n1, bitOn_iff, Int.fmod_eq_emod_of_nonneg _ (by decide), Bool.eq_iff_iff, beq_iff_eq, decide_eq_true_iff, Int.pow_zero, Int.ediv_one]
    omega
  have f2 : (Builtin.bitAnd (shut + 4 * q) 2 != 0) = decide (2 ≤ shut) := by
    rw [n2, bitOn_iff, Bool.eq_iff_iff, decide_eq_true_iff, decide_eq_true_iff, Int.pow_succ, Int.pow_zero, Int.one_mul]
    omega
  rw [w, num_bits]
  unfold numberOf
  simp only [n16, n32, n64, n128, n256, n4, n224, n96, n320, n2112, n15, f1, f2, zero_iff]
  exact same_number _ _ _ _ _ _ _ _ _ _ _
theorem static_any (b : Nat → Bool) : (wordsB b).any (fun x => x == Str.ofString "static") = b 4 := by
  rw [any_words, show modWords.map (fun x => x == Str.ofString "static") = [false, false, false, false, true, false, false, false, false, false, false, false] by decide +kernel]
  simp [List.range_succ]
theorem abstract_any (b : Nat → Bool) : (wordsB b).any (fun x => x == Str.ofString "abstract") = b 5 := by
  rw [any_words, show modWords.map (fun x => x == Str.ofString "abstract") = [false, false, false, false, false, true, false, false, false, false, false, false] by decide +kernel]
  simp [List.range_succ]
theorem sealed_any (b : Nat → Bool) : (wordsB b).any (fun x => x == Str.ofString "sealed") = b 8 := by
  rw [any_words, show modWords.map (fun x => x == Str.ofString "sealed") = [false, false, false, false, false, false, false, false, true, false, false, false] by decide +kernel]
  simp [List.range_succ]
theorem slots_any (b : Nat → Bool) : (wordsB b).any isSlot = (b 5 || b 6 || b 7) := by
  rw [any_words, show modWords.map isSlot = [false, false, false, false, false, true, true, true, false, false, false, false] by decide +kernel]
  simp [List.range_succ, Bool.or_assoc]
def fA (b4 : Bool) : Int := if b4 = false then 0 else Builtin.bitOr 0 1
def fB (b4 sl b7 : Bool) : Int := if sl = false then fA b4 else if b7 = false then Builtin.bitOr (Builtin.bitOr (fA b4) 2) 4 else Builtin.bitOr (fA b4) 2
def fC (b4 sl b5 b7 : Bool) : Int := if b5 = false then fB b4 sl b7 else Builtin.bitOr (fB b4 sl b7) 8
def gA (sl b7 : Bool) : Int := if (!sl) = true then 0 else if b7 = true then 2 else 6
def gB (b4 sl b7 : Bool) : Int := if b4 = true then gA sl b7 + 1 else gA sl b7 + 0
def gC (b4 sl b5 b7 : Bool) : Int := if b5 = true then gB b4 sl b7 + 8 else gB b4 sl b7 + 0
theorem same_flags : ∀ b4 b5 b6 b7 b8 : Bool, (if (b8 && b7) = true then Builtin.bitOr (fC b4 (b5 || b6 || b7) b5 b7) 16 else fC b4 (b5 || b6 || b7) b5 b7) = if (b7 && b8) = true then gC b4 (b5 || b6 || b7) b5 b7 + 16 else gC b4 (b5 || b6 || b7) b5 b7 := by decide +kernel
theorem law_flags (mods : Int) : flagsOf mods = lflagsOf (wordsOf mods) := by
  have w : wordsOf mods = wordsB (bitOn mods) := rfl
  rw [w]
  unfold flagsOf flagsC flagsB flagsA lflagsOf lflagsC lflagsB lflagsA
  simp only [slot_any, slots_any, over_any, static_any, abstract_any, sealed_any, n16, n32, n128, n256, n224, zero_iff]
  exact same_flags _ _ _ _ _
end Mine
end
section
open PySem PySem.W PyProof.Rows PySem.Calls
set_option maxHeartbeats 40000000
namespace Mine
section
local macro_rules | `(tactic| k_get) => `(tactic| with_reducible assumption)
local macro_rules | `(tactic| walk_at "EndIf") => `(tactic| (k_here; refine stop_ ?_))
local macro_rules | `(tactic| walk_at "KB") => `(tactic| (k_here; refine stop_ ?_))
local macro_rules | `(tactic| walk_at "KS") => `(tactic| (k_here; refine stop_ ?_))
local macro_rules | `(tactic| walk_at "TPost") => `(tactic| (k_here; refine stop_ ?_))
local macro_rules | `(tactic| walk_at "LedAt") => `(tactic| (k_here; refine stop_ ?_))
local macro_rules | `(tactic| walk_at "CompSrcT") => `(tactic| (k_here; refine stop_ ?_))
local macro_rules | `(tactic| walk_at "exec If") => `(tactic| (k_here; (with_reducible show wpAny _ _ (exec (Stmt.If (Expr.Compare _ [CmpOp.Eq] _ _) _ _ _) _) _ _ _); refine stop_ ?_))
local macro_rules | `(tactic| walk_at "exec For Name Tuple") => `(tactic| (k_here; k_dflt (refine For_led ?_ (by intro _; rfl))))
local macro_rules | `(tactic| walk_at "exec For Name Name cons nil") => `(tactic| (k_here; (first | (with_reducible show wpAny _ _ (exec (Stmt.For _ (Expr.Name (Str.ofString "nums") _) _ _ _) _) _ _ _) | (with_reducible show wpAny _ _ (exec (Stmt.For _ (Expr.Name (Str.ofString "about") _) _ _ _) _) _ _ _)); k_dflt (refine For_led ?_ (by intro _; rfl))))
local macro_rules | `(tactic| walk_at "exec Assign cons ListComp") => `(tactic| (k_here; lct_look; k_dflt (refine LCt.Assign_ListComp_T (F₀ := by k_asm) (by rfl) (by with_unfolding_all rfl) (by with_unfolding_all rfl) (by decide) (by rfl) (by decide) (by rfl) (by rfl) (by rfl) ?_)))
local macro_rules | `(tactic| walk_at "call builtin:list.append") => `(tactic| (k_here; (with_reducible show wpAny _ _ (call (Value.builtin _) [Value.ref _, _]) _ _ _); k_dflt (refine' append_in (own := [_, _]) ?k1 ?k2 ?k3 ?k4 ?_ ?z; (case k1 => k_asm); (case k2 => k_asm); (case k3 => (simp only [List.forall_mem_cons, List.not_mem_nil, false_imp_iff, implies_true, and_true]; (repeat' apply And.intro) <;> exact neN (by omega))); (case k4 => (simp only [List.forall_mem_cons, List.not_mem_nil, false_imp_iff, implies_true, and_true]; (repeat' apply And.intro) <;> exact neN (by omega))); (case z => (rw [PySem.sizeLine_eq]; omega))); intro h' F' N'; (try simp only [List.cons_append, List.nil_append] at N')))
local macro_rules | `(tactic| walk_at "storeName") => `(tactic| (k_here; (with_reducible show wpAny _ _ (storeName _ (Str.ofString "mods") _) _ _ _); k_dflt (refine' stCN (own := [_, _, _, _, _, _]) (rest := []) ?k1 ?k2 ?k3 ?k4 ?k5 ?k6 ?_ ?k7 ?k8; (case k1 => k_asm); (case k2 => k_asm); (case k3 => rfl); (case k4 => assumption); (case k5 => (simp only [List.forall_mem_cons, List.not_mem_nil, false_imp_iff, implies_true, and_true]; (repeat' apply And.intro) <;> exact neN (by omega))); (case k6 => exact (fun _ hp => nomatch hp)); (case k7 => rfl); (case k8 => rfl)); intro h' o' F' N' d'; (try simp only [List.cons_append, List.nil_append] at N')))
local macro_rules | `(tactic| walk_at "compareOp NotEq int int") => `(tactic| (k_here; k_dflt (first | refine ne_same (law_number _ _ _ _ (by assumption) (by assumption)) ?_ | refine ne_same (law_flags _) ?_)))
local macro_rules | `(tactic| walk_at "call ref") => `(tactic| (k_here; (with_reducible show wpAny _ _ (call (Value.ref 50) _) _ _ _); k_dflt (refine' number_call _ _ _ _ _ _ _ _ _ _ _ _ _ _ _ ?h1 ?h2 ?h3 ?h4 _ _ _ _ _ _ _ _ _ _ _ _ _ _ _ _ _ ?k1 ?k2 ?k3 ?k4 ?k5 ?k6 ?k7 ?k8 ?_; (case k1 => k_asm); (case k2 => k_asm); (case k3 => k_asm); (case k4 => k_asm); (case k5 => k_asm); (case k6 => first | rfl | assumption); (case h1 => (repeat (first | exact List.mem_cons_self | refine List.mem_cons_of_mem _ ?_))); (case h2 => (repeat (first | exact List.mem_cons_self | refine List.mem_cons_of_mem _ ?_))); (case h3 => assumption); (case h4 => assumption); (case k7 => ktr_room); (case k8 => ktr_units)); intro t9 h9 tk9 F9 N9; (try dsimp only); (try k_fold)))
local macro_rules | `(tactic| walk_at "call ref") => `(tactic| (k_here; (with_reducible show wpAny _ _ (call (Value.ref 57) _) _ _ _); k_dflt (refine' flags_call _ _ _ _ _ _ _ _ _ _ _ _ _ _ _ _ _ _ _ _ _ _ _ _ ?k1 ?k2 ?k3 ?k4 ?k5 ?k6 ?k7 ?k8 ?_; (case k1 => k_asm); (case k2 => k_asm); (case k3 => k_asm); (case k4 => k_asm); (case k5 => k_asm); (case k6 => first | rfl | assumption); (case k7 => ktr_room); (case k8 => ktr_units)); intro t9 h9 tk9 F9 N9; (try dsimp only); (try k_fold)))
local macro_rules | `(tactic| walk_at "call ref") => `(tactic| (k_here; (with_reducible show wpAny _ _ (call (Value.ref 100) _) _ _ _); k_dflt (refine' facts_call _ _ _ _ _ _ _ _ _ _ _ _ _ ?h1 ?h2 ?h3 ?h4 _ _ _ _ _ _ _ _ _ _ _ _ _ _ _ _ _ ?k1 ?k2 ?k3 ?k4 ?k5 ?k6 ?k7 ?k8 ?_; (case k1 => k_asm); (case k2 => k_asm); (case k3 => k_asm); (case k4 => k_asm); (case k5 => k_asm); (case k6 => first | rfl | assumption); (case h1 => (repeat (first | exact List.mem_cons_self | refine List.mem_cons_of_mem _ ?_))); (case h2 => assumption); (case h3 => exact words_ok _); (case h4 => exact words_room (by assumption)); (case k7 => ktr_room); (case k8 => ktr_units)); intro D9 us9 nn9 h9 tk9 F9 N9 hl9 hS9; (try dsimp only); (try k_fold)))
local macro_rules | `(tactic| walk_at "call ref") => `(tactic| (k_here; (with_reducible show wpAny _ _ (call (Value.ref 105) _) _ _ _); k_dflt (refine' lnumber_call _ _ _ _ _ _ _ _ _ ?h1 ?h2 ?h3 ?h4 _ _ _ _ _ _ _ _ _ _ _ _ _ _ _ _ _ ?k1 ?k2 ?k3 ?k4 ?k5 ?k6 ?k7 ?k8 ?_; (case k1 => k_asm); (case k2 => k_asm); (case k3 => k_asm); (case k4 => k_asm); (case k5 => k_asm); (case k6 => first | rfl | assumption); (case h1 => (repeat (first | exact List.mem_cons_self | refine List.mem_cons_of_mem _ ?_))); (case h2 => assumption); (case h3 => exact facts_ok _ _ (words_ok _)); (case h4 => exact facts_room (by assumption)); (case k7 => ktr_room); (case k8 => ktr_units)); intro t9 h9 tk9 F9 N9; (try dsimp only); (try k_fold)))
local macro_rules | `(tactic| walk_at "call ref") => `(tactic| (k_here; (with_reducible show wpAny _ _ (call (Value.ref 110) _) _ _ _); k_dflt (refine' lflags_call _ _ _ _ _ _ _ _ _ ?h1 ?h2 ?h3 ?h4 _ _ _ _ _ _ _ _ _ _ _ _ _ _ _ _ _ ?k1 ?k2 ?k3 ?k4 ?k5 ?k6 ?k7 ?k8 ?_; (case k1 => k_asm); (case k2 => k_asm); (case k3 => k_asm); (case k4 => k_asm); (case k5 => k_asm); (case k6 => first | rfl | assumption); (case h1 => (repeat (first | exact List.mem_cons_self | refine List.mem_cons_of_mem _ ?_))); (case h2 => assumption); (case h3 => exact words_ok _); (case h4 => exact words_room (by assumption)); (case k7 => ktr_room); (case k8 => ktr_units)); intro t9 h9 tk9 F9 N9; (try dsimp only); (try k_fold)))
theorem main : PySem.Challenge.rw_xw0075_01.Holds := by
  w_top off
  refine Mine.hd ?_
  k_go0
  all_goals try k_fold
  k_steps
  unfold Stop
  rename Fr _ _ _ _ => aF'
  rename News _ _ _ [_, _, _] => aN'
  refine' if_cut (nx := [_, _]) aF' aN' ?ah1 ?_
  case ah1 =>
    refine wpAny_If ?_
    k_steps
    all_goals unfold Stop
    · exact NumsAt.lit (by k_asm) (cb_drop (by k_asm) (by kcj_all))
    · exact NumsAt.old (by k_asm) (cb_drop (by k_asm) (by kcj_all)) (by assumption)
  clear aF' aN'
  intro h9 tk9 l9 zs9 ks9 nn9 F9 N9 hi9 hb9 hl9
  k_steps
  unfold Stop
  refine' LedAt.list ?ahh F9 (by k_asm) (J1 l9 _ zs9 nn9) ?aJl ?aJa ?aj ?aturn ?adone
  case ahh => rfl
  case aJl => rintro i m nx ⟨ob, v, rfl, _⟩; exact .head _
  case aJa => rintro i m nx ⟨ob, v, rfl, _⟩; rfl
  case aj => exact ⟨_, _, rfl, by assumption⟩
  case adone =>
    rintro m1 nx1 h1 tk1 ⟨ob1, v1, rfl, hob1⟩ F1 N1
    clear F9 N9
    k_steps
  case aturn =>
    rintro I1 hI1 i1 v1 m1 nx1 h1 tk1 it1 hv1 ⟨ob1, c1, rfl, hob1⟩ F1 N1
    have hlI := hI1 (l9, _) (.head _)
    have hCI := hI1 (_, _) (.tail _ (.head _))
    have hn1 : ∃ n t, v1 = .int n t ∧ 0 ≤ n ∧ n < 10485760 := by
      have hv : zs9[i1]? = some v1 := by simpa using hv1
      obtain ⟨n, t, e, hn⟩ := hi9.at _ _ hv
      exact ⟨n, t, e, hb9 n (List.mem_of_getElem? hn)⟩
    obtain ⟨n, t1, rfl, hn0, hn1⟩ := hn1
    clear F9 N9 hv1 hI1
    k_steps
    unfold Stop
    refine' tidyLed ?aF ?aN ?e1 ?e2 ?e3 ?e4 ?e5 ?e6 ?m1 ?m2 ?m3 ?m4 (I1 := I1) (l9 := l9) ?m5 ?m6 (C := _) (oc := ob1) ?m7 ?d1 ?d2 ?g1 ?g2 ?_
    case aF => k_asm
    case aN => k_asm
    case e1 => exact rfl
    case e2 => exact rfl
    case e3 => exact rfl
    case e4 => exact rfl
    case e5 => exact rfl
    case e6 => exact rfl
    case m1 => k_mem
    case m2 => k_mem
    case m3 => k_mem
    case m4 => k_mem
    case m5 => k_mem
    case m6 => k_mem
    case m7 => k_mem
    case d1 => rfl
    case d2 => exact ⟨_, _, rfl, by (repeat (first | exact .nil | refine .cons _ _ ?_))⟩
    case g1 => k_get
    case g2 => k_get
    intro m0 u1 u2 u3 u4 u5 u6 u7 es k ob bvs bn F2 N2 g1 g2 d1 d2 hbi
    have hs0 : 0 ≤ (n.fdiv 5).fmod 4 := Int.fmod_nonneg_of_pos _ (by decide)
    have hs1 : (n.fdiv 5).fmod 4 < 4 := Int.fmod_lt_of_pos _ (by decide)
    have hd0 : 0 ≤ (n.fdiv 20).fmod 65536 := Int.fmod_nonneg_of_pos _ (by decide)
    have hd1 : (n.fdiv 20).fmod 65536 < 65536 := Int.fmod_lt_of_pos _ (by decide)
    generalize hshut : (n.fdiv 5).fmod 4 = shut at *
    generalize hdr : (n.fdiv 20).fmod 65536 = dr at *
    generalize hsort : 1 + n.fmod 5 = sort at *
    try dsimp only at F2 N2
    refine' J2.loop ?ahh F2 N2 d1 d2 hbi (.cons _ _ .nil) (Nat.le_refl _) ?cturn ?cdone
    case ahh => rfl
    case cturn =>
      intro I2 i2 bit tb v3 avs ks2 k2 h2 tk2 it2 hb0 hb1 hi2 hI2 ha2 hal2 F3 N3
      clear F2 N2
      have hMk := kstMark
      have q1 := lt1 (hI2 _ (.head _))
      have q2 := lt1 (hI2 _ (.tail _ (.head _)))
      have q3 := lt1 (hI2 _ (.tail _ (.tail _ (.head _))))
      have q4 := lt1 (hI2 _ (.tail _ (.tail _ (.tail _ (.head _)))))
      have q5 := lt1 (hI2 _ (.tail _ (.tail _ (.tail _ (.tail _ (.head _))))))
      have q6 := lt1 (hI2 _ (.tail _ (.tail _ (.tail _ (.tail _ (.tail _ (.head _)))))))
      have q7 := lt1 (hI2 _ (.tail _ (.tail _ (.tail _ (.tail _ (.tail _ (.tail _ (.head _))))))))
      clear hI2
      dsimp only at q1 q2 q3 q4 q5 q6 q7
      try k_fold
      k_steps
      all_goals unfold Stop
      all_goals (refine' J2.close ?jF ?jN ?jh ?jl; (case jF => k_asm); (case jN => k_asm); (case jh => assumption); (case jl => assumption))
    case cdone =>
      intro v2 avs ks2 k2 h2 tk2 ha2 hal2 F3 N3
      clear F2 N2
      try k_fold
      k_steps
      unfold Stop
      have N5 := news_tl N3
      refine J3.loop (rest := [_, _, _, _]) (by rfl) F3 N5 hob1 ha2 ?bturn ?bdone
      case bdone =>
        intro v3 oc3 vc3 h3 tk3 hoc3 F4 N4
        clear F3 N3 N5
        simp only [List.cons_append, List.nil_append] at N4
        try k_fold
        k_steps
        unfold Stop
        refine' J1.close ?jF ?jN hoc3
        case jF => k_asm
        case jN => exact cb_drop (by k_asm) (by kcj_all)
      case bturn =>
        intro I3 mods tm v3 oc3 vc3 i3 h3 tk3 it3 hI3 hoc3 F4 N4
        clear F3 N3 N5
        simp only [List.cons_append, List.nil_append] at N4 hI3
        have q1 := lt1 (hI3 _ (.head _))
        have q2 := lt1 (hI3 _ (.tail _ (.head _)))
        have q3 := lt1 (hI3 _ (.tail _ (.tail _ (.head _))))
        have q4 := lt1 (hI3 _ (.tail _ (.tail _ (.tail _ (.head _)))))
        have q5 := lt1 (hI3 _ (.tail _ (.tail _ (.tail _ (.tail _ (.head _))))))
        have q6 := lt1 (hI3 _ (.tail _ (.tail _ (.tail _ (.tail _ (.tail _ (.head _)))))))
        clear hI3
        have q7 := cell_ne N4 (l := l9) (by (repeat (first | exact List.mem_cons_self | refine List.mem_cons_of_mem _ ?_))) (by (repeat (first | exact List.mem_cons_self | refine List.mem_cons_of_mem _ ?_))) hoc3
        have q8 := lt1 hCI
        dsimp only at q1 q2 q3 q4 q5 q6 q8
        try k_fold
        k_steps
        unfold Stop
        refine LCt.CompSrcT.range (n := 12) (by rfl) (by k_asm) (by k_asm) (by assumption) (by decide) (by rfl) (Nat.le_of_ble_eq_true rfl) ?_
        intro g6
        refine range_rest (bitOn mods) wordAt trivial ?eturn ?cel ?cfin
        case eturn =>
          intro i t I oI C oC D m2 ys h tk E' hi hC hx F6 N6 off ne
          simp only [LCg.Off3, and_true] at off
          try k_fold
          k_steps
          unfold Stop
          exact KB.intro (bit_eq mods i) (by k_asm) (by k_asm)
        case cel =>
          intro i t I oI C oC D m2 ys h tk E' hi hC hx F6 N6 off ne
          try k_fold
          k_steps
          unfold Stop
          exact KS.of (word_eq i) (by k_asm) (by k_asm)
        case cfin =>
          intro ys hys' hyl
          have hys : StrsAre ys (wordsOf mods) := hys'
          clear hys'
          try k_fold
          clear hob1 hoc3
          k_steps
          unfold Stop
          refine' J3.close ?jF ?jN ?jd
          case jd => assumption
          case jF => k_asm
          case jN =>
            simp only [List.cons_append, List.nil_append]
            exact cb_drop (by k_asm) (by kcj_all)
end
end Mine
end
open PySem PySem.W PyProof.Rows
theorem PySem.Challenge.cw_xw0075_01_holds : PySem.Challenge.rw_xw0075_01.Holds := by
  exact Mine.main
