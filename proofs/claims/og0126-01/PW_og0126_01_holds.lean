import PyProof.Rows.All
import Wide.All
import OpenK.AllK
import Wide.FinOn
import Lean
import PySem.Challenge.RW_og0126_01
set_option Elab.async false
set_option maxRecDepth 100000
set_option compiler.extract_closed false
section
open PySem PySem.W PyProof.Rows
namespace Mine
set_option maxRecDepth 100000 in
set_option maxHeartbeats 8000000 in
open_top hd for PySem.Challenge.rw_og0126_01
end Mine
end
section
open PySem PySem.W PySem.Spec PySem.Calls PyProof.Rows
namespace Mine
abbrev Led := List (Addr × Obj)
def Spec (prog : Program) (w : World) (f : Addr) (n : Nat) (vs : List Value) (news : Led) (Post : Value → Led → Prop) : Prop :=
  ∀ (loose : List Str) (mean : ExcName → Option Value) (mg mb : Str → Option Value) (dp un : Nat) (gd : Option (List Code)) (cn : Str) (cs : Scope) (a : Addr) (ccd : Value) (cl : List (Str × Addr)) (outer : List Env) (A₀ : Around) (base h₀ : Heap) (L : Addr) (m : Str → Option Value) (s : Shared) (Q E : Value → Shared → Prop),
    Below A₀ base outer h₀ → Fr h₀ L s.heap m → (hd.heap_39 w.params).In h₀ → News h₀ L s.heap news → Top hd.view_39 loose mean mg mb h₀ → cs.kind = .function → dp + n < recursionLimit → un + 8 * n < cLine →
    (∀ r news' h' tk', Fr h₀ L h' m → News h₀ L h' news' → Post r news' → Q r { s with heap := h', toks := tk' }) →
    wpAny (model prog w) (ktrTop dp un gd cn cs L a ccd cl outer) (call (.ref f) vs) Q E s
theorem Spec.use {prog : Program} {w : World} {f : Addr} {n : Nat} {vs : List Value} {news : Led} {Post : Value → Led → Prop} (C : Spec prog w f n vs news Post)
    {loose : List Str} {mean : ExcName → Option Value} {mg mb : Str → Option Value} {dp un : Nat} {gd : Option (List Code)} {cn : Str} {cs : Scope} {a : Addr} {ccd : Value} {cl : List (Str × Addr)} {outer : List Env} {A₀ : Around} {base h₀ : Heap} {L : Addr} {m : Str → Option Value} {s : Shared} {Q E : Value → Shared → Prop}
    (B : Below A₀ base outer h₀) (F : Fr h₀ L s.heap m) (X : (hd.heap_39 w.params).In h₀) (N : News h₀ L s.heap news) (T : Top hd.view_39 loose mean mg mb h₀) (hk : cs.kind = .function) (hd : dp + n < recursionLimit) (hu : un + 8 * n < cLine)
    (ret : ∀ r news' h' tk', Fr h₀ L h' m → News h₀ L h' news' → Post r news' → Q r { s with heap := h', toks := tk' }) :
    wpAny (model prog w) (ktrTop dp un gd cn cs L a ccd cl outer) (call (.ref f) vs) Q E s :=
  C _ _ _ _ _ _ _ _ _ _ _ _ _ _ _ _ _ _ _ _ _ B F X N T hk hd hu ret
/-! a contract's end without a casesOn over the goal -/
def Ret (Post : Value → Led → Prop) (G : Value → Led → Prop) : Prop := ∀ r nw, Post r nw → G r nw
theorem Spec.useE {prog : Program} {w : World} {f : Addr} {n : Nat} {vs : List Value} {news : Led} {Post : Value → Led → Prop} (C : Spec prog w f n vs news Post)
    {loose : List Str} {mean : ExcName → Option Value} {mg mb : Str → Option Value} {dp un : Nat} {gd : Option (List Code)} {cn : Str} {cs : Scope} {a : Addr} {ccd : Value} {cl : List (Str × Addr)} {outer : List Env} {A₀ : Around} {base h₀ : Heap} {L : Addr} {m : Str → Option Value} {s : Shared} {Q E : Value → Shared → Prop}
    (B : Below A₀ base outer h₀) (F : Fr h₀ L s.heap m) (X : (hd.heap_39 w.params).In h₀) (N : News h₀ L s.heap news) (T : Top hd.view_39 loose mean mg mb h₀) (hk : cs.kind = .function) (hd : dp + n < recursionLimit) (hu : un + 8 * n < cLine)
    (ret : ∀ h' tk', Fr h₀ L h' m → Ret Post (fun r nw => News h₀ L h' nw → Q r { s with heap := h', toks := tk' })) :
    wpAny (model prog w) (ktrTop dp un gd cn cs L a ccd cl outer) (call (.ref f) vs) Q E s :=
  C _ _ _ _ _ _ _ _ _ _ _ _ _ _ _ _ _ _ _ _ _ B F X N T hk hd hu fun r nw h' tk' F' N' P => ret h' tk' F' r nw P N'
theorem ret1 {C : Tok → Value} {news : Led} {G : Value → Led → Prop} (k : ∀ t, G (C t) news) : Ret (fun r nw => nw = news ∧ ∃ t, r = C t) G := by
  rintro r nw ⟨rfl, t, rfl⟩; exact k t
theorem retO {x : Option Int} {news : Led} {G : Value → Led → Prop} (k : ∀ n t, x = some n → G (.int n t) news) (k0 : x = none → G .none news) : Ret (fun r nw => nw = news ∧ ((∃ n t, x = some n ∧ r = .int n t) ∨ (x = none ∧ r = .none))) G := by
  rintro r nw ⟨rfl, ⟨n, t, q, rfl⟩ | ⟨q, rfl⟩⟩
  · exact k n t q
  · exact k0 q
theorem retR {O : Value → Prop} {news : Led} {G : Value → Led → Prop} (k : ∀ r, O r → G r news) : Ret (fun r nw => nw = news ∧ O r) G := by
  rintro r nw ⟨rfl, o⟩; exact k r o
theorem retL {l : List Str} {news : Led} {G : Value → Led → Prop} (k : ∀ D ys, StrsAre ys l → G (.ref D) ((D, LCg.lst ys) :: news)) : Ret (fun r nw => ∃ D ys, r = .ref D ∧ nw = (D, LCg.lst ys) :: news ∧ StrsAre ys l) G := by
  rintro r nw ⟨D, ys, rfl, rfl, y⟩; exact k D ys y
theorem and4 {a b c d G : Prop} (h : a ∧ b ∧ c ∧ d) (k : a → b → c → d → G) : G := k h.1 h.2.1 h.2.2.1 h.2.2.2
theorem and5 {a b c d e G : Prop} (h : a ∧ b ∧ c ∧ d ∧ e) (k : a → b → c → d → e → G) : G := k h.1 h.2.1 h.2.2.1 h.2.2.2.1 h.2.2.2.2
theorem Fr.named {h₀ h : Heap} {L : Addr} {m : Str → Option Value} {x : Str} {v : Option Value} (F : Fr h₀ L h m) (e : m x = v) : Fr h₀ L h (fun y => if y = x then v else m y) := by
  have : (fun y => if y = x then v else m y) = m := by
    funext y
    by_cases h : y = x
    · simp [h, e]
    · simp [h]
  rw [this]; exact F
theorem Fr.named2 {h₀ h : Heap} {L : Addr} {m : Str → Option Value} {x0 x1 : Str} {v0 v1 : Option Value} (F : Fr h₀ L h m) (e0 : m x0 = v0) (e1 : m x1 = v1) : Fr h₀ L h (fun y => if y = x0 then v0 else if y = x1 then v1 else m y) := by
  have : (fun y => if y = x0 then v0 else if y = x1 then v1 else m y) = m := by
    funext y
    (repeat' split) <;> simp_all
  rw [this]; exact F
theorem Fr.named3 {h₀ h : Heap} {L : Addr} {m : Str → Option Value} {x0 x1 x2 : Str} {v0 v1 v2 : Option Value} (F : Fr h₀ L h m) (e0 : m x0 = v0) (e1 : m x1 = v1) (e2 : m x2 = v2) : Fr h₀ L h (fun y => if y = x0 then v0 else if y = x1 then v1 else if y = x2 then v2 else m y) := by
  have : (fun y => if y = x0 then v0 else if y = x1 then v1 else if y = x2 then v2 else m y) = m := by
    funext y
    (repeat' split) <;> simp_all
  rw [this]; exact F
theorem Fr.named5 {h₀ h : Heap} {L : Addr} {m : Str → Option Value} {x0 x1 x2 x3 x4 : Str} {v0 v1 v2 v3 v4 : Option Value} (F : Fr h₀ L h m) (e0 : m x0 = v0) (e1 : m x1 = v1) (e2 : m x2 = v2) (e3 : m x3 = v3) (e4 : m x4 = v4) : Fr h₀ L h (fun y => if y = x0 then v0 else if y = x1 then v1 else if y = x2 then v2 else if y = x3 then v3 else if y = x4 then v4 else m y) := by
  have : (fun y => if y = x0 then v0 else if y = x1 then v1 else if y = x2 then v2 else if y = x3 then v3 else if y = x4 then v4 else m y) = m := by
    funext y
    (repeat' split) <;> simp_all
  rw [this]; exact F
theorem allObj_mono : ∀ {ws : List (Addr × String)} {k k' : Led → Prop}, AllObj ws k → (∀ its, Objs ws its → k its → k' its) → AllObj ws k'
  | [], _, _, h, f => f [] trivial h
  | w :: _, _, _, h, f => fun o ho => allObj_mono (h o ho) fun its hits hk => f ((w.1, o) :: its) ⟨⟨rfl, ho⟩, hits⟩ hk
section
variable {prog : Program} {w : World} {A : Around} {E : Value → Shared → Prop} {s : Shared} {env : Env} {h₀ : Heap} {target : PySem.Expr} {body : List Stmt} {Q : Flow → Shared → Prop}
theorem unrEndW_mono {L : Addr} {s₁ : Shared} {its : Led} {r r' : (Str → Option Value) → Led → Prop} {s₂ : Shared} (h : UnrEndW h₀ L s₁ its r s₂) (f : ∀ m n, r m n → r' m n) : UnrEndW h₀ L s₁ its r' s₂ := by
  obtain ⟨h', tk, m', news', e, F, N, ne, hr⟩ := h
  exact ⟨h', tk, m', news', e, F, N, ne, f _ _ hr⟩
theorem unrPostW_mono {L : Addr} {s₁ : Shared} {its : Led} {r r' : (Str → Option Value) → Led → Prop} {f : Flow} {s₂ : Shared} (h : UnrPostW h₀ L s₁ its r Q f s₂) (g : ∀ m n, r m n → r' m n) : UnrPostW h₀ L s₁ its r' Q f s₂ := by
  cases f with
  | ret v => exact h
  | brk => exact h
  | next => exact unrEndW_mono h g
  | cont => exact unrEndW_mono h g
theorem itemsInv {ws : List (Addr × String)} {keep : Led} (J : List Value → (Str → Option Value) → Led → Prop)
    (turn : ∀ v r m news, J (v :: r) m news → ∀ h tk, Fr h₀ env.locals h m → AllObj ws (fun its => News h₀ env.locals h (its ++ news) →
      wpAny (model prog w) A (assign target env v) (fun _ s₂ => wpAny (model prog w) A (execs body env) (UnrPostW h₀ env.locals { s with heap := h, toks := tk } its (fun m' n' => SubL keep n' ∧ J r m' n') Q) E s₂) E { s with heap := h, toks := tk }))
    (done : ∀ m news, J [] m news → ∀ h tk, Fr h₀ env.locals h m → News h₀ env.locals h news → Q .next { s with heap := h, toks := tk }) :
    ∀ vs m news, J vs m news → ItemsRest prog w A E h₀ env target body Q s ws keep (vs.map Itm.val) m news
  | [], m, news, hj => fun h tk F N => done m news hj h tk F N
  | v :: r, m, news, hj => by
    intro u h tk e F
    have e' : u = v := e
    subst e'
    refine allObj_mono (turn u r m news hj h tk F) fun its hits hk N => ?_
    refine wpAny_mono (hk N) (fun _ s₂ h₂ => wpAny_mono h₂ (fun f s₃ h₃ => unrPostW_mono h₃ fun m' n' hr => ⟨hr.1, itemsInv J turn done r m' n' hr.2⟩) fun _ _ x => x) fun _ _ x => x
def TurnEnd (h₀ : Heap) (L : Addr) (s : Shared) (I : Addr) (news : Led) (J : (Str → Option Value) → Prop) (Q : Flow → Shared → Prop) (it : Obj) (f : Flow) (s₂ : Shared) : Prop :=
  match f with
  | .ret v => Q (.ret v) s₂
  | .brk => Q .next s₂
  | _ => ∃ h' tk m', s₂ = { s with heap := h', toks := tk } ∧ Fr h₀ L h' m' ∧ News h₀ L h' ((I, it) :: news) ∧ J m'
theorem itemsFix {I : Addr} {cls : String} {keep news : Led} (lt : ∀ p ∈ news, p.1 < I) (hk : SubL keep news) (J : List Value → (Str → Option Value) → Prop)
    (turn : ∀ v r m h tk it, it.cls = .type cls → J (v :: r) m → Fr h₀ env.locals h m → News h₀ env.locals h ((I, it) :: news) →
      wpAny (model prog w) A (assign target env v) (fun _ s₂ => wpAny (model prog w) A (execs body env) (TurnEnd h₀ env.locals s I news (J r) Q it) E s₂) E { s with heap := h, toks := tk })
    (done : ∀ m h tk, J [] m → Fr h₀ env.locals h m → News h₀ env.locals h news → Q .next { s with heap := h, toks := tk })
    {vs : List Value} {m : Str → Option Value} (hj : J vs m) : ItemsRest prog w A E h₀ env target body Q s [(I, cls)] keep (vs.map Itm.val) m news := by
  refine itemsInv (fun r m nw => nw = news ∧ J r m) ?_ ?_ vs m news ⟨rfl, hj⟩
  · rintro v r m nw ⟨rfl, hj⟩ h tk F
    refine AllObj.cons fun o ho => AllObj.nil fun N => ?_
    refine wpAny_mono (turn v r m h tk o ho hj F N) (fun _ s₂ h₂ => wpAny_mono h₂ (fun f s₃ h₃ => ?_) fun _ _ x => x) fun _ _ x => x
    have fin : ∀ {s₃}, (∃ h' tk' m', s₃ = { s with heap := h', toks := tk' } ∧ Fr h₀ env.locals h' m' ∧ News h₀ env.locals h' ((I, o) :: nw) ∧ J r m') → UnrEndW h₀ env.locals { s with heap := h, toks := tk } [(I, o)] (fun m' n' => SubL keep n' ∧ (n' = nw ∧ J r m')) s₃ := by
      rintro _ ⟨h', tk', m', rfl, F', N', hj'⟩
      exact ⟨h', tk', m', nw, rfl, F', N', fun p hp q hq => by rw [List.mem_singleton.mp hq]; exact Nat.ne_of_lt (lt p hp), hk, rfl, hj'⟩
    cases f with
    | ret v => exact h₃
    | brk => exact h₃
    | next => exact fin h₃
    | cont => exact fin h₃
  · rintro m nw ⟨rfl, hj⟩ h tk F N
    exact done m h tk hj F N
end
section
variable {prog : Program} {w : World} {A : Around} {E : Value → Shared → Prop} {s : Shared} {env : Env} {h₀ : Heap} {test : PySem.Expr} {body : List Stmt} {Q : Flow → Shared → Prop}
def WEnd (h₀ : Heap) (L : Addr) (s : Shared) (news : Led) (J : (Str → Option Value) → Prop) (Q : Flow → Shared → Prop) (f : Flow) (s₂ : Shared) : Prop :=
  match f with
  | .ret v => Q (.ret v) s₂
  | .brk => Q .next s₂
  | _ => ∃ h' tk m', s₂ = { s with heap := h', toks := tk } ∧ Fr h₀ L h' m' ∧ News h₀ L h' news ∧ J m'
theorem whileRest {news : Led} (J : Nat → (Str → Option Value) → Prop) (hE : PassesOwn (model prog w) A env E)
    (turn : ∀ n m h tk, J n m → Fr h₀ env.locals h m → News h₀ env.locals h news →
      wpAny (model prog w) A (isTrue test env (eval test env)) (fun b s₂ => WhlIf b (wpAny (model prog w) A (execs body env) (WEnd h₀ env.locals s news (fun m' => ∃ n', n = n' + 1 ∧ J n' m') Q) E s₂) (Q .next s₂)) E { s with heap := h, toks := tk }) :
    ∀ n m h tk, J n m → Fr h₀ env.locals h m → News h₀ env.locals h news → WhlRest prog w A E env test body [] Q (n + 1) { s with heap := h, toks := tk } := by
  intro n
  induction n with
  | zero =>
    intro m h tk hj F N
    refine whl_turn hE (wpAny_mono (turn 0 m h tk hj F N) (fun b s₂ h₂ => ?_) fun _ _ x => x)
    cases b with
    | false => exact WhlIf.no rfl (wpAny_execs_nil (by unfold WhlIf at h₂; rw [if_neg Bool.false_ne_true] at h₂; exact h₂))
    | true =>
      refine WhlIf.yes rfl ?_
      unfold WhlIf at h₂
      rw [if_pos rfl] at h₂
      refine wpAny_mono h₂ (fun f s₃ h₃ => ?_) fun _ _ x => x
      cases f with
      | ret v => exact h₃
      | brk => exact h₃
      | next => obtain ⟨_, _, _, _, _, _, _, hn, _⟩ := h₃; omega
      | cont => obtain ⟨_, _, _, _, _, _, _, hn, _⟩ := h₃; omega
  | succ n ih =>
    intro m h tk hj F N
    refine whl_turn hE (wpAny_mono (turn (n + 1) m h tk hj F N) (fun b s₂ h₂ => ?_) fun _ _ x => x)
    cases b with
    | false => exact WhlIf.no rfl (wpAny_execs_nil (by unfold WhlIf at h₂; rw [if_neg Bool.false_ne_true] at h₂; exact h₂))
    | true =>
      refine WhlIf.yes rfl ?_
      unfold WhlIf at h₂
      rw [if_pos rfl] at h₂
      refine wpAny_mono h₂ (fun f s₃ h₃ => ?_) fun _ _ x => x
      cases f with
      | ret v => exact h₃
      | brk => exact h₃
      | next =>
        obtain ⟨h', tk', m', rfl, F', N', n', hn, hj'⟩ := h₃
        obtain rfl : n = n' := by omega
        exact ih m' h' tk' hj' F' N'
      | cont =>
        obtain ⟨h', tk', m', rfl, F', N', n', hn, hj'⟩ := h₃
        obtain rfl : n = n' := by omega
        exact ih m' h' tk' hj' F' N'
theorem whileInv {news : Led} {pos : Pos} {m : Str → Option Value} (n : Nat) (F : Fr h₀ env.locals s.heap m) (N : News h₀ env.locals s.heap news) (J : Nat → (Str → Option Value) → Prop)
    (turn : ∀ n m h tk, J n m → Fr h₀ env.locals h m → News h₀ env.locals h news →
      wpAny (model prog w) A (isTrue test env (eval test env)) (fun b s₂ => WhlIf b (wpAny (model prog w) A (execs body env) (WEnd h₀ env.locals s news (fun m' => ∃ n', n = n' + 1 ∧ J n' m') Q) E s₂) (Q .next s₂)) E { s with heap := h, toks := tk })
    (hj : J n m) (hE : PassesOwn (model prog w) A env E := by passes_own) : wpAny (model prog w) A (exec (.While test body [] pos) env) Q E s :=
  whl_start (n + 1) (whileRest (s := s) J hE turn n m s.heap s.toks hj F N)
end
theorem news_sub {h₀ h : Heap} {L : Addr} {news news' : Led} (N : News h₀ L h news) (hs : ∀ p ∈ news', p ∈ news) : News h₀ L h news' := fun p hp => N p (hs p hp)
theorem fdm_bd {n k b : Int} (hk : 0 < k) (h0 : 0 ≤ n) (h1 : n ≤ b) : 0 ≤ n.fdiv k ∧ n.fdiv k ≤ b ∧ 0 ≤ n.fmod k ∧ n.fmod k ≤ b := by
  rw [Int.fdiv_eq_ediv_of_nonneg _ (Int.le_of_lt hk), Int.fmod_eq_emod_of_nonneg _ (Int.le_of_lt hk)]
  refine ⟨Int.ediv_nonneg h0 (Int.le_of_lt hk), Int.le_trans (Int.ediv_le_self _ h0) h1, Int.emod_nonneg _ (by omega), Int.le_trans ?_ h1⟩
  have := Int.ediv_mul_add_emod n k
  have h3 : 0 ≤ n / k * k := Int.mul_nonneg (Int.ediv_nonneg h0 (Int.le_of_lt hk)) (Int.le_of_lt hk)
  omega
end Mine
end
section
open PySem PySem.W PySem.Spec PySem.Calls PyProof.Rows
namespace Mine
section
variable {prog : Program} {w : World} {A : Around} {E : Value → Shared → Prop} {s : Shared} {h₀ : Heap} {L : Addr} {m : Str → Option Value} {env : Env}
def SrcS (prog : Program) (w : World) (A : Around) (h₀ : Heap) (L : Addr) (m : Str → Option Value) (env : Env) (ct elt : PySem.Expr) (x : Str) (scope : Scope) (cl : List (Str × Addr)) (Q : Value → Shared → Prop) (xv : Value) (s₁ : Shared) : Prop :=
  ∃ X t news, xv = .str X t ∧ A.handled = none ∧ Fr h₀ L s₁.heap m ∧ News h₀ L s₁.heap news ∧ X.cps.size ≤ sizeLine ∧
      ∀ s₂ : Shared, (∃ h, s₂ = { s₁ with heap := h }) → LCt.CompRestT prog w A h₀ L m env ct elt x scope cl s₂ (fun _ => True) (SignAt X) (LCg.FinE h₀ L m s₂ Q) X.cps.size 0 [] news
theorem SrcS.intro {ct elt : PySem.Expr} {x : Str} {scope : Scope} {cl : List (Str × Addr)} {Q : Value → Shared → Prop} {X : Str} {t : Tok} {news : Led} {s₁ : Shared}
    (hh : A.handled = none) (F : Fr h₀ L s₁.heap m) (N : News h₀ L s₁.heap news) (hsz : X.length ≤ sizeLine)
    (h : ∀ g, LCt.CompRestT prog w A h₀ L m env ct elt x scope cl { s₁ with heap := g } (fun _ => True) (SignAt X) (LCg.FinE h₀ L m { s₁ with heap := g } Q) X.cps.size 0 [] news) :
    SrcS prog w A h₀ L m env ct elt x scope cl Q (.str X t) s₁ := ⟨X, t, news, rfl, hh, F, N, hsz, fun _ ⟨g, e⟩ => e ▸ h g⟩
/-- a comprehension over a text, with a test -/
theorem ListComp_TS {ct elt iter : PySem.Expr} {x : Str} {px : Pos} {scope : Scope} {cl : List (Str × Addr)} {pos : Pos} {Q : Value → Shared → Prop} (_F₀ : Fr h₀ L s.heap m)
    (hclos : closureFor scope env = pure cl) (hcell : ∀ y ∈ scope.names, y.2 ≠ .cell) (hkind : scope.kind = .function)
    (hnames : ∀ y ∈ scope.names, y.2 = .local → scope.names.lookup y.1 = some .local) (hx : scope.names.lookup x = some .local)
    (h : wpAny (model prog w) A (eval iter env) (SrcS prog w A h₀ L m env ct elt x scope cl Q) E s)
    (hs : ∀ x, foldedSetIterable iter env x = pure x := by intro _; rfl) :
    wpAny (model prog w) A (eval (.ListComp elt [⟨.Name x px, iter, [ct], 0⟩] scope pos) env) Q E s := by
  rw [eval_ListComp]
  refine wpAny_comprehension_free (use := none) rfl hs hclos hkind hnames (wpAny_mono h (fun xv s₁ h₁ => ?_) fun _ _ e => e)
  obtain ⟨X, t, news, rfl, hh, F, N, hsz, R⟩ := h₁
  have fin : ∀ (o : Obj) D C h tk m' ys news', Fr h₀ L h m → News h₀ L h ((D, LCg.lst ys) :: news') → LCg.Off1 D news' → h.Ns C m' → h₀.get? C = none → h₀.get? D = none → C ≠ L → D ≠ L → C ≠ D → (∀ p ∈ news', p.1 ≠ C) → LCg.FinE h₀ L m { s₁ with heap := s₁.heap.push o } Q ys news' →
      ∃ m', h.Ns C m' ∧ ∀ h'', Heap.SameBut C h h'' → Q (.ref D) { s₁ with heap := h'', toks := tk } := by
    intro o D C h tk m' ys news' F' N' o1 hn hC₀ hD₀ hCL hDL hCD offC fin
    refine ⟨m', hn, fun h'' hs'' => fin D h'' tk (F'.change hs'' hCL hC₀) (fun p hp => ?_) o1⟩
    refine ⟨hs''.extBut _ _ ?_ (N' p hp).1, (N' p hp).2⟩
    rcases List.mem_cons.mp hp with rfl | hp
    · exact Ne.symm hCD
    · exact offC p hp
  cases ha : X.cps.all (· < 128)
  · refine wpAny_pyIter_wide ha ?_
    refine LCt.block_T (Walks.strWide hh _ X t) hsz (fun i h st => by obtain ⟨o, e, _⟩ := st; exact ⟨o, e⟩) (fun i h h' o nw st e e' _ _ _ => by obtain ⟨o', q, r⟩ := st; rw [e] at q; cases q; exact ⟨o, e', r⟩) hcell hkind hx ⟨_, Heap.get?_push_size _ rfl, rfl, rfl⟩ (fun b hb => ?_)
      (F.keeps fun _ _ e => Heap.get?_push_of_some _ e) (N.grown fun _ _ e => Heap.get?_push_of_some _ e) (Nat.ne_of_lt F.ns.lt) (next_is_new F) (fun p hp => Nat.ne_of_lt (Heap.lt_size (N p hp).1)) trivial (R _ ⟨_, rfl⟩) (fin _)
    rw [List.mem_singleton.mp hb]
    show s₁.heap.objs.size < (s₁.heap.push _).objs.size
    rw [Heap.size_push]; exact Nat.lt_succ_self _
  · refine wpAny_pyIter_ascii ha ?_
    refine LCt.block_T (Walks.strAscii hh _ X t) hsz (fun i h st => by obtain ⟨o, e, _⟩ := st; exact ⟨o, e⟩) (fun i h h' o nw st e e' _ _ _ => by obtain ⟨o', q, r⟩ := st; rw [e] at q; cases q; exact ⟨o, e', r⟩) hcell hkind hx ⟨_, Heap.get?_push_size _ rfl, rfl, rfl⟩ (fun b hb => ?_)
      (F.keeps fun _ _ e => Heap.get?_push_of_some _ e) (N.grown fun _ _ e => Heap.get?_push_of_some _ e) (Nat.ne_of_lt F.ns.lt) (next_is_new F) (fun p hp => Nat.ne_of_lt (Heap.lt_size (N p hp).1)) trivial (R _ ⟨_, rfl⟩) (fin _)
    rw [List.mem_singleton.mp hb]
    show s₁.heap.objs.size < (s₁.heap.push _).objs.size
    rw [Heap.size_push]; exact Nat.lt_succ_self _
/-- a comprehension's turn ends: the ledger as it stood -/
def CEnd (h₀ : Heap) (L : Addr) (m : Str → Option Value) (s : Shared) (led : Led) (P : Prop) (s₂ : Shared) : Prop :=
  ∃ h' tk', s₂ = { s with heap := h', toks := tk' } ∧ Fr h₀ L h' m ∧ News h₀ L h' led ∧ P
theorem compT_fix {ct elt : PySem.Expr} {x : Str} {scope : Scope} {cl : List (Str × Addr)} {S : Led → Prop} {P : Nat → Value → Prop} {Fin : List Value → Led → Prop} {news : Led} {n : Nat}
    (J : Nat → List Value → Prop) (h0 : J 0 []) (hS : S news)
    (turn : ∀ i v ys I oI C oC D m₂ h tk (E' : Value → Shared → Prop), i < n → P i v → J i ys → LCg.NsObj oC m₂ → m₂ x = some v → Fr h₀ L h m → News h₀ L h ((I, oI) :: (C, oC) :: (D, LCg.lst ys) :: news) → LCg.Off3 I C D news → ((@Ne Nat I C) ∧ (@Ne Nat I D) ∧ (@Ne Nat C D)) →
      wpAny (model prog w) A (isTrue ct (compEnvC scope cl C env) (eval ct (compEnvC scope cl C env))) (fun ok s' => if ok = true then
        wpAny (model prog w) A (eval elt (compEnvC scope cl C env)) (fun y s₂ => CEnd h₀ L m s ((I, oI) :: (C, oC) :: (D, LCg.lst ys) :: news) (J (i + 1) (ys ++ [y])) s₂) E' s'
        else CEnd h₀ L m s ((I, oI) :: (C, oC) :: (D, LCg.lst ys) :: news) (J (i + 1) ys) s') E' { s with heap := h, toks := tk })
    (fin : ∀ ys, J n ys → Fin ys news) : LCt.CompRestT prog w A h₀ L m env ct elt x scope cl s S P Fin n 0 [] news := by
  have key : ∀ (j i : Nat) (ys : List Value), i + j = n → J i ys → LCt.CompRestT prog w A h₀ L m env ct elt x scope cl s S P Fin j i ys news := by
    intro j
    induction j with
    | zero =>
      intro i ys hi hy
      obtain rfl : i = n := by omega
      exact LCt.CompRestT.zero (fin ys hy)
    | succ j ih =>
      intro i ys hi hy
      refine LCt.CompRestT.succ ?_
      intro v I oI C oC D m₂ h tk E' hv hC hx F N off ne
      refine wpAny_mono (turn i v ys I oI C oC D m₂ h tk E' (by omega) hv hy hC hx F N off ne) (fun ok s₂ hq => ?_) fun _ _ e => e
      cases ok with
      | true =>
        simp only [if_true] at hq ⊢
        refine wpAny_mono hq (fun y s₃ hq => ?_) fun _ _ e => e
        obtain ⟨h', tk', rfl, F', N', hj⟩ := hq
        exact ⟨h', tk', news, rfl, F', N', off, hS, ih (i + 1) _ (by omega) hj⟩
      | false =>
        simp only [Bool.false_eq_true, if_false] at hq ⊢
        obtain ⟨h', tk', rfl, F', N', hj⟩ := hq
        exact ⟨h', tk', news, rfl, F', N', off, hS, ih (i + 1) _ (by omega) hj⟩
  exact key n 0 [] (by omega) h0
theorem compU_fix {elt : PySem.Expr} {x : Str} {scope : Scope} {cl : List (Str × Addr)} {S : Led → Prop} {P : Nat → Value → Prop} {Fin : List Value → Led → Prop} {news : Led} {n : Nat}
    (J : Nat → List Value → Prop) (h0 : J 0 []) (hS : S news)
    (turn : ∀ i v ys I oI C oC D m₂ h tk (E' : Value → Shared → Prop), i < n → P i v → J i ys → LCg.NsObj oC m₂ → m₂ x = some v → Fr h₀ L h m → News h₀ L h ((I, oI) :: (C, oC) :: (D, LCg.lst ys) :: news) → LCg.Off3 I C D news → ((@Ne Nat I C) ∧ (@Ne Nat I D) ∧ (@Ne Nat C D)) →
      wpAny (model prog w) A (eval elt (compEnvC scope cl C env)) (fun y s₂ => CEnd h₀ L m s ((I, oI) :: (C, oC) :: (D, LCg.lst ys) :: news) (J (i + 1) (ys ++ [y])) s₂) E' { s with heap := h, toks := tk })
    (fin : ∀ ys, J n ys → Fin ys news) : LCg.CompRest prog w A h₀ L m env elt x scope cl s S P Fin n 0 [] news := by
  have key : ∀ (j i : Nat) (ys : List Value), i + j = n → J i ys → LCg.CompRest prog w A h₀ L m env elt x scope cl s S P Fin j i ys news := by
    intro j
    induction j with
    | zero =>
      intro i ys hi hy
      obtain rfl : i = n := by omega
      exact LCg.CompRest.zero (fin ys hy)
    | succ j ih =>
      intro i ys hi hy
      refine LCg.CompRest.succ ?_
      intro v I oI C oC D m₂ h tk E' hv hC hx F N off ne
      refine wpAny_mono (turn i v ys I oI C oC D m₂ h tk E' (by omega) hv hy hC hx F N off ne) (fun y s₃ hq => ?_) fun _ _ e => e
      obtain ⟨h', tk', rfl, F', N', hj⟩ := hq
      exact ⟨h', tk', news, rfl, F', N', off, hS, ih (i + 1) _ (by omega) hj⟩
  exact key n 0 [] (by omega) h0
/-- a comprehension's turn ends, the ledger grown -/
def CEndL (h₀ : Heap) (L : Addr) (m : Str → Option Value) (s : Shared) (I : Addr) (oI : Obj) (C : Addr) (oC : Obj) (D : Addr) (oD : Obj) (P : Led → Prop) (s₂ : Shared) : Prop :=
  ∃ h' tk' nw, s₂ = { s with heap := h', toks := tk' } ∧ Fr h₀ L h' m ∧ News h₀ L h' ((I, oI) :: (C, oC) :: (D, oD) :: nw) ∧ LCg.Off3 I C D nw ∧ P nw
theorem compT_inv {ct elt : PySem.Expr} {x : Str} {scope : Scope} {cl : List (Str × Addr)} {S : Led → Prop} {P : Nat → Value → Prop} {Fin : List Value → Led → Prop} {news : Led} {n : Nat}
    (J : Nat → List Value → Led → Prop) (h0 : J 0 [] news) (hS : ∀ i ys nw, J i ys nw → S nw)
    (turn : ∀ i v ys nw I oI C oC D m₂ h tk (E' : Value → Shared → Prop), i < n → P i v → J i ys nw → LCg.NsObj oC m₂ → m₂ x = some v → Fr h₀ L h m → News h₀ L h ((I, oI) :: (C, oC) :: (D, LCg.lst ys) :: nw) → LCg.Off3 I C D nw → ((@Ne Nat I C) ∧ (@Ne Nat I D) ∧ (@Ne Nat C D)) →
      wpAny (model prog w) A (isTrue ct (compEnvC scope cl C env) (eval ct (compEnvC scope cl C env))) (fun ok s' => if ok = true then
        wpAny (model prog w) A (eval elt (compEnvC scope cl C env)) (fun y s₂ => CEndL h₀ L m s I oI C oC D (LCg.lst ys) (fun nw' => J (i + 1) (ys ++ [y]) nw') s₂) E' s'
        else CEndL h₀ L m s I oI C oC D (LCg.lst ys) (fun nw' => J (i + 1) ys nw') s') E' { s with heap := h, toks := tk })
    (fin : ∀ ys nw, J n ys nw → Fin ys nw) : LCt.CompRestT prog w A h₀ L m env ct elt x scope cl s S P Fin n 0 [] news := by
  have key : ∀ (j i : Nat) (ys : List Value) (nw : Led), i + j = n → J i ys nw → LCt.CompRestT prog w A h₀ L m env ct elt x scope cl s S P Fin j i ys nw := by
    intro j
    induction j with
    | zero =>
      intro i ys nw hi hy
      obtain rfl : i = n := by omega
      exact LCt.CompRestT.zero (fin ys nw hy)
    | succ j ih =>
      intro i ys nw hi hy
      refine LCt.CompRestT.succ ?_
      intro v I oI C oC D m₂ h tk E' hv hC hx F N off ne
      refine wpAny_mono (turn i v ys nw I oI C oC D m₂ h tk E' (by omega) hv hy hC hx F N off ne) (fun ok s₂ hq => ?_) fun _ _ e => e
      cases ok with
      | true =>
        simp only [if_true] at hq ⊢
        refine wpAny_mono hq (fun y s₃ hq => ?_) fun _ _ e => e
        obtain ⟨h', tk', nw', rfl, F', N', off', hj⟩ := hq
        exact ⟨h', tk', nw', rfl, F', N', off', hS _ _ _ hj, ih (i + 1) _ _ (by omega) hj⟩
      | false =>
        simp only [Bool.false_eq_true, if_false] at hq ⊢
        obtain ⟨h', tk', nw', rfl, F', N', off', hj⟩ := hq
        exact ⟨h', tk', nw', rfl, F', N', off', hS _ _ _ hj, ih (i + 1) _ _ (by omega) hj⟩
  exact key n 0 [] news (by omega) h0
theorem compU_inv {elt : PySem.Expr} {x : Str} {scope : Scope} {cl : List (Str × Addr)} {S : Led → Prop} {P : Nat → Value → Prop} {Fin : List Value → Led → Prop} {news : Led} {n : Nat}
    (J : Nat → List Value → Led → Prop) (h0 : J 0 [] news) (hS : ∀ i ys nw, J i ys nw → S nw)
    (turn : ∀ i v ys nw I oI C oC D m₂ h tk (E' : Value → Shared → Prop), i < n → P i v → J i ys nw → LCg.NsObj oC m₂ → m₂ x = some v → Fr h₀ L h m → News h₀ L h ((I, oI) :: (C, oC) :: (D, LCg.lst ys) :: nw) → LCg.Off3 I C D nw → ((@Ne Nat I C) ∧ (@Ne Nat I D) ∧ (@Ne Nat C D)) →
      wpAny (model prog w) A (eval elt (compEnvC scope cl C env)) (fun y s₂ => CEndL h₀ L m s I oI C oC D (LCg.lst ys) (fun nw' => J (i + 1) (ys ++ [y]) nw') s₂) E' { s with heap := h, toks := tk })
    (fin : ∀ ys nw, J n ys nw → Fin ys nw) : LCg.CompRest prog w A h₀ L m env elt x scope cl s S P Fin n 0 [] news := by
  have key : ∀ (j i : Nat) (ys : List Value) (nw : Led), i + j = n → J i ys nw → LCg.CompRest prog w A h₀ L m env elt x scope cl s S P Fin j i ys nw := by
    intro j
    induction j with
    | zero =>
      intro i ys nw hi hy
      obtain rfl : i = n := by omega
      exact LCg.CompRest.zero (fin ys nw hy)
    | succ j ih =>
      intro i ys nw hi hy
      refine LCg.CompRest.succ ?_
      intro v I oI C oC D m₂ h tk E' hv hC hx F N off ne
      refine wpAny_mono (turn i v ys nw I oI C oC D m₂ h tk E' (by omega) hv hy hC hx F N off ne) (fun y s₃ hq => ?_) fun _ _ e => e
      obtain ⟨h', tk', nw', rfl, F', N', off', hj⟩ := hq
      exact ⟨h', tk', nw', rfl, F', N', off', hS _ _ _ hj, ih (i + 1) _ _ (by omega) hj⟩
  exact key n 0 [] news (by omega) h0
theorem compT_invL {ct elt : PySem.Expr} {x : Str} {scope : Scope} {cl : List (Str × Addr)} {S : Led → Prop} {P : Nat → Value → Prop} {Fin : List Value → Led → Prop} {news : Led} {n : Nat}
    (K : Led → Nat → List Value → Led → Prop) (h0 : K news 0 [] news) (hS : ∀ i ys nw, K news i ys nw → S nw)
    (turn : ∀ i v ys nw I oI C oC D m₂ h tk (E' : Value → Shared → Prop), i < n → P i v → K news i ys nw → LCg.NsObj oC m₂ → m₂ x = some v → Fr h₀ L h m → News h₀ L h ((I, oI) :: (C, oC) :: (D, LCg.lst ys) :: nw) → LCg.Off3 I C D nw → ((@Ne Nat I C) ∧ (@Ne Nat I D) ∧ (@Ne Nat C D)) →
      wpAny (model prog w) A (isTrue ct (compEnvC scope cl C env) (eval ct (compEnvC scope cl C env))) (fun ok s' => if ok = true then
        wpAny (model prog w) A (eval elt (compEnvC scope cl C env)) (fun y s₂ => CEndL h₀ L m s I oI C oC D (LCg.lst ys) (fun nw' => K news (i + 1) (ys ++ [y]) nw') s₂) E' s'
        else CEndL h₀ L m s I oI C oC D (LCg.lst ys) (fun nw' => K news (i + 1) ys nw') s') E' { s with heap := h, toks := tk })
    (fin : ∀ ys nw, K news n ys nw → Fin ys nw) : LCt.CompRestT prog w A h₀ L m env ct elt x scope cl s S P Fin n 0 [] news := compT_inv (K news) h0 hS turn fin
theorem compU_invL {elt : PySem.Expr} {x : Str} {scope : Scope} {cl : List (Str × Addr)} {S : Led → Prop} {P : Nat → Value → Prop} {Fin : List Value → Led → Prop} {news : Led} {n : Nat}
    (K : Led → Nat → List Value → Led → Prop) (h0 : K news 0 [] news) (hS : ∀ i ys nw, K news i ys nw → S nw)
    (turn : ∀ i v ys nw I oI C oC D m₂ h tk (E' : Value → Shared → Prop), i < n → P i v → K news i ys nw → LCg.NsObj oC m₂ → m₂ x = some v → Fr h₀ L h m → News h₀ L h ((I, oI) :: (C, oC) :: (D, LCg.lst ys) :: nw) → LCg.Off3 I C D nw → ((@Ne Nat I C) ∧ (@Ne Nat I D) ∧ (@Ne Nat C D)) →
      wpAny (model prog w) A (eval elt (compEnvC scope cl C env)) (fun y s₂ => CEndL h₀ L m s I oI C oC D (LCg.lst ys) (fun nw' => K news (i + 1) (ys ++ [y]) nw') s₂) E' { s with heap := h, toks := tk })
    (fin : ∀ ys nw, K news n ys nw → Fin ys nw) : LCg.CompRest prog w A h₀ L m env elt x scope cl s S P Fin n 0 [] news := compU_inv (K news) h0 hS turn fin
end
theorem me_canLayAll0 : ∀ ns : List Str, ns.all PyData.strOk = true → PyData.canLayAll0 (ns.map PyData.str) = true
  | [], _ => rfl
  | _ :: r, h => by
    simp only [List.all_cons, Bool.and_eq_true] at h
    simp [PyData.canLayAll0, PyData.canLay0, me_canLayAll0 r h.2, h.1]
theorem me_depthAll : ∀ ns : List Str, PyData.depthAll (ns.map PyData.str) = 0
  | [] => rfl
  | _ :: r => by simp [PyData.depthAll, PyData.depth, me_depthAll r]
theorem me_shaped (ns : List Str) (h : ns.all PyData.strOk = true) : SeqAt.shaped (.list (ns.map PyData.str)) = true := by
  simp [SeqAt.shaped, PyData.canLay0, PyData.depth, me_canLayAll0 ns h, me_depthAll]
theorem me_sameAll : ∀ ns ms : List Str, PySem.Spec.sameAll (ns.map PyData.str) (ms.map PyData.str) = decide (ns = ms)
  | [], [] => by simp [PySem.Spec.sameAll]
  | [], _ :: _ => by simp [PySem.Spec.sameAll]
  | _ :: _, [] => by simp [PySem.Spec.sameAll]
  | a :: r, b :: t => by
    simp only [List.map_cons, PySem.Spec.sameAll, PySem.Spec.same, me_sameAll r t]
    by_cases h : a = b <;> by_cases h' : r = t <;> simp [h, h']
theorem me_same (ns ms : List Str) : PySem.Spec.same (.list (ns.map PyData.str)) (.list (ms.map PyData.str)) = decide (ns = ms) := by
  simp only [PySem.Spec.same]; exact me_sameAll ns ms
theorem me_carried : ∀ {vs : List Value} {ns : List Str}, StrsAre vs ns → CarriedAll vs (ns.map PyData.str)
  | _, _, .nil => .nil
  | _, _, .cons _ t r => .cons (.str _ t) (me_carried r)
section
variable {prog : Program} {w : World} {A : Around} {E : Value → Shared → Prop} {s : Shared} {a b : Addr} {xs ys : List Value} {ns ms : List Str} {Q : Value → Shared → Prop}
theorem me_ne_strs (ha : s.heap.IsList a xs.toArray) (hb : s.heap.IsList b ys.toArray) (hi : StrsAre xs ns) (hj : StrsAre ys ms) (ok : ns.all PyData.strOk = true) (ok' : ms.all PyData.strOk = true) (hu : A.units + 64 < cLine) {c : Bool} (hc : (!decide (ns = ms)) = c) (h : Q (.bool c) s) :
    wpAny (model prog w) A (compareOp .NotEq (.ref a) (.ref b)) Q E s :=
  ne_dataH_same (reads_newData ha (me_carried hi)) (reads_newData hb (me_carried hj)) (me_shaped _ ok) (me_shaped _ ok') hu (SeqAt.noMix_of_shape (.list .str) rfl _ _ (list_map_has fun _ => rfl) (list_map_has fun _ => rfl)) (by rw [me_same, hc]; exact h)
end
end Mine
end
section
open PySem PySem.W PySem.Spec PySem.Calls PyProof.Rows
namespace Mine
section
variable {prog : Program} {w : World} {A : Around} {E : Value → Shared → Prop} {s : Shared} {env : Env} {h₀ : Heap} {target : PySem.Expr} {body : List Stmt} {Q : Flow → Shared → Prop}
theorem itemsInvG {ws : List (Addr × String)} {keep : Led} (J : List Itm → (Str → Option Value) → Led → Prop)
    (turn : ∀ a r m news, J (a :: r) m news → ∀ v h tk, a.Is v h → Fr h₀ env.locals h m → AllObj ws (fun its => News h₀ env.locals h (its ++ news) →
      wpAny (model prog w) A (assign target env v) (fun _ s₂ => wpAny (model prog w) A (execs body env) (UnrPostW h₀ env.locals { s with heap := h, toks := tk } its (fun m' n' => SubL keep n' ∧ J r m' n') Q) E s₂) E { s with heap := h, toks := tk }))
    (done : ∀ m news, J [] m news → ∀ h tk, Fr h₀ env.locals h m → News h₀ env.locals h news → Q .next { s with heap := h, toks := tk }) :
    ∀ xs m news, J xs m news → ItemsRest prog w A E h₀ env target body Q s ws keep xs m news
  | [], m, news, hj => fun h tk F N => done m news hj h tk F N
  | a :: r, m, news, hj => by
    intro u h tk e F
    refine allObj_mono (turn a r m news hj u h tk e F) fun its hits hk N => ?_
    refine wpAny_mono (hk N) (fun _ s₂ h₂ => wpAny_mono h₂ (fun f s₃ h₃ => unrPostW_mono h₃ fun m' n' hr => ⟨hr.1, itemsInvG J turn done r m' n' hr.2⟩) fun _ _ x => x) fun _ _ x => x
def TurnEndL (h₀ : Heap) (L : Addr) (s : Shared) (I : Addr) (J : (Str → Option Value) → Led → Prop) (Q : Flow → Shared → Prop) (it : Obj) (f : Flow) (s₂ : Shared) : Prop :=
  match f with
  | .ret v => Q (.ret v) s₂
  | .brk => Q .next s₂
  | _ => ∃ h' tk m' news', s₂ = { s with heap := h', toks := tk } ∧ Fr h₀ L h' m' ∧ News h₀ L h' ((I, it) :: news') ∧ (∀ p ∈ news', p.1 ≠ I) ∧ J m' news'
abbrev rangeItms (a : Int) (n : Nat) : List Itm := (List.range n).map fun (i : Nat) => Itm.tok (fun t => Value.int (a + (i : Int)) t)
theorem itemsRangeInv {I : Addr} {cls : String} {a : Int} {n : Nat} (J : Nat → (Str → Option Value) → Led → Prop)
    (turn : ∀ i m news h tk t it, i < n → it.cls = .type cls → J i m news → (∀ p ∈ news, p.1 ≠ I) → Fr h₀ env.locals h m → News h₀ env.locals h ((I, it) :: news) →
      wpAny (model prog w) A (assign target env (.int (a + (i : Int)) t)) (fun _ s₂ => wpAny (model prog w) A (execs body env) (TurnEndL h₀ env.locals s I (J (i + 1)) Q it) E s₂) E { s with heap := h, toks := tk })
    (done : ∀ m news h tk, J n m news → Fr h₀ env.locals h m → News h₀ env.locals h news → Q .next { s with heap := h, toks := tk })
    {m : Str → Option Value} {news : Led} (ne : ∀ p ∈ news, p.1 ≠ I) (hj : J 0 m news) : ItemsRest prog w A E h₀ env target body Q s [(I, cls)] [] (rangeItms a n) m news := by
  refine itemsInvG (fun xs m nw => ∃ i, xs = (rangeItms a n).drop i ∧ i ≤ n ∧ (∀ p ∈ nw, p.1 ≠ I) ∧ J i m nw) ?_ ?_ _ m news ⟨0, rfl, Nat.zero_le _, ne, hj⟩
  · rintro x r m nw ⟨i, hxs, hi, ne, hj⟩ v h tk hv F
    have hlt : i < n := by
      rcases Nat.lt_or_ge i n with h | h
      · exact h
      · rw [List.drop_eq_nil_of_le (by simpa [rangeItms] using h)] at hxs; cases hxs
    have hlen : i < (rangeItms a n).length := by simpa [rangeItms] using hlt
    rw [List.drop_eq_getElem_cons hlen] at hxs
    injection hxs with hx hr
    have hx' : x = Itm.tok (fun t => .int (a + (i : Int)) t) := by rw [hx]; simp [rangeItms]
    subst hx' hr
    obtain ⟨t, rfl⟩ := hv
    refine AllObj.cons fun o ho => AllObj.nil fun N => ?_
    refine wpAny_mono (turn i m nw h tk t o hlt ho hj ne F N) (fun _ s₂ h₂ => wpAny_mono h₂ (fun f s₃ h₃ => ?_) fun _ _ x => x) fun _ _ x => x
    have fin : ∀ {s₃}, (∃ h' tk' m' nw', s₃ = { s with heap := h', toks := tk' } ∧ Fr h₀ env.locals h' m' ∧ News h₀ env.locals h' ((I, o) :: nw') ∧ (∀ p ∈ nw', p.1 ≠ I) ∧ J (i + 1) m' nw') → UnrEndW h₀ env.locals { s with heap := h, toks := tk } [(I, o)] (fun m' n' => SubL [] n' ∧ ∃ j, (rangeItms a n).drop (i + 1) = (rangeItms a n).drop j ∧ j ≤ n ∧ (∀ p ∈ n', p.1 ≠ I) ∧ J j m' n') s₃ := by
      rintro _ ⟨h', tk', m', nw', rfl, F', N', hne, hj'⟩
      exact ⟨h', tk', m', nw', rfl, F', N', fun p hp q hq => by rw [List.mem_singleton.mp hq]; exact hne p hp, trivial, i + 1, rfl, hlt, hne, hj'⟩
    cases f with
    | ret v => exact h₃
    | brk => exact h₃
    | next => exact fin h₃
    | cont => exact fin h₃
  · rintro m nw ⟨i, hxs, hi, _, hj⟩ h tk F N
    have : i = n := by
      rcases Nat.lt_or_ge i n with h | h
      · have hlen : i < (rangeItms a n).length := by simpa [rangeItms] using h
        rw [List.drop_eq_getElem_cons hlen] at hxs; cases hxs
      · omega
    subst this
    exact done m nw h tk hj F N
theorem itemsRangeFix {I : Addr} {cls : String} {a : Int} {n : Nat} {news : Led} (lt : ∀ p ∈ news, p.1 < I) (J : Nat → (Str → Option Value) → Prop)
    (turn : ∀ i m h tk t it, i < n → it.cls = .type cls → J i m → Fr h₀ env.locals h m → News h₀ env.locals h ((I, it) :: news) →
      wpAny (model prog w) A (assign target env (.int (a + (i : Int)) t)) (fun _ s₂ => wpAny (model prog w) A (execs body env) (TurnEnd h₀ env.locals s I news (J (i + 1)) Q it) E s₂) E { s with heap := h, toks := tk })
    (done : ∀ m h tk, J n m → Fr h₀ env.locals h m → News h₀ env.locals h news → Q .next { s with heap := h, toks := tk })
    {m : Str → Option Value} (hj : J 0 m) : ItemsRest prog w A E h₀ env target body Q s [(I, cls)] [] (rangeItms a n) m news := by
  refine itemsRangeInv (fun i m nw => nw = news ∧ J i m) ?_ ?_ (fun p hp => Nat.ne_of_lt (lt p hp)) ⟨rfl, hj⟩
  · rintro i m nw h tk t it hi hit ⟨rfl, hj⟩ _ F N
    refine wpAny_mono (turn i m h tk t it hi hit hj F N) (fun _ s₂ h₂ => wpAny_mono h₂ (fun f s₃ h₃ => ?_) fun _ _ x => x) fun _ _ x => x
    cases f with
    | ret v => exact h₃
    | brk => exact h₃
    | next => obtain ⟨h', tk', m', e, F', N', hj'⟩ := h₃; exact ⟨h', tk', m', nw, e, F', N', fun p hp => Nat.ne_of_lt (lt p hp), rfl, hj'⟩
    | cont => obtain ⟨h', tk', m', e, F', N', hj'⟩ := h₃; exact ⟨h', tk', m', nw, e, F', N', fun p hp => Nat.ne_of_lt (lt p hp), rfl, hj'⟩
  · rintro m nw h tk ⟨rfl, hj⟩ F N
    exact done m h tk hj F N
theorem itemsFixL {I : Addr} {cls : String} {keep news : Led} (lt : ∀ p ∈ news, p.1 < I) (hk : SubL keep news) (K : Led → List Value → (Str → Option Value) → Prop)
    (turn : ∀ v r m h tk it, it.cls = .type cls → K news (v :: r) m → Fr h₀ env.locals h m → News h₀ env.locals h ((I, it) :: news) →
      wpAny (model prog w) A (assign target env v) (fun _ s₂ => wpAny (model prog w) A (execs body env) (TurnEnd h₀ env.locals s I news (K news r) Q it) E s₂) E { s with heap := h, toks := tk })
    (done : ∀ m h tk, K news [] m → Fr h₀ env.locals h m → News h₀ env.locals h news → Q .next { s with heap := h, toks := tk })
    {vs : List Value} {m : Str → Option Value} (hj : K news vs m) : ItemsRest prog w A E h₀ env target body Q s [(I, cls)] keep (vs.map Itm.val) m news :=
  itemsFix lt hk (K news) turn done hj
theorem iter_rangeTurns {r : Addr} {a b : Int} {t u v : Tok} {n : Nat} {x : Str} {px : Pos} {m₀ : Str → Option Value} {news : Led}
    (hh : A.handled = none) (F : Fr h₀ env.locals s.heap m₀) (N : News h₀ env.locals s.heap news) (hr : IsRange s.heap r a b 1 t u v) (hsm : Builtin.Range.small a b 1 = true) (hn : Builtin.Range.rangeSize a b 1 = ((n : Nat) : Int))
    (rest₀ : ∀ I : Addr, (∀ p ∈ news, p.1 < I) → ItemsRest prog w A E h₀ env (.Name x px) body Q s [(I, "range_iterator")] [] (rangeItms a n) m₀ news) :
    wpAny (model prog w) A (pyIter (.ref r)) (fun it s₂ => TurnsAt prog w A h₀ env (.Name x px) body Q E it s₂) E s := by
  refine wpAny_pyIter_range hr hsm ?_
  refine ktu_core (tk0 := s.toks) (keep := []) (KTurns.ofWalks (LCg.range_walks hh a n).bound fun i v s Q E st q => wpAny_pure q) (by simp [rangeItms]) (fun i v h hp => ?_) (fun i h st => ?_) (fun b hb => ?_) (fun b hb => by simpa using hb) (fun b hb => .inl (by simpa using hb)) ?_ (fun p hp hI => ?_) ?_ (F.push _) (fun p hp => ⟨Heap.get?_push_of_some _ (N p hp).1, (N p hp).2⟩) trivial (rest₀ _ fun p hp => Heap.lt_size (N p hp).1)
  · obtain ⟨hi, t, rfl⟩ := hp
    exact ⟨Itm.tok (fun t => Value.int (a + (i : Int)) t), by simp [rangeItms, hi], t, rfl⟩
  · exact ⟨[(s.heap.objs.size, _)], ⟨⟨rfl, rfl⟩, trivial⟩, fun p hp => by rw [List.mem_singleton.mp hp]; exact st⟩
  · have hb' : b = s.heap.objs.size := by simpa using hb
    rw [hb']
    exact ⟨List.mem_cons_self .., next_is_new F⟩
  · intro hI
    exact absurd F.ns.lt ((List.mem_singleton.mp hI) ▸ Nat.lt_irrefl _)
  · exact absurd (Heap.lt_size (N p hp).1) ((List.mem_singleton.mp hI) ▸ Nat.lt_irrefl _)
  · show IsRangeIter _ _ _ _ _
    rw [hn]; simpa using Heap.get?_push_size _ rfl
end
theorem subL1 {p : Addr × Obj} {news : Led} (h : p ∈ news) : SubL [p] news := ⟨h, trivial⟩
section
variable {prog : Program} {w : World} {A : Around} {E : Value → Shared → Prop} {s : Shared}
theorem len_listE {a : Addr} {its : Array Value} {n : Nat} {Q : Value → Shared → Prop} (hl : s.heap.IsList a its) (e : its.size = n) (hn : n ≤ 100000) (h : ∀ t k, Q (.int (n : Int) t) { s with toks := k }) : wpAny (model prog w) A (call (.builtin "len") [.ref a]) Q E s := by
  subst e
  exact len_list hl (by omega) (h _ _)
end
section
variable {prog : Program} {w : World} {A : Around} {E : Value → Shared → Prop} {s : Shared} {h₀ : Heap} {L : Addr} {m : Str → Option Value} {news : Led}
theorem add_listsE {l b : Addr} {vs ws : List Value} {Q : Value → Shared → Prop} (F : Fr h₀ L s.heap m) (N : News h₀ L s.heap news) (hl : s.heap.IsList l vs.toArray) (hb : s.heap.IsList b ws.toArray)
    (hsz : vs.length + ws.length ≤ sizeLine)
    (h : ∀ D h', (∀ p ∈ news, p.1 < D) → Fr h₀ L h' m → News h₀ L h' ((D, W.listOf (vs ++ ws).toArray 0) :: news) → Q (.ref D) { s with heap := h' }) :
    wpAny (model prog w) A (binaryOp .Add (.ref l) (.ref b)) Q E s :=
  add_lists (hsz := hsz) F N hl hb fun h' F' N' => h _ h' (fun p hp => Heap.lt_size (N p hp).1) F' N'
end
section
variable {prog : Program} {w : World} {A : Around} {E : Value → Shared → Prop} {s : Shared} {Q : Value → Shared → Prop}
theorem pow_any {a n : Int} {t u : Tok} (hn : 0 ≤ n) (hn2 : n ≤ 1000000) (ha : a.natAbs < 2 ^ 64) (h : ∀ v t k, Q (.int v t) { s with toks := k }) : wpAny (model prog w) A (binaryOp .Pow (.int a t) (.int n u)) Q E s :=
  pow_int_small hn hn2 ha (h _ _ _)
theorem mod_any {a b : Int} {t u : Tok} (hb : 0 < b) (h : ∀ v t k, 0 ≤ v → v < b → Q (.int v t) { s with toks := k }) : wpAny (model prog w) A (binaryOp .Mod (.int a t) (.int b u)) Q E s := by
  refine mod_int (by omega) (h _ _ _ ?_ ?_)
  · rw [Int.fmod_eq_emod_of_nonneg _ (Int.le_of_lt hb)]; exact Int.emod_nonneg _ (by omega)
  · rw [Int.fmod_eq_emod_of_nonneg _ (Int.le_of_lt hb)]; exact Int.emod_lt_of_pos _ hb
theorem mul_any {a b : Int} {t u : Tok} (a0 : 0 ≤ a) (a1 : a ≤ 1099511627776) (b0 : 0 ≤ b) (b1 : b ≤ 65536) (h : ∀ v t k, 0 ≤ v → v ≤ 72057594037927936 → Q (.int v t) { s with toks := k }) : wpAny (model prog w) A (binaryOp .Mult (.int a t) (.int b u)) Q E s := by
  have h1 : 0 ≤ a * b := Int.mul_nonneg a0 b0
  have h2 : a * b ≤ 1099511627776 * 65536 := Int.le_trans (Int.mul_le_mul_of_nonneg_right a1 b0) (Int.mul_le_mul_of_nonneg_left b1 (by decide))
  exact mul_int (h _ _ _ h1 h2) (IntMulOk.of_left (intBits_le (by omega)))
end
theorem ne_intsC {prog : Program} {w : World} {A : Around} {E : Value → Shared → Prop} {s : Shared} {a b : Addr} {xs ys : List Value} {ns ms : List Int} {Q : Value → Shared → Prop} {c : Bool} (ha : s.heap.IsList a xs.toArray) (hb : s.heap.IsList b ys.toArray) (hi : IntsAre xs ns) (hj : IntsAre ys ms) (hu : A.units + 64 < cLine) (hc : (!decide (ns = ms)) = c) (h : Q (.bool c) s) :
    wpAny (model prog w) A (compareOp .NotEq (.ref a) (.ref b)) Q E s := ke_ne_ints ha hb hi hj hu (by rw [hc]; exact h)
theorem great_nonneg {c : Int} (h : (10 : Int) ^ Int.toNat 18 ≤ if c < 0 then -c else c) : 0 ≤ 2 * ((if c < 0 then -c else c) - (10 : Int) ^ Int.toNat 18) + (if decide (c < 0) = true then 1 else 0) := by
  generalize (10 : Int) ^ Int.toNat 18 = T at *
  generalize (if c < 0 then -c else c) = a at *
  by_cases hc : decide (c < 0) = true
  · rw [if_pos hc]; omega
  · rw [if_neg hc]; omega
theorem fdiv_nonneg {n k : Int} (h : 0 ≤ n) (hk : 0 < k) : 0 ≤ n.fdiv k := (fdm_bd hk h (Int.le_refl n)).1
theorem news_pull1 {h₀ h : Heap} {L : Addr} {a0 p : Addr × Obj} {r : Led} (N : News h₀ L h (a0 :: p :: r)) : News h₀ L h (p :: a0 :: r) := fun q hq => N q (by simp only [List.mem_cons] at hq ⊢; grind)
theorem news_pull2 {h₀ h : Heap} {L : Addr} {a0 a1 p : Addr × Obj} {r : Led} (N : News h₀ L h (a0 :: a1 :: p :: r)) : News h₀ L h (p :: a0 :: a1 :: r) := fun q hq => N q (by simp only [List.mem_cons] at hq ⊢; grind)
theorem news_pull3 {h₀ h : Heap} {L : Addr} {a0 a1 a2 p : Addr × Obj} {r : Led} (N : News h₀ L h (a0 :: a1 :: a2 :: p :: r)) : News h₀ L h (p :: a0 :: a1 :: a2 :: r) := fun q hq => N q (by simp only [List.mem_cons] at hq ⊢; grind)
theorem news_pull4 {h₀ h : Heap} {L : Addr} {a0 a1 a2 a3 p : Addr × Obj} {r : Led} (N : News h₀ L h (a0 :: a1 :: a2 :: a3 :: p :: r)) : News h₀ L h (p :: a0 :: a1 :: a2 :: a3 :: r) := fun q hq => N q (by simp only [List.mem_cons] at hq ⊢; grind)
theorem news_pull5 {h₀ h : Heap} {L : Addr} {a0 a1 a2 a3 a4 p : Addr × Obj} {r : Led} (N : News h₀ L h (a0 :: a1 :: a2 :: a3 :: a4 :: p :: r)) : News h₀ L h (p :: a0 :: a1 :: a2 :: a3 :: a4 :: r) := fun q hq => N q (by simp only [List.mem_cons] at hq ⊢; grind)
theorem news_pull6 {h₀ h : Heap} {L : Addr} {a0 a1 a2 a3 a4 a5 p : Addr × Obj} {r : Led} (N : News h₀ L h (a0 :: a1 :: a2 :: a3 :: a4 :: a5 :: p :: r)) : News h₀ L h (p :: a0 :: a1 :: a2 :: a3 :: a4 :: a5 :: r) := fun q hq => N q (by simp only [List.mem_cons] at hq ⊢; grind)
theorem strs3 {a b c : Str} {t u v : Tok} : StrsAre [.str a t, .str b u, .str c v] [a, b, c] := .cons _ _ (.cons _ _ (.cons _ _ .nil))
theorem strs6 {a b c d e f : Str} {t1 t2 t3 t4 t5 t6 : Tok} : StrsAre [.str a t1, .str b t2, .str c t3, .str d t4, .str e t5, .str f t6] [a, b, c, d, e, f] := .cons _ _ (.cons _ _ (.cons _ _ (.cons _ _ (.cons _ _ (.cons _ _ .nil)))))
def Hold (P : Prop) : Prop := P
theorem Hold.out {P : Prop} (h : Hold P) : P := h
theorem Hold.put {P : Prop} (h : P) : Hold P := h
/-! the law's data: a list of ranges -/
structure Rng where
  first : Int
  sty : Str
  pre : Str
  start : Int
def Sub (a b : Led) : Prop := ∀ p ∈ a, p ∈ b
abbrev rngObj (x : Rng) (n : Nat) (t1 t2 t3 t4 : Tok) : Obj := { cls := .type "tuple", data := .seq #[.int x.first t1, .str x.sty t2, .str x.pre t3, .int x.start t4] n }
def RngV (led : Led) (v : Value) (x : Rng) : Prop := ∃ a n t1 t2 t3 t4, v = .ref a ∧ (a, rngObj x n t1 t2 t3 t4) ∈ led
inductive RngL (led : Led) : List Value → List Rng → Prop
  | nil : RngL led [] []
  | cons {v x vs xs} : RngV led v x → RngL led vs xs → RngL led (v :: vs) (x :: xs)
def RngIn (led : Led) (l : Addr) (xs : List Rng) : Prop := ∃ vs n, (l, W.listOf (List.toArray vs) n) ∈ led ∧ RngL led vs xs
theorem RngV.mono {a b : Led} {v : Value} {x : Rng} (h : RngV a v x) (s : Sub a b) : RngV b v x := by
  obtain ⟨ad, n, t1, t2, t3, t4, e, m⟩ := h
  exact ⟨ad, n, t1, t2, t3, t4, e, s _ m⟩
theorem RngL.mono {a b : Led} (s : Sub a b) : ∀ {vs xs}, RngL a vs xs → RngL b vs xs
  | _, _, .nil => .nil
  | _, _, .cons h r => .cons (h.mono s) (r.mono s)
theorem RngIn.mono {a b : Led} {l : Addr} {xs : List Rng} (h : RngIn a l xs) (s : Sub a b) : RngIn b l xs := by
  obtain ⟨vs, n, m, r⟩ := h
  exact ⟨vs, n, s _ m, r.mono s⟩
theorem RngL.length {led : Led} : ∀ {vs xs}, RngL led vs xs → vs.length = xs.length
  | _, _, .nil => rfl
  | _, _, .cons _ r => by simp [r.length]
theorem RngL.at {led : Led} : ∀ {vs xs} (i : Nat) {x : Rng}, RngL led vs xs → xs[i]? = some x → ∃ v, vs[i]? = some v ∧ RngV led v x
  | _, _, 0, _, .cons h _, e => by
    simp only [List.getElem?_cons_zero, Option.some.injEq] at e
    subst e
    exact ⟨_, rfl, h⟩
  | _, _, i + 1, _, .cons _ r, e => by
    simp only [List.getElem?_cons_succ] at e ⊢
    exact r.at i e
theorem RngL.append {led : Led} {vs xs} : RngL led vs xs → ∀ {us ys}, RngL led us ys → RngL led (vs ++ us) (xs ++ ys)
  | .nil, _, _, h => h
  | .cons h r, _, _, h' => .cons h (r.append h')
theorem intsAre_append : ∀ {vs : List Value} {xs : List Int} {ws : List Value} {ys : List Int}, IntsAre vs xs → IntsAre ws ys → IntsAre (vs ++ ws) (xs ++ ys)
  | _, _, _, _, .nil, h => h
  | _, _, _, _, .cons n t r, h => .cons n t (intsAre_append r h)
theorem rngV_of {led : Led} {a : Addr} {f st : Int} {sy pr : Str} {n : Nat} {t1 t2 t3 t4 : Tok} (m : (a, ({ cls := .type "tuple", data := .seq #[.int f t1, .str sy t2, .str pr t3, .int st t4] n } : Obj)) ∈ led) : RngV led (.ref a) ⟨f, sy, pr, st⟩ := ⟨_, _, _, _, _, _, rfl, m⟩
end Mine
end
section
open PySem PySem.W PySem.Spec PySem.Calls PyProof.Rows
namespace Mine
local macro_rules | `(tactic| walk_at $s:str) => `(tactic| k_extra $s)
section
theorem fdiv_bd {n k b : Int} (hk : 0 < k) (h0 : 0 ≤ n) (h1 : n ≤ b) : 0 ≤ n.fdiv k ∧ n.fdiv k ≤ b := by
  rw [Int.fdiv_eq_ediv_of_nonneg _ (Int.le_of_lt hk)]
  exact ⟨Int.ediv_nonneg h0 (Int.le_of_lt hk), Int.le_trans (Int.ediv_le_self _ h0) h1⟩
@[irreducible] def lettersS (n : Int) : Str := Txt.mul (Txt.item (Str.ofString "ABCDEFGHIJKLMNOPQRSTUVWXYZ") ((n - 1).fmod 26)) ((n - 1).fdiv 26 + 1)
theorem lettersS_len {n : Int} (h0 : 1 ≤ n) (h1 : n ≤ 1000) : (lettersS n).length ≤ 1001 := by
  have hb := fdiv_bd (n := n - 1) (k := 26) (b := 1000) (by decide) (by omega) (by omega)
  unfold lettersS
  have e := len_mul (Txt.item (Str.ofString "ABCDEFGHIJKLMNOPQRSTUVWXYZ") ((n - 1).fmod 26)) ((n - 1).fdiv 26 + 1)
  rw [if_neg (fun c => absurd (of_decide_eq_true c) (by omega))] at e
  have e2 : (Txt.item (Str.ofString "ABCDEFGHIJKLMNOPQRSTUVWXYZ") ((n - 1).fmod 26)).length = 1 := rfl
  rw [e2] at e
  omega
set_option maxHeartbeats 4000000 in
theorem letters_spec (prog : Program) (w : World) (news : Led) (n : Int) (t : Tok) (h1 : 1 ≤ n) (h2 : n ≤ 1000) :
    Spec prog w 49 1 [.int n t] news (fun r news' => news' = news ∧ ∃ t', r = .str (lettersS n) t') := by
  intro loose mean mg mb dp un gd cn cs a ccd cl outer A₀ base h₀ L m s Q E B F X N T hk hd hu hret
  have hb := fdiv_bd (n := n - 1) (k := 26) (b := 1000) (by decide) (by omega) (by omega)
  refine wpAny_call ?_
  k_dflt cell_enter
  k_steps
  all_goals (exact hret _ _ _ _ (by k_asm) (by k_asm) ⟨rfl, _, by unfold lettersS; rfl⟩)
end
section
theorem words_L2 : True := by
  k_with "ItemsRest" => (k_dflt (k_extra "items"))
  trivial
def romanTab : List (Int × Str) := [(1000, Str.ofString "M"), (900, Str.ofString "CM"), (500, Str.ofString "D"), (400, Str.ofString "CD"), (100, Str.ofString "C"), (90, Str.ofString "XC"), (50, Str.ofString "L"), (40, Str.ofString "XL"), (10, Str.ofString "X"), (9, Str.ofString "IX"), (5, Str.ofString "V"), (4, Str.ofString "IV"), (1, Str.ofString "I")]
def romGo : List (Int × Str) → Str → Int → Str
  | [], X, _ => X
  | (W, S) :: r, X, k => romGo r (X ++ Txt.mul S (k.fdiv W)) (k.fmod W)
@[irreducible] def romanS (n : Int) : Str := romGo romanTab (Str.ofString "") n
def RomV (w : World) (v : Value) (p : Int × Str) : Prop := ∃ a o nn t1 t2, v = .ref a ∧ (hd.heap_39 w.params).lookup a = some o ∧ o.cls = .type "tuple" ∧ o.data = .seq #[.int p.1 t1, .str p.2 t2] nn ∧ 0 < p.1 ∧ p.1 ≤ 1000 ∧ 1 ≤ p.2.length ∧ p.2.length ≤ 2
inductive RomL (w : World) : List Value → List (Int × Str) → Prop
  | nil : RomL w [] []
  | cons {v p r ps} : RomV w v p → RomL w r ps → RomL w (v :: r) (p :: ps)
theorem romL (w : World) : RomL w [.ref 15, .ref 16, .ref 17, .ref 18, .ref 19, .ref 20, .ref 21, .ref 22, .ref 23, .ref 24, .ref 25, .ref 26, .ref 27] romanTab := by
  unfold romanTab
  repeat' (first | exact RomL.nil | (refine RomL.cons ⟨_, _, _, _, _, rfl, rfl, rfl, rfl, by decide, by decide, by decide, by decide⟩ ?_))
theorem isTup_of_K {K : Frag} {g h : Heap} {L a : Addr} {m : Str → Option Value} {o : Obj} {items : Array Value} {n : Nat} (X : K.In g) (F : Fr g L h m) (lk : K.lookup a = some o) (hc : o.cls = .type "tuple") (hd : o.data = .seq items n) : IsTup h a items :=
  ⟨o, F.keep _ _ (X _ _ lk), hc, n, hd⟩
theorem mul_len {S : Str} {q b : Int} (h0 : 0 ≤ q) (h1 : q ≤ b) (h2 : S.length ≤ 2) : ((Txt.mul S q).length : Int) ≤ 2 * b := by
  have e := len_mul S q
  rw [if_neg (fun c => absurd (of_decide_eq_true c) (by omega))] at e
  rw [e]
  calc (S.length : Int) * q ≤ 2 * q := Int.mul_le_mul_of_nonneg_right (by omega) h0
    _ ≤ 2 * b := by omega
theorem romGo_len (b : Int) : ∀ (ps : List (Int × Str)) (X : Str) (k : Int), (∀ p ∈ ps, 0 < p.1 ∧ p.2.length ≤ 2) → 0 ≤ k → k ≤ b → ((romGo ps X k).length : Int) ≤ X.length + 2 * b * ps.length
  | [], X, k, _, _, _ => by simp [romGo]
  | (W, S) :: r, X, k, hp, h0, h1 => by
    have hm := fdm_bd (hp (W, S) (.head _)).1 h0 h1
    have hl := mul_len hm.1 hm.2.1 (hp (W, S) (.head _)).2
    dsimp only at hm hl
    have := romGo_len b r (X ++ Txt.mul S (k.fdiv W)) (k.fmod W) (fun p h => hp p (.tail _ h)) hm.2.2.1 hm.2.2.2
    rw [Str.length_append] at this
    show ((romGo r (X ++ Txt.mul S (k.fdiv W)) (k.fmod W)).length : Int) ≤ X.length + 2 * b * ((r.length + 1 : Nat) : Int)
    rw [Int.natCast_add, Int.mul_add]
    simp only [Int.natCast_add] at this
    omega
theorem romanS_len {n : Int} (h0 : 0 ≤ n) (h1 : n ≤ 1000) : (romanS n).length ≤ 26000 := by
  have := romGo_len 1000 romanTab (Str.ofString "") n (by decide) h0 h1
  have e : romanTab.length = 13 := rfl
  rw [e] at this
  have e2 : (Str.ofString "").length = 0 := rfl
  rw [e2] at this
  unfold romanS
  omega
set_option maxHeartbeats 4000000 in
theorem roman_spec (prog : Program) (w : World) (news : Led) (n : Int) (t : Tok) (h1 : 0 ≤ n) (h2 : n ≤ 300000) :
    Spec prog w 35 1 [.int n t] news (fun r news' => news' = news ∧ ∃ t', r = .str (romanS n) t') := by
  intro loose mean mg mb dp un gd cn cs a ccd cl outer A₀ base h₀ L m s Q E B F X N T hk hd hu hret
  refine wpAny_call ?_
  k_dflt cell_enter
  k_with "items" => (
    refine itemsFix (by assumption) (by trivial) (fun r mm => ∃ ps X k t1 t2, RomL w r ps ∧ mm (Str.ofString "found") = some (.str X t1) ∧ mm (Str.ofString "left") = some (.int k t2) ∧ 0 ≤ k ∧ k ≤ 300000 ∧ X.length + 700000 * ps.length ≤ 9100000 ∧ romGo ps X k = romanS n) (fun v r mm h tk it hit hJ F1 N1 => ?turn) (fun mm h tk hJ F1 N1 => ?done) ⟨romanTab, _, _, _, _, romL w, rfl, rfl, h1, h2, by decide, by unfold romanS; rfl⟩)
  k_steps
  case done =>
    obtain ⟨ps, X, k, t1, t2, hL, e1, e2, k0, k1, hX, hgo⟩ := hJ
    cases hL
    have F2 := Fr.named2 F1 e2 e1
    clear F1
    k_steps
    exact hret _ _ _ _ (by k_asm) (by k_asm) ⟨rfl, _, by rw [← hgo]; rfl⟩
  case turn =>
    obtain ⟨ps, X, k, t1, t2, hL, e1, e2, k0, k1, hX, hgo⟩ := hJ
    cases hL with | @cons _ p _ ps hv hL =>
    obtain ⟨W, S⟩ := p
    obtain ⟨a, o, nn, t3, t4, rfl, lk, hc, hd, p0, p1, s0, s1⟩ := hv
    have hT := isTup_of_K (by assumption) F1 lk hc hd
    have F2 := Fr.named2 F1 e2 e1
    clear F1
    have hm := fdm_bd p0 k0 k1
    have hml := mul_len hm.1 hm.2.1 s1
    dsimp only at hT hm hml
    simp only [List.length_cons] at hX p0 p1 s0 s1
    k_steps
    exact ⟨_, _, _, rfl, by k_asm, by k_asm, ps, _, _, _, _, hL, rfl, rfl, hm.2.2.1, hm.2.2.2, by simp only [Str.length_append]; omega, hgo⟩
end
section
open Builtin Builtin.Str Builtin.Int Builtin.Float
theorem words_L3 : True := by
  k_with "exec While" => (k_dflt (k_extra "while"))
  k_with "call ref" => ((k_here; (with_reducible show wpAny _ _ (call (Value.ref 35) [Value.int _ _]) _ _ _); k_dflt (refine' Spec.useE (roman_spec _ _ _ _ _ ?h1 ?h2) ?k1 ?k2 ?k3 ?k4 ?k5 ?kK ?kd ?ku ?_; (case h1 => omega); (case h2 => omega); (case k1 => k_asm); (case k2 => k_asm); (case k3 => k_asm); (case k4 => k_asm); (case k5 => k_asm); (case kK => first | exact rfl | assumption); (case kd => ktr_room); (case ku => ktr_units)); intro h9z tk9z F9z; refine ret1 (fun t9z N9z => ?_); (try dsimp only); (try k_fold)))
  trivial
theorem sliceIdx_bd (a : Int) (u : Option Int) (n : Nat) (h0 : 0 ≤ a) (h1 : a ≤ n) : ((strSliceIndices (some a) u 1 n).length : Int) + a ≤ n := by
  unfold strSliceIndices sliceRange
  cases u <;> simp only [show (1 : Int) > 0 by decide, if_true, List.length_map, List.length_range] <;> (split <;> (try split) <;> (try split) <;> (try simp only [Int.ediv_one]) <;> omega)
theorem slice_bd (x : Str) (a : Int) (u : Option Int) (h0 : 0 ≤ a) (h1 : a ≤ x.length) : ((Txt.slice x (some a) u).length : Int) + a ≤ x.length := by
  have hb := sliceIdx_bd a u x.length h0 h1
  unfold Txt.slice
  split
  · rename_i h
    simp only [Bool.and_eq_true, beq_iff_eq] at h
    omega
  · show ((List.filterMap _ (strSliceIndices (some a) u 1 x.length)).toArray.size : Int) + a ≤ x.length
    rw [List.size_toArray]
    have := List.length_filterMap_le (fun i => x.cps[i]?) (strSliceIndices (some a) u 1 x.length)
    omega
theorem whlIf_cases {b : Bool} {T F : Prop} (yes : b = true → T) (no : b = false → F) : WhlIf b T F := by
  cases b with
  | true => exact WhlIf.yes rfl (yes rfl)
  | false => exact WhlIf.no rfl (no rfl)
/-- one sign of read_roman's inner while -/
def rrWhile (x S : Str) (W : Int) : Nat → Int → Int → Int × Int
  | 0, T, a => (T, a)
  | n + 1, T, a => if (Txt.slice x (some a) (some (a + S.length)) == S) = true then rrWhile x S W n (T + W) (a + S.length) else (T, a)
def rrGo (x : Str) : List (Int × Str) → Int → Int → Int
  | [], T, _ => T
  | (W, S) :: r, T, a => rrGo x r (rrWhile x S W (x.length + 1) T a).1 (rrWhile x S W (x.length + 1) T a).2
def rrTotal (x : Str) : Int := rrGo x romanTab 0 0
@[irreducible] def readRomanS (x : Str) : Option Int := if 0 < rrTotal x ∧ romanS (rrTotal x) = x then some (rrTotal x) else none
set_option maxHeartbeats 4000000 in
theorem read_roman_spec (prog : Program) (w : World) (news : Led) (x : Str) (t : Tok) (hx : x.length ≤ 300) :
    Spec prog w 42 2 [.str x t] news (fun r news' => news' = news ∧ ((∃ n t', readRomanS x = some n ∧ r = .int n t') ∨ (readRomanS x = none ∧ r = .none))) := by
  intro loose mean mg mb dp un gd cn cs a ccd cl outer A₀ base h₀ L m s Q E B F X N T hk hd hu hret
  refine wpAny_call ?_
  k_dflt cell_enter
  k_with "items" => (
    refine itemsFix (by assumption) (by trivial) (fun r mm => ∃ ps T a t1 t2, RomL w r ps ∧ mm (Str.ofString "total") = some (.int T t1) ∧ mm (Str.ofString "at") = some (.int a t2) ∧ mm (Str.ofString "text") = some (.str x t) ∧ 0 ≤ a ∧ a ≤ x.length ∧ 0 ≤ T ∧ T ≤ 1000 * a ∧ rrGo x ps T a = rrTotal x) (fun v r mm h tk it hit hJ F1 N1 => ?turn) (fun mm h tk hJ F1 N1 => ?done) ⟨romanTab, _, _, _, _, romL w, rfl, rfl, rfl, by omega, by omega, by omega, by omega, rfl⟩)
  k_steps
  case done =>
    obtain ⟨ps, T, a, t1, t2, hL, e1, e2, e3, a0, a1, T0, T1, hgo⟩ := hJ
    cases hL
    have hgo : T = rrTotal x := hgo
    have F2 := Fr.named3 F1 e2 e1 e3
    clear F1
    k_steps
    · refine hret _ _ _ _ (by k_asm) (by k_asm) ⟨rfl, .inl ⟨T, _, ?_, rfl⟩⟩
      have he := ‹(romanS T == x) = true›
      unfold readRomanS
      rw [← hgo, if_pos ⟨‹0 < T›, by simpa using he⟩]
    · refine hret _ _ _ _ (by k_asm) (by k_asm) ⟨rfl, .inr ⟨?_, rfl⟩⟩
      have he := ‹(romanS T == x) = false›
      unfold readRomanS
      rw [← hgo, if_neg (fun c => by rw [c.2] at he; simp at he)]
    · refine hret _ _ _ _ (by k_asm) (by k_asm) ⟨rfl, .inr ⟨?_, rfl⟩⟩
      unfold readRomanS
      rw [← hgo, if_neg (fun c => ‹¬ 0 < T› c.1)]
  case turn =>
    obtain ⟨ps, T, a, t1, t2, hL, e1, e2, e3, a0, a1, T0, T1, hgo⟩ := hJ
    cases hL with | @cons _ p _ ps hv hL =>
    obtain ⟨W, S⟩ := p
    obtain ⟨ad, o, nn, t3, t4, rfl, lk, hc, hd, p0, p1, s0, s1⟩ := hv
    have hT := isTup_of_K (by assumption) F1 lk hc hd
    have F2 := Fr.named3 F1 e2 e1 e3
    clear F1
    dsimp only at hT p0 p1 s0 s1
    have hgo : rrGo x ps (rrWhile x S W (x.length + 1) T a).1 (rrWhile x S W (x.length + 1) T a).2 = rrTotal x := hgo
    generalize hR : rrWhile x S W (x.length + 1) T a = R at hgo
    k_with "while" => (
      refine whileInv (x.length + 1) (by assumption) (by assumption) (fun n mm => ∃ T a t1 t2, mm (Str.ofString "total") = some (.int T t1) ∧ mm (Str.ofString "at") = some (.int a t2) ∧ mm (Str.ofString "text") = some (.str x t) ∧ mm (Str.ofString "worth") = some (.int W t3) ∧ mm (Str.ofString "signs") = some (.str S t4) ∧ 0 ≤ a ∧ a ≤ x.length ∧ 0 ≤ T ∧ T ≤ 1000 * a ∧ x.length < a + n ∧ rrWhile x S W n T a = R) (fun n mm h tk hJ F1 N1 => ?wturn) ⟨_, _, _, _, rfl, rfl, rfl, rfl, rfl, by omega, by omega, by omega, by omega, by omega, hR⟩)
    k_steps
    case wturn =>
      clear e1 e2 e3 a0 a1 T0 T1 hR
      obtain ⟨T, a, u1, u2, e1, e2, e3, e4, e5, a0, a1, T0, T1, hn, hR⟩ := hJ
      have F2 := Fr.named5 F1 e1 e2 e3 e4 e5
      clear F1
      obtain ⟨n, rfl⟩ : ∃ k, n = k + 1 := ⟨n - 1, by omega⟩
      have hsl := slice_bd x a (some (a + S.length)) a0 a1
      k_steps
      refine whlIf_cases (fun hb => ?_) (fun hb => ?_)
      · have hb' : Txt.slice x (some a) (some (a + S.length)) = S := by simpa using hb
        rw [hb'] at hsl
        k_steps
        refine ⟨_, _, _, rfl, by k_asm, by k_asm, n, rfl, _, _, _, _, rfl, rfl, rfl, rfl, rfl, by omega, by omega, by omega, by omega, by omega, ?_⟩
        rw [← hR, rrWhile, if_pos hb]
      · have hR' : (T, a) = R := by rw [← hR, rrWhile, if_neg (by rw [hb]; decide)]
        subst hR'
        k_steps
        exact ⟨_, _, _, rfl, by k_asm, by k_asm, ps, T, a, _, _, hL, rfl, rfl, rfl, a0, a1, T0, T1, hgo⟩
end
section
open Builtin Builtin.Str Builtin.Int Builtin.Float
theorem words_L4 : True := by
  k_with "mine_news" => ((refine news_sub (by k_asm) ?_; intro p hp; repeat (first | exact hp | refine List.mem_cons_of_mem _ ?_)))
  k_with "eval ListComp" => (k_dflt (refine ListComp_TS (by k_asm) (by with_unfolding_all rfl) (by decide) (by rfl) (by decide) (by rfl) ?_))
  k_with "SrcS" => ((k_dflt (refine SrcS.intro (by rfl) (by k_asm) (by k_asm) (by size_fits) ?_); intro g9))
  k_with "CompRestT" => (k_dflt (k_extra "compT"))
  trivial
@[irreducible] def readLettersS (x : Str) : Option Int :=
  if (x == Str.ofString "") = true ∨ Txt.contains (Str.ofString "ABCDEFGHIJKLMNOPQRSTUVWXYZ") (Txt.item x 0) = false ∨ (x != Txt.mul (Txt.item x 0) x.length) = true then none
  else some (Txt.find (Str.ofString "ABCDEFGHIJKLMNOPQRSTUVWXYZ") (Txt.item x 0) + 1 + 26 * (x.length - 1))
set_option maxHeartbeats 4000000 in
theorem read_letters_spec (prog : Program) (w : World) (news : Led) (x : Str) (t : Tok) (hx : x.length ≤ 300) :
    Spec prog w 56 1 [.str x t] news (fun r news' => news' = news ∧ ((∃ n t', readLettersS x = some n ∧ r = .int n t') ∨ (readLettersS x = none ∧ r = .none))) := by
  intro loose mean mg mb dp un gd cn cs a ccd cl outer A₀ base h₀ L m s Q E B F X N T hk hd hu hret
  refine wpAny_call ?_
  k_dflt cell_enter
  k_steps
  · refine hret _ _ _ _ (by k_asm) (by k_asm) ⟨rfl, .inr ⟨?_, rfl⟩⟩
    unfold readLettersS
    rw [if_pos (.inl (by assumption))]
  · refine hret _ _ _ _ (by k_asm) (by k_asm) ⟨rfl, .inr ⟨?_, rfl⟩⟩
    have he := ‹(Builtin.Str.occurrences (Str.ofString "ABCDEFGHIJKLMNOPQRSTUVWXYZ") (Txt.item x 0) 0 (Str.length (Str.ofString "ABCDEFGHIJKLMNOPQRSTUVWXYZ")) 1).isEmpty = true›
    unfold readLettersS Txt.contains
    rw [if_pos (.inr (.inl (by rw [he]; rfl)))]
  · refine hret _ _ _ _ (by k_asm) (by k_asm) ⟨rfl, .inr ⟨?_, rfl⟩⟩
    unfold readLettersS
    rw [if_pos (.inr (.inr (by assumption)))]
  · exfalso
    have he := ‹(Builtin.Str.occurrences (Str.ofString "ABCDEFGHIJKLMNOPQRSTUVWXYZ") (Txt.item x 0) 0 (Str.length (Str.ofString "ABCDEFGHIJKLMNOPQRSTUVWXYZ")) 1).isEmpty = true›
    have he' := ‹(Builtin.Str.occurrences (Str.ofString "ABCDEFGHIJKLMNOPQRSTUVWXYZ") (Txt.item x 0) 0 (Str.length (Str.ofString "ABCDEFGHIJKLMNOPQRSTUVWXYZ")) 1).isEmpty = false›
    rw [he] at he'; cases he'
  · refine hret _ _ _ _ (by k_asm) (by k_asm) ⟨rfl, .inl ⟨_, _, ?_, rfl⟩⟩
    have he' := ‹(Builtin.Str.occurrences (Str.ofString "ABCDEFGHIJKLMNOPQRSTUVWXYZ") (Txt.item x 0) 0 (Str.length (Str.ofString "ABCDEFGHIJKLMNOPQRSTUVWXYZ")) 1).isEmpty = false›
    have h1 := ‹(x == Str.ofString "") = false›
    have h3 := ‹(x != Txt.mul (Txt.item x 0) ↑x.length) = false›
    unfold readLettersS Txt.contains
    rw [if_neg (by rw [h1, h3, he']; simp)]
theorem fig_iff (c : Nat) : Txt.contains (Str.ofString "0123456789") ⟨#[c]⟩ = decide (48 ≤ c ∧ c ≤ 57) := by
  unfold Txt.contains
  rw [StrLaws.found_one]
  have e : (Str.ofString "0123456789").cps.toList = [48, 49, 50, 51, 52, 53, 54, 55, 56, 57] := by decide
  rw [e]
  simp only [List.mem_cons, List.not_mem_nil, or_false, decide_eq_decide]
  omega
def digitsOnly (x : Str) : Bool := x.cps.toList.all (fun c => decide (48 ≤ c ∧ c ≤ 57))
@[irreducible] def readFigS (x : Str) : Option Int :=
  if (x == Str.ofString "") = true ∨ (Txt.item x 0 == Str.ofString "0") = true ∨ 20 < (x.length : Int) ∨ digitsOnly x = false then none
  else some (NumText.digitsVal x.cps.toList)
theorem take_succ_all {l : List Nat} {i c : Nat} {p : Nat → Bool} (h : l[i]? = some c) : (l.take (i + 1)).all p = ((l.take i).all p && p c) := by
  rw [List.take_add_one, h]; simp
set_option maxHeartbeats 4000000 in
theorem read_figures_spec (prog : Program) (w : World) (news : Led) (x : Str) (t : Tok) (hx : x.length ≤ 300) (hok : PyData.strOk x = true) :
    Spec prog w 61 10 [.str x t] news (fun r news' => news' = news ∧ ((∃ n t', readFigS x = some n ∧ r = .int n t') ∨ (readFigS x = none ∧ r = .none))) := by
  intro loose mean mg mb dp un gd cn cs a ccd cl outer A₀ base h₀ L m s Q E B F X N T hk hd hu hret
  refine wpAny_call ?_
  k_dflt cell_enter
  k_with "compT" => (k_dflt (refine compT_fix (fun i ys => ∃ zs, StrsAre ys zs ∧ zs.all PyData.strOk = true ∧ (zs = [] ↔ (x.cps.toList.take i).all (fun c => decide (48 ≤ c ∧ c ≤ 57)) = true)) ⟨[], .nil, rfl, by simp⟩ trivial (fun i v ys I oI C oC D m₂ h tk E' hi hv hj hC hx9 F1 N1 off ne => ?turn) (fun ys hj => ?fin)))
  k_steps
  case turn =>
    obtain ⟨c, u, hc, rfl⟩ := hv
    obtain ⟨zs, hz, hzo, hzi⟩ := hj
    have hc' : x.cps.toList[i]? = some c := by simpa using hc
    have hcok : c < 0x110000 := by
      have := hok
      unfold PyData.strOk at this
      rw [Array.all_eq_true_iff_forall_mem] at this
      have hm : c ∈ x.cps := Array.mem_of_getElem? hc
      simpa using this c hm
    have hf := fig_iff c
    unfold Txt.contains at hf
    k_steps
    · have he := ‹(occurrences (Str.ofString "0123456789") ⟨#[c]⟩ 0 (Str.length (Str.ofString "0123456789")) 1).isEmpty = true›
      rw [he] at hf
      refine ⟨_, _, rfl, by k_asm, by k_asm, zs ++ [⟨#[c]⟩], strsAre_append hz (.cons _ _ .nil), ?_, ?_⟩
      · rw [List.all_append, hzo]
        simp [PyData.strOk, hcok]
      · rw [take_succ_all hc', ← hf]; simp
    · have he := ‹(occurrences (Str.ofString "0123456789") ⟨#[c]⟩ 0 (Str.length (Str.ofString "0123456789")) 1).isEmpty = false›
      rw [he] at hf
      refine ⟨_, _, rfl, by k_asm, by k_asm, zs, hz, hzo, ?_⟩
      rw [take_succ_all hc', ← hf]; simpa using hzi
  case fin =>
    obtain ⟨zs, hz, hzo, hzi⟩ := hj
    have hzi : zs = [] ↔ digitsOnly x = true := by
      rw [hzi]; unfold digitsOnly
      rw [show x.cps.size = x.cps.toList.length from by simp, List.take_length]
    by_cases hz0 : zs = []
    · k_dflt (refine me_ne_strs (ys := []) (ms := []) (by is_list) (by is_list) hz .nil hzo rfl (by ktr_units) (c := false) (by simp [hz0]) ?_)
      have hd := hzi.mp hz0
      have hdd : NumText.AllDigits x.cps.toList := by
        intro c hc
        unfold digitsOnly at hd
        rw [List.all_eq_true] at hd
        simpa using hd c hc
      have hne : x.cps.toList ≠ [] := by
        intro e
        have h1 : 1 ≤ x.length := by assumption
        have h2 : x.cps.toList.length = x.length := Array.length_toList
        rw [e] at h2; simp at h2; omega
      have hit := PySem.intText_digits hdd hne (by omega)
      k_steps
      refine hret _ news _ _ (by k_asm) (by walk_at "mine_news") ⟨rfl, .inl ⟨_, _, ?_, rfl⟩⟩
      have h1 := ‹(x == Str.ofString "") = false›
      have h2 := ‹(Txt.item x 0 == Str.ofString "0") = false›
      have h3 := ‹¬ 20 < (x.length : Int)›
      unfold readFigS
      rw [if_neg (by rw [h1, h2, hd]; simp; omega)]
    · k_dflt (refine me_ne_strs (ys := []) (ms := []) (by is_list) (by is_list) hz .nil hzo rfl (by ktr_units) (c := true) (by simp [hz0]) ?_)
      k_steps
      refine hret _ news _ _ (by k_asm) (by walk_at "mine_news") ⟨rfl, .inr ⟨?_, rfl⟩⟩
      unfold readFigS
      rw [if_pos (.inr (.inr (.inr (by simpa using fun h => hz0 (hzi.mpr h)))))]
  · refine hret _ _ _ _ (by k_asm) (by k_asm) ⟨rfl, .inr ⟨?_, rfl⟩⟩
    unfold readFigS
    rw [if_pos (.inl (by assumption))]
  · refine hret _ _ _ _ (by k_asm) (by k_asm) ⟨rfl, .inr ⟨?_, rfl⟩⟩
    unfold readFigS
    rw [if_pos (.inr (.inl (by assumption)))]
  · refine hret _ _ _ _ (by k_asm) (by k_asm) ⟨rfl, .inr ⟨?_, rfl⟩⟩
    unfold readFigS
    rw [if_pos (.inr (.inr (.inl (by assumption))))]
end
section
open Builtin Builtin.Str Builtin.Int Builtin.Float
theorem words_L5 : True := by
  k_with "call ref" => ((k_here; (with_reducible show wpAny _ _ (call (Value.ref 35) [Value.int _ _]) _ _ _); k_dflt (refine' Spec.useE (roman_spec _ _ _ _ _ ?h1 ?h2) ?k1 ?k2 ?k3 ?k4 ?k5 ?kK ?kd ?ku ?_; (case h1 => first | assumption | omega | done); (case h2 => first | assumption | omega | done); (case k1 => k_asm); (case k2 => k_asm); (case k3 => k_asm); (case k4 => k_asm); (case k5 => k_asm); (case kK => first | exact rfl | assumption); (case kd => ktr_room); (case ku => ktr_units)); intro h9z tk9z F9z; (refine ret1 (fun t9z N9z => ?_)); all_goals ((try dsimp only); (try k_fold))))
  k_with "call ref" => ((k_here; (with_reducible show wpAny _ _ (call (Value.ref 49) [Value.int _ _]) _ _ _); k_dflt (refine' Spec.useE (letters_spec _ _ _ _ _ ?h1 ?h2) ?k1 ?k2 ?k3 ?k4 ?k5 ?kK ?kd ?ku ?_; (case h1 => first | assumption | omega | done); (case h2 => first | assumption | omega | done); (case k1 => k_asm); (case k2 => k_asm); (case k3 => k_asm); (case k4 => k_asm); (case k5 => k_asm); (case kK => first | exact rfl | assumption); (case kd => ktr_room); (case ku => ktr_units)); intro h9z tk9z F9z; (refine ret1 (fun t9z N9z => ?_)); all_goals ((try dsimp only); (try k_fold))))
  k_with "call ref" => ((k_here; (with_reducible show wpAny _ _ (call (Value.ref 42) [Value.str _ _]) _ _ _); k_dflt (refine' Spec.useE (read_roman_spec _ _ _ _ _ ?h1) ?k1 ?k2 ?k3 ?k4 ?k5 ?kK ?kd ?ku ?_; (case h1 => first | assumption | omega | done); (case k1 => k_asm); (case k2 => k_asm); (case k3 => k_asm); (case k4 => k_asm); (case k5 => k_asm); (case kK => first | exact rfl | assumption); (case kd => ktr_room); (case ku => ktr_units)); intro h9z tk9z F9z; (refine retO (fun n9z t9z q9z N9z => ?_) (fun q9z N9z => ?_)); all_goals ((try dsimp only); (try k_fold))))
  k_with "call ref" => ((k_here; (with_reducible show wpAny _ _ (call (Value.ref 56) [Value.str _ _]) _ _ _); k_dflt (refine' Spec.useE (read_letters_spec _ _ _ _ _ ?h1) ?k1 ?k2 ?k3 ?k4 ?k5 ?kK ?kd ?ku ?_; (case h1 => first | assumption | omega | done); (case k1 => k_asm); (case k2 => k_asm); (case k3 => k_asm); (case k4 => k_asm); (case k5 => k_asm); (case kK => first | exact rfl | assumption); (case kd => ktr_room); (case ku => ktr_units)); intro h9z tk9z F9z; (refine retO (fun n9z t9z q9z N9z => ?_) (fun q9z N9z => ?_)); all_goals ((try dsimp only); (try k_fold))))
  k_with "call ref" => ((k_here; (with_reducible show wpAny _ _ (call (Value.ref 61) [Value.str _ _]) _ _ _); k_dflt (refine' Spec.useE (read_figures_spec _ _ _ _ _ ?h1 ?h2) ?k1 ?k2 ?k3 ?k4 ?k5 ?kK ?kd ?ku ?_; (case h1 => first | assumption | omega | done); (case h2 => first | assumption | omega | done); (case k1 => k_asm); (case k2 => k_asm); (case k3 => k_asm); (case k4 => k_asm); (case k5 => k_asm); (case kK => first | exact rfl | assumption); (case kd => ktr_room); (case ku => ktr_units)); intro h9z tk9z F9z; (refine retO (fun n9z t9z q9z N9z => ?_) (fun q9z N9z => ?_)); all_goals ((try dsimp only); (try k_fold))))
  trivial
def Sty (y : Str) : Prop := y = Str.ofString "D" ∨ y = Str.ofString "R" ∨ y = Str.ofString "r" ∨ y = Str.ofString "A" ∨ y = Str.ofString "a" ∨ y = Str.ofString ""
def shownS (y : Str) (n : Int) : Str :=
  if y = Str.ofString "D" then Str.ofString (toString n)
  else if y = Str.ofString "" then Str.ofString ""
  else if y = Str.ofString "R" then romanS n
  else if y = Str.ofString "r" then Txt.lower (romanS n)
  else if y = Str.ofString "A" then lettersS n
  else Txt.lower (lettersS n)
def readShownS (y x : Str) : Option Int :=
  if y = Str.ofString "D" then readFigS x
  else if y = Str.ofString "R" then readRomanS x
  else if y = Str.ofString "A" then readLettersS x
  else if y = Str.ofString "r" then (if (Txt.lower (Txt.upper x) != x) = true then none else readRomanS (Txt.upper x))
  else (if (Txt.lower (Txt.upper x) != x) = true then none else readLettersS (Txt.upper x))
theorem sh_D {y : Str} {n : Int} (h : (y == Str.ofString "D") = true) : Str.ofString (toString n) = shownS y n := by rw [eq_of_beq h]; rfl
theorem sh_E {y : Str} {n : Int} (h : (y == Str.ofString "") = true) : Str.ofString "" = shownS y n := by rw [eq_of_beq h]; rfl
theorem sh_R {y : Str} {n : Int} (hy : Sty y) (h3 : ([Str.ofString "R", Str.ofString "r"].any (fun x => x == y)) = true) (h4 : ([Str.ofString "R", Str.ofString "A"].any (fun x => x == y)) = true) : romanS n = shownS y n := by
  rcases hy with rfl | rfl | rfl | rfl | rfl | rfl <;> first | rfl | exact absurd h3 (by decide) | exact absurd h4 (by decide)
theorem sh_r {y : Str} {n : Int} (hy : Sty y) (h3 : ([Str.ofString "R", Str.ofString "r"].any (fun x => x == y)) = true) (h4 : ([Str.ofString "R", Str.ofString "A"].any (fun x => x == y)) = false) : Txt.lower (romanS n) = shownS y n := by
  rcases hy with rfl | rfl | rfl | rfl | rfl | rfl <;> first | rfl | exact absurd h3 (by decide) | exact absurd h4 (by decide)
theorem sh_A {y : Str} {n : Int} (hy : Sty y) (h3 : ([Str.ofString "R", Str.ofString "r"].any (fun x => x == y)) = false) (h4 : ([Str.ofString "R", Str.ofString "A"].any (fun x => x == y)) = true) : lettersS n = shownS y n := by
  rcases hy with rfl | rfl | rfl | rfl | rfl | rfl <;> first | rfl | exact absurd h3 (by decide) | exact absurd h4 (by decide)
theorem sh_a {y : Str} {n : Int} (hy : Sty y) (h1 : (y == Str.ofString "D") = false) (h2 : (y == Str.ofString "") = false) (h3 : ([Str.ofString "R", Str.ofString "r"].any (fun x => x == y)) = false) (h4 : ([Str.ofString "R", Str.ofString "A"].any (fun x => x == y)) = false) : Txt.lower (lettersS n) = shownS y n := by
  rcases hy with rfl | rfl | rfl | rfl | rfl | rfl <;> first | rfl | exact absurd h1 (by decide) | exact absurd h2 (by decide) | exact absurd h3 (by decide) | exact absurd h4 (by decide)
set_option maxHeartbeats 4000000 in
theorem shown_spec (prog : Program) (w : World) (news : Led) (y : Str) (ty : Tok) (n : Int) (t : Tok) (hy : Sty y) (h1 : 1 ≤ n) (h2 : n ≤ 1000) :
    Spec prog w 68 3 [.str y ty, .int n t] news (fun r news' => news' = news ∧ ∃ t', r = .str (shownS y n) t') := by
  intro loose mean mg mb dp un gd cn cs a ccd cl outer A₀ base h₀ L m s Q E B F X N T hk hd hu hret
  have hl1 := romanS_len (n := n) (by omega) h2
  have hl2 := lettersS_len h1 h2
  refine wpAny_call ?_
  k_dflt cell_enter
  k_steps
  all_goals refine hret _ news _ _ (by k_asm) (by walk_at "mine_news") ⟨rfl, _, congrArg (Value.str · _) ?_⟩
  · exact sh_D (by assumption)
  · exact sh_E (by assumption)
  · exact sh_R hy (by assumption) (by assumption)
  · exact sh_r hy (by assumption) (by assumption)
  · exact sh_A hy (by assumption) (by assumption)
  · exact sh_a hy (by assumption) (by assumption) (by assumption) (by assumption)
theorem readShown_D {x : Str} : readShownS (Str.ofString "D") x = readFigS x := rfl
theorem readShown_R {x : Str} : readShownS (Str.ofString "R") x = readRomanS x := rfl
theorem readShown_A {x : Str} : readShownS (Str.ofString "A") x = readLettersS x := rfl
theorem readShown_low {y x : Str} (hy : y = Str.ofString "r" ∨ y = Str.ofString "a") (h : (Txt.lower (Txt.upper x) != x) = true) : readShownS y x = none := by
  rcases hy with rfl | rfl
  · show (if (Txt.lower (Txt.upper x) != x) = true then none else readRomanS (Txt.upper x)) = _
    rw [if_pos h]
  · show (if (Txt.lower (Txt.upper x) != x) = true then none else readLettersS (Txt.upper x)) = _
    rw [if_pos h]
theorem readShown_r {x : Str} (h : (Txt.lower (Txt.upper x) != x) = false) : readShownS (Str.ofString "r") x = readRomanS (Txt.upper x) := by
  show (if (Txt.lower (Txt.upper x) != x) = true then none else readRomanS (Txt.upper x)) = _
  rw [if_neg (by rw [h]; decide)]
theorem readShown_a {x : Str} (h : (Txt.lower (Txt.upper x) != x) = false) : readShownS (Str.ofString "a") x = readLettersS (Txt.upper x) := by
  show (if (Txt.lower (Txt.upper x) != x) = true then none else readLettersS (Txt.upper x)) = _
  rw [if_neg (by rw [h]; decide)]
set_option maxHeartbeats 4000000 in
theorem read_shown_spec (prog : Program) (w : World) (news : Led) (y : Str) (ty : Tok) (x : Str) (t : Tok) (hy : Sty y) (hy0 : y ≠ Str.ofString "") (hx : x.length ≤ 40) (hok : PyData.strOk x = true) :
    Spec prog w 75 13 [.str y ty, .str x t] news (fun r news' => news' = news ∧ ((∃ n t', readShownS y x = some n ∧ r = .int n t') ∨ (readShownS y x = none ∧ r = .none))) := by
  intro loose mean mg mb dp un gd cn cs a ccd cl outer A₀ base h₀ L m s Q E B F X N T hk hd hu hret
  have h300 : x.length ≤ 300 := by omega
  rcases hy with rfl | rfl | rfl | rfl | rfl | rfl
  · refine wpAny_call ?_
    k_dflt cell_enter
    k_steps
    · exact hret _ news _ _ (by k_asm) (by walk_at "mine_news") ⟨rfl, .inl ⟨_, _, readShown_D.trans ‹_›, rfl⟩⟩
    · exact hret _ news _ _ (by k_asm) (by walk_at "mine_news") ⟨rfl, .inr ⟨readShown_D.trans ‹_›, rfl⟩⟩
  · refine wpAny_call ?_
    k_dflt cell_enter
    k_steps
    · exact hret _ news _ _ (by k_asm) (by walk_at "mine_news") ⟨rfl, .inl ⟨_, _, readShown_R.trans ‹_›, rfl⟩⟩
    · exact hret _ news _ _ (by k_asm) (by walk_at "mine_news") ⟨rfl, .inr ⟨readShown_R.trans ‹_›, rfl⟩⟩
  · refine wpAny_call ?_
    k_dflt cell_enter
    k_steps
    · exact hret _ news _ _ (by k_asm) (by walk_at "mine_news") ⟨rfl, .inr ⟨readShown_low (.inl rfl) ‹_›, rfl⟩⟩
    · exact hret _ news _ _ (by k_asm) (by walk_at "mine_news") ⟨rfl, .inl ⟨_, _, (readShown_r ‹_›).trans ‹_›, rfl⟩⟩
    · exact hret _ news _ _ (by k_asm) (by walk_at "mine_news") ⟨rfl, .inr ⟨(readShown_r ‹_›).trans ‹_›, rfl⟩⟩
  · refine wpAny_call ?_
    k_dflt cell_enter
    k_steps
    · exact hret _ news _ _ (by k_asm) (by walk_at "mine_news") ⟨rfl, .inl ⟨_, _, readShown_A.trans ‹_›, rfl⟩⟩
    · exact hret _ news _ _ (by k_asm) (by walk_at "mine_news") ⟨rfl, .inr ⟨readShown_A.trans ‹_›, rfl⟩⟩
  · refine wpAny_call ?_
    k_dflt cell_enter
    k_steps
    · exact hret _ news _ _ (by k_asm) (by walk_at "mine_news") ⟨rfl, .inr ⟨readShown_low (.inr rfl) ‹_›, rfl⟩⟩
    · exact hret _ news _ _ (by k_asm) (by walk_at "mine_news") ⟨rfl, .inl ⟨_, _, (readShown_a ‹_›).trans ‹_›, rfl⟩⟩
    · exact hret _ news _ _ (by k_asm) (by walk_at "mine_news") ⟨rfl, .inr ⟨(readShown_a ‹_›).trans ‹_›, rfl⟩⟩
  · exact absurd rfl hy0
end
local macro_rules | `(tactic| k_mem) => `(tactic| first | assumption | (refine List.mem_cons_of_mem _ ?_; k_mem))
section
theorem words_L6 : True := by
  k_with "exec For Name Name cons nil" => ((k_here; (rename Fr _ _ _ _ => lF'); (with_unfolding_all refine' For_turns lF' ?_; k_whole)))
  k_with "exec For Name Call cons nil" => ((k_here; (rename Fr _ _ _ _ => lF'); (with_unfolding_all refine' For_turns lF' ?_; k_whole)))
  k_with "pyIter ref" => ((k_here; k_dflt (k_extra "iter")))
  k_with "subscriptTail" => ((k_here; (with_reducible show wpAny _ _ (subscriptTail _ _ (Value.ref _) (Value.int _ _)) _ _ _); k_dflt (refine' item_tupleT ?t ?a ?b ?c ?d ?_; (case t => exact News.isTup (by k_asm) (by k_mem)); (case a => decide); (case b => decide); (case c => rfl); (case d => rfl); k_whole)))
  trivial
def rangeAt : List Rng → Int → Option Rng → Option Rng
  | [], _, f => f
  | x :: r, i, f => rangeAt r i (if x.first ≤ i then some x else f)
def RngO (led : Led) (v : Value) : Option Rng → Prop
  | none => v = .none
  | some x => RngV led v x
set_option maxHeartbeats 4000000 in
theorem range_at_spec (prog : Program) (w : World) (news : Led) (l : Addr) (xs : List Rng) (i : Int) (t : Tok) (hl : RngIn news l xs) :
    Spec prog w 82 1 [.ref l, .int i t] news (fun r news' => news' = news ∧ RngO news r (rangeAt xs i none)) := by
  intro loose mean mg mb dp un gd cn cs a ccd cl outer A₀ base h₀ L m s Q E B F X N T hk hd hu hret
  obtain ⟨vs, nn, hm, hR⟩ := hl
  refine wpAny_call ?_
  k_dflt cell_enter
  k_with "iter" => (refine iter_listTurns (by rfl) (by k_asm) (by k_asm) hm (by rfl) (by rfl) (fun I lt => ?_))
  k_with "items" => (refine itemsFix lt (subL1 hm) (fun r mm => ∃ ys f v, RngL news r ys ∧ RngO news v f ∧ mm (Str.ofString "found") = some v ∧ mm (Str.ofString "index") = some (.int i t) ∧ rangeAt ys i f = rangeAt xs i none) (fun v r mm h tk it hit hJ F1 N1 => Hold.out ?turn) (fun mm h tk hJ F1 N1 => Hold.out ?done) ⟨xs, none, _, hR, rfl, rfl, rfl, rfl⟩)
  k_steps
  case done =>
    obtain ⟨ys, f, v, h1, h2, e1, e2, e⟩ := hJ
    cases h1
    have F2 := Fr.named2 F1 e1 e2
    clear F1
    refine Hold.put ?_
    k_steps
    have e : f = rangeAt xs i none := e
    exact hret _ news _ _ (by k_asm) (by k_asm) ⟨rfl, e ▸ h2⟩
  case turn =>
    obtain ⟨ys, f, v', h1, h2, e1, e2, e⟩ := hJ
    cases h1 with | @cons _ x _ ys hv hL =>
    obtain ⟨ad, nt, t1, t2, t3, t4, rfl, hmem⟩ := hv
    have F2 := Fr.named2 F1 e1 e2
    clear F1
    refine Hold.put ?_
    k_steps
    · have hle := ‹x.first ≤ i›
      exact ⟨_, _, _, rfl, by k_asm, by k_asm, ys, some x, _, hL, ⟨_, _, _, _, _, _, rfl, hmem⟩, rfl, rfl, by rw [← e, rangeAt, if_pos hle]⟩
    · have hle := ‹¬ x.first ≤ i›
      exact ⟨_, _, _, rfl, by k_asm, by k_asm, ys, f, _, hL, h2, rfl, rfl, by rw [← e, rangeAt, if_neg hle]⟩
end
section
theorem words_L7 : True := by
  k_with "call ref" => ((k_here; (with_reducible show wpAny _ _ (call (Value.ref 82) [Value.ref _, Value.int _ _]) _ _ _); k_dflt (refine' Spec.useE (range_at_spec _ _ _ _ _ _ _ ?h1) ?k1 ?k2 ?k3 ?k4 ?k5 ?kK ?kd ?ku ?_; (case h1 => first | assumption | omega | exact RngIn.mono (by assumption) (by intro p hp; repeat (first | exact hp | refine List.mem_cons_of_mem _ ?_))); (case k1 => k_asm); (case k2 => k_asm); (case k3 => k_asm); (case k4 => k_asm); (case k5 => k_asm); (case kK => first | exact rfl | assumption); (case kd => ktr_room); (case ku => ktr_units)); intro h9z tk9z F9z; (refine retR (fun r9z P9z N9z => ?_)); all_goals ((try dsimp only); (try k_fold))))
  k_with "call ref" => ((k_here; (with_reducible show wpAny _ _ (call (Value.ref 68) [Value.str _ _, Value.int _ _]) _ _ _); k_dflt (refine' Spec.useE (shown_spec _ _ _ _ _ _ _ ?h1 ?h2 ?h3) ?k1 ?k2 ?k3 ?k4 ?k5 ?kK ?kd ?ku ?_; (case h1 => first | assumption | omega | exact RngIn.mono (by assumption) (by intro p hp; repeat (first | exact hp | refine List.mem_cons_of_mem _ ?_))); (case h2 => first | assumption | omega | exact RngIn.mono (by assumption) (by intro p hp; repeat (first | exact hp | refine List.mem_cons_of_mem _ ?_))); (case h3 => first | assumption | omega | exact RngIn.mono (by assumption) (by intro p hp; repeat (first | exact hp | refine List.mem_cons_of_mem _ ?_))); (case k1 => k_asm); (case k2 => k_asm); (case k3 => k_asm); (case k4 => k_asm); (case k5 => k_asm); (case kK => first | exact rfl | assumption); (case kd => ktr_room); (case ku => ktr_units)); intro h9z tk9z F9z; (refine ret1 (fun t9z N9z => ?_)); all_goals ((try dsimp only); (try k_fold))))
  trivial
def Pre (p : Str) : Prop := p = Str.ofString "" ∨ p = Str.ofString "A-" ∨ p = Str.ofString "i"
structure RngOk (x : Rng) : Prop where
  f0 : 0 ≤ x.first
  f1 : x.first ≤ 100
  sty : Sty x.sty
  pre : Pre x.pre
  s0 : 1 ≤ x.start
  s1 : x.start ≤ 200
def labelOf (xs : List Rng) (i : Int) : Str := match rangeAt xs i none with
  | none => Str.ofString (toString (i + 1))
  | some x => x.pre ++ shownS x.sty (x.start + i - x.first)
theorem rangeAt_mem : ∀ (xs : List Rng) (i : Int) (f : Option Rng) (x : Rng), rangeAt xs i f = some x → f = some x ∨ (x ∈ xs ∧ x.first ≤ i)
  | [], _, _, _, h => .inl h
  | y :: r, i, f, x, h => by
    rcases rangeAt_mem r i _ x h with h | h
    · by_cases hy : y.first ≤ i
      · rw [if_pos hy] at h
        cases h
        exact .inr ⟨.head _, hy⟩
      · rw [if_neg hy] at h
        exact .inl h
    · exact .inr ⟨.tail _ h.1, h.2⟩
theorem pre_len {p : Str} (h : Pre p) : p.length ≤ 2 := by
  rcases h with rfl | rfl | rfl <;> decide
theorem shownS_len {y : Str} {n : Int} (hy : Sty y) (h1 : 1 ≤ n) (h2 : n ≤ 1000) : (shownS y n).length ≤ 100000 := by
  have a := romanS_len (n := n) (by omega) h2
  have b := lettersS_len h1 h2
  have c := len_lower (romanS n)
  have d := len_lower (lettersS n)
  rcases hy with rfl | rfl | rfl | rfl | rfl | rfl
  · exact Nat.le_trans (KT.len_num (by omega) (by omega)) (by decide)
  · show (romanS n).length ≤ _; omega
  · show (Txt.lower (romanS n)).length ≤ _; omega
  · show (lettersS n).length ≤ _; omega
  · show (Txt.lower (lettersS n)).length ≤ _; omega
  · exact Nat.zero_le _
theorem labelOf_none {xs : List Rng} {i : Int} (h : rangeAt xs i none = none) : labelOf xs i = Str.ofString (toString (i + 1)) := by unfold labelOf; rw [h]
theorem labelOf_some {xs : List Rng} {i : Int} {x : Rng} (h : rangeAt xs i none = some x) : labelOf xs i = x.pre ++ shownS x.sty (x.start + i - x.first) := by unfold labelOf; rw [h]
set_option maxHeartbeats 4000000 in
theorem label_of_spec (prog : Program) (w : World) (news : Led) (l : Addr) (xs : List Rng) (i : Int) (t : Tok) (hl : RngIn news l xs) (hok : ∀ x ∈ xs, RngOk x) (h0 : 0 ≤ i) (h1 : i ≤ 100) :
    Spec prog w 89 5 [.ref l, .int i t] news (fun r news' => news' = news ∧ ∃ t', r = .str (labelOf xs i) t') := by
  intro loose mean mg mb dp un gd cn cs a ccd cl outer A₀ base h₀ L m s Q E B F X N T hk hd hu hret
  refine wpAny_call ?_
  k_dflt cell_enter
  k_steps
  have P := ‹RngO news _ (rangeAt xs i none)›
  cases hq : rangeAt xs i none with
  | none =>
    rw [hq] at P
    have P : _ = Value.none := P
    subst P
    k_steps
    exact hret _ news _ _ (by k_asm) (by walk_at "mine_news") ⟨rfl, _, by rw [labelOf_none hq]⟩
  | some x =>
    rw [hq] at P
    obtain ⟨ad, nt, t1, t2, t3, t4, rfl, hmem⟩ := P
    obtain ⟨hx, hle⟩ := (rangeAt_mem xs i none x hq).resolve_left (by intro h; cases h)
    obtain ⟨f0, f1, hsty, hpre, s0, s1⟩ := hok x hx
    have hpl := pre_len hpre
    have hsl := shownS_len (n := x.start + i - x.first) hsty (by omega) (by omega)
    k_steps
    exact hret _ news _ _ (by k_asm) (by walk_at "mine_news") ⟨rfl, _, by rw [labelOf_some hq]⟩
end
section
theorem words_L8 : True := by
  k_with "mine_sub" => (first | exact List.forall_mem_nil _ | (refine List.forall_mem_cons.mpr ⟨?_, ?_⟩; (focus (first | exact List.mem_cons_self | k_mem)); walk_at "mine_sub") | (intro p hp; repeat (first | exact hp | refine List.mem_cons_of_mem _ ?_)))
  k_with "mine_news" => ((refine news_sub (by k_asm) ?_; walk_at "mine_sub"))
  k_with "mine_enterC" => ((refine' code_defC ?k1 ?k2 ?k3 ?k4 ?k5 ?kA ?kF ?kK ?k6 ?k7 ?k8 ?k9z ?kB ?kD ?_ ?c2 ?c3 ?c4; (case kA => exact rfl); (case kF => exact rfl); (case kK => assumption); (case k1 => k_asm); (case k2 => k_asm); (case k3 => k_asm); (case k4 => k_asm); (case k5 => k_asm); (case k6 => k_is); (case k7 => k_is); (case k8 => ktr_room); (case k9z => exact BindsTo.of_eq rfl); (case kB => exact rfl); (case kD => decide +kernel); (case c2 => exact rfl); (case c3 => exact rfl); (case c4 => exact rfl); k_whole; intro g' L' h' tk' cells' FG' F' N' Y' B' X' T' l1; (try k_lt l1); k_cells Y'; (try simp only [List.cons_append, List.nil_append] at N'); (try dsimp only); (try k_lift B'); (try k_fold)))
  k_with "eval ListComp" => ((k_here; k_dflt (refine LCg.ListComp_U (F₀ := by k_asm) (by with_unfolding_all rfl) (by decide) (by rfl) (by decide) (by rfl) ?_)))
  k_with "CompSrc" => ((k_here; k_dflt (k_extra "csrc")))
  k_with "CompRest" => (k_dflt (k_extra "comp"))
  k_with "call ref" => ((k_here; (with_reducible show wpAny _ _ (call (Value.ref 89) [Value.ref _, Value.int _ _]) _ _ _); k_dflt (refine' Spec.useE (label_of_spec _ _ _ _ _ _ _ ?h1 ?h2 ?h3 ?h4) ?k1 ?k2 ?k3 ?k4 ?k5 ?kK ?kd ?ku ?_; (case k1 => k_asm); (case k2 => k_asm); (case k3 => k_asm); (case k4 => k_asm); (case k5 => k_asm); (case h1 => first | assumption | omega | exact RngIn.mono (by assumption) (by walk_at "mine_sub")); (case h2 => first | assumption | omega | exact RngIn.mono (by assumption) (by walk_at "mine_sub")); (case h3 => first | assumption | omega | exact RngIn.mono (by assumption) (by walk_at "mine_sub")); (case h4 => first | assumption | omega | exact RngIn.mono (by assumption) (by walk_at "mine_sub")); (case kK => first | exact rfl | assumption); (case kd => ktr_room); (case ku => ktr_units)); intro h9z tk9z F9z; (refine ret1 (fun t9z N9z => ?_)); all_goals ((try dsimp only); (try k_fold))))
  trivial
theorem rng_small : ∀ n : Nat, n ≤ 100 → Builtin.Range.small 0 n 1 = true ∧ Builtin.Range.rangeSize 0 n 1 = (n : Int) := by decide +kernel
def labelsOf (xs : List Rng) (n : Nat) : List Str := (List.range n).map fun (i : Nat) => labelOf xs (i : Int)
theorem labelsOf_succ (xs : List Rng) (i : Nat) : labelsOf xs (i + 1) = labelsOf xs i ++ [labelOf xs (0 + (i : Int))] := by
  unfold labelsOf; rw [List.range_succ, List.map_append]; simp
set_option maxHeartbeats 4000000 in
theorem labels_of_spec (prog : Program) (w : World) (news : Led) (l : Addr) (xs : List Rng) (n : Nat) (t : Tok) (hl : RngIn news l xs) (hok : ∀ x ∈ xs, RngOk x) (h1 : n ≤ 100) :
    Spec prog w 94 7 [.ref l, .int n t] news (fun r news' => ∃ D ys, r = .ref D ∧ news' = (D, LCg.lst ys) :: news ∧ StrsAre ys (labelsOf xs n)) := by
  intro loose mean mg mb dp un gd cn cs a ccd cl outer A₀ base h₀ L m s Q E B F X N T hk hd hu hret
  refine wpAny_call ?_
  k_dflt (walk_at "mine_enterC")
  k_with "csrc" => (refine LCg.CompSrc.range (n := n) (by rfl) (by k_asm) (by k_asm) (by assumption) (rng_small n h1).1 (rng_small n h1).2 (Nat.le_trans h1 (by decide)) ?_; intro g9)
  k_with "comp" => (refine compU_fix (fun i ys => StrsAre ys (labelsOf xs i)) .nil trivial (fun i v ys I oI C oC D m₂ h tk E' hi hv hj hC hx F1 N1 off ne => Hold.out ?turn) (fun ys hj => Hold.out ?fin))
  k_steps
  case turn =>
    obtain ⟨t9, rfl⟩ := hv
    refine Hold.put ?_
    k_steps
    refine ⟨_, _, rfl, by k_asm, by k_asm, ?_⟩
    rw [labelsOf_succ]
    exact strsAre_append hj (.cons _ _ .nil)
  case fin =>
    refine Hold.put ?_
    k_steps
    exact hret _ _ _ _ (by k_asm) (by walk_at "mine_news") ⟨_, ys, rfl, rfl, hj⟩
end
section
theorem words_L9 : True := by
  k_with "call ref" => ((k_here; (with_reducible show wpAny _ _ (call (Value.ref 75) [Value.str _ _, Value.str _ _]) _ _ _); k_dflt (refine' Spec.useE (read_shown_spec _ _ _ _ _ _ _ ?h1 ?h2 ?h3 ?h4) ?k1 ?k2 ?k3 ?k4 ?k5 ?kK ?kd ?ku ?_; (case k1 => k_asm); (case k2 => k_asm); (case k3 => k_asm); (case k4 => k_asm); (case k5 => k_asm); (case h1 => first | assumption | omega | exact beq_eq_false_iff_ne.mp (by assumption) | exact RngIn.mono (by assumption) (by walk_at "mine_sub")); (case h2 => first | assumption | omega | exact beq_eq_false_iff_ne.mp (by assumption) | exact RngIn.mono (by assumption) (by walk_at "mine_sub")); (case h3 => first | assumption | omega | exact beq_eq_false_iff_ne.mp (by assumption) | exact RngIn.mono (by assumption) (by walk_at "mine_sub")); (case h4 => first | assumption | omega | exact beq_eq_false_iff_ne.mp (by assumption) | exact RngIn.mono (by assumption) (by walk_at "mine_sub")); (case kK => first | exact rfl | assumption); (case kd => ktr_room); (case ku => ktr_units)); intro h9z tk9z F9z; (refine retO (fun n9z t9z q9z N9z => ?_) (fun q9z N9z => ?_)); all_goals ((try dsimp only); (try k_fold))))
  trivial
def indexIn (r : Rng) (e : Int) (x : Str) : Int :=
  if r.first ≥ e ∨ Txt.startswith x r.pre = false then -1
  else if r.sty = Str.ofString "" then (if Txt.slice x (some r.pre.length) none = Str.ofString "" then r.first else -1)
  else match readShownS r.sty (Txt.slice x (some r.pre.length) none) with
    | none => -1
    | some n => if r.start ≤ n ∧ n < r.start + e - r.first then r.first + n - r.start else -1
section
variable {r : Rng} {e : Int} {x : Str}
theorem ii1 (h : e ≤ r.first) : -1 = indexIn r e x := by unfold indexIn; rw [if_pos (.inl h)]
theorem ii8 (h : Txt.startswith x r.pre = false) : -1 = indexIn r e x := by unfold indexIn; rw [if_pos (.inr h)]
theorem ii2 (h1 : ¬ e ≤ r.first) (h2 : Txt.startswith x r.pre = true) (h3 : (r.sty == Str.ofString "") = true) (h4 : (Txt.slice x (some r.pre.length) none == Str.ofString "") = true) : r.first = indexIn r e x := by
  unfold indexIn; rw [if_neg (by rw [h2]; simp; omega), if_pos (eq_of_beq h3), if_pos (eq_of_beq h4)]
theorem ii3 (h1 : ¬ e ≤ r.first) (h2 : Txt.startswith x r.pre = true) (h3 : (r.sty == Str.ofString "") = true) (h4 : (Txt.slice x (some r.pre.length) none == Str.ofString "") = false) : -1 = indexIn r e x := by
  unfold indexIn; rw [if_neg (by rw [h2]; simp; omega), if_pos (eq_of_beq h3), if_neg (beq_eq_false_iff_ne.mp h4)]
theorem ii7 (h1 : ¬ e ≤ r.first) (h2 : Txt.startswith x r.pre = true) (h3 : (r.sty == Str.ofString "") = false) (q : readShownS r.sty (Txt.slice x (some r.pre.length) none) = none) : -1 = indexIn r e x := by
  unfold indexIn; rw [if_neg (by rw [h2]; simp; omega), if_neg (beq_eq_false_iff_ne.mp h3), q]
theorem ii4 {n : Int} (h1 : ¬ e ≤ r.first) (h2 : Txt.startswith x r.pre = true) (h3 : (r.sty == Str.ofString "") = false) (q : readShownS r.sty (Txt.slice x (some r.pre.length) none) = some n) (ha : r.start ≤ n) (hb : n < r.start + e - r.first) : r.first + n - r.start = indexIn r e x := by
  unfold indexIn; rw [if_neg (by rw [h2]; simp; omega), if_neg (beq_eq_false_iff_ne.mp h3), q]
  show _ = if _ then _ else _
  rw [if_pos ⟨ha, hb⟩]
theorem ii5 {n : Int} (h1 : ¬ e ≤ r.first) (h2 : Txt.startswith x r.pre = true) (h3 : (r.sty == Str.ofString "") = false) (q : readShownS r.sty (Txt.slice x (some r.pre.length) none) = some n) (h : ¬ (r.start ≤ n ∧ n < r.start + e - r.first)) : -1 = indexIn r e x := by
  unfold indexIn; rw [if_neg (by rw [h2]; simp; omega), if_neg (beq_eq_false_iff_ne.mp h3), q]
  show _ = if _ then _ else _
  rw [if_neg h]
end
theorem strOk_slice {x : Str} (h : PyData.strOk x = true) (a b : Option Int) : PyData.strOk (Txt.slice x a b) = true := by
  unfold Txt.slice
  split
  · exact h
  · unfold PyData.strOk at h ⊢
    rw [Array.all_eq_true_iff_forall_mem] at h ⊢
    intro c hc
    simp only [List.mem_toArray, List.mem_filterMap] at hc
    obtain ⟨i, _, hi⟩ := hc
    exact h c (Array.mem_of_getElem? hi)
set_option maxHeartbeats 4000000 in
theorem index_in_spec (prog : Program) (w : World) (news : Led) (a9 : Addr) (r : Rng) (e : Int) (te : Tok) (x : Str) (t : Tok) (hr : RngV news (.ref a9) r) (hok : RngOk r) (h0 : 0 ≤ e) (h1 : e ≤ 100) (hx : x.length ≤ 40) (hox : PyData.strOk x = true) :
    Spec prog w 101 15 [.ref a9, .int e te, .str x t] news (fun v news' => news' = news ∧ ∃ t', v = .int (indexIn r e x) t') := by
  intro loose mean mg mb dp un gd cn cs a ccd cl outer A₀ base h₀ L m s Q E B F X N T hk hd hu hret
  obtain ⟨ad, nt, t1, t2, t3, t4, e9, hmem⟩ := hr
  cases e9
  obtain ⟨f0, f1, hsty, hpre, s0, s1⟩ := hok
  have hpl := pre_len hpre
  have hsl : (Txt.slice x (some r.pre.length) none).length ≤ 40 := Nat.le_trans (Txt.slice_le _ _ _) hx
  have hso := strOk_slice hox (some r.pre.length) none
  refine wpAny_call ?_
  k_dflt cell_enter
  k_steps
  all_goals refine hret _ news _ _ (by k_asm) (by walk_at "mine_news") ⟨rfl, _, congrArg (Value.int · _) ?_⟩
  · exact ii1 ‹e ≤ r.first›
  · exact ii2 ‹¬ e ≤ r.first› ‹Txt.startswith x r.pre = true› ‹(r.sty == Str.ofString "") = true› ‹(Txt.slice x (some r.pre.length) none == Str.ofString "") = true›
  · exact ii3 ‹¬ e ≤ r.first› ‹Txt.startswith x r.pre = true› ‹(r.sty == Str.ofString "") = true› ‹(Txt.slice x (some r.pre.length) none == Str.ofString "") = false›
  · have q := ‹readShownS r.sty (Txt.slice x (some r.pre.length) none) = some _›
    exact ii4 ‹¬ e ≤ r.first› ‹Txt.startswith x r.pre = true› ‹(r.sty == Str.ofString "") = false› q (by assumption) (by assumption)
  · have q := ‹readShownS r.sty (Txt.slice x (some r.pre.length) none) = some _›
    exact ii5 ‹¬ e ≤ r.first› ‹Txt.startswith x r.pre = true› ‹(r.sty == Str.ofString "") = false› q (by omega)
  · have q := ‹readShownS r.sty (Txt.slice x (some r.pre.length) none) = some _›
    exact ii5 ‹¬ e ≤ r.first› ‹Txt.startswith x r.pre = true› ‹(r.sty == Str.ofString "") = false› q (by omega)
  · exact ii7 ‹¬ e ≤ r.first› ‹Txt.startswith x r.pre = true› ‹(r.sty == Str.ofString "") = false› ‹readShownS r.sty (Txt.slice x (some r.pre.length) none) = none›
  · exact ii8 ‹Txt.startswith x r.pre = false›
end
section
theorem words_L10 : True := by
  k_with "call builtin:len" => ((k_here; (with_reducible show wpAny _ _ (call (Value.builtin "len") [Value.ref _]) _ _ _); k_dflt (refine len_listE (News.isList (by k_asm) (by k_mem)) (by assumption) (by omega) ?_); intro _ _))
  k_with "subscriptTail Name Name ref int" => ((k_here; (with_reducible show wpAny _ _ (subscriptTail _ _ (Value.ref _) (Value.int _ _)) _ _ _); k_dflt (refine' item_listL (News.isList ?n ?m) ?h0 ?hf ?ht ?_ ?hs ?hg; (case n => k_asm); (case m => k_mem); (case h0 => omega); (case hf => omega); (case ht => assumption); (case hs => with_unfolding_all rfl); (case hg => (intro _; with_unfolding_all rfl)); k_whole)))
  k_with "binaryOp Add ref ref" => ((k_here; k_dflt (k_extra "add")))
  k_with "call ref" => ((k_here; (with_reducible show wpAny _ _ (call (Value.ref 101) [Value.ref _, Value.int _ _, Value.str _ _]) _ _ _); k_dflt (refine' Spec.useE (index_in_spec _ _ _ _ ⟨_, _, _, _⟩ _ _ _ _ ?h1 ?h2 ?h3 ?h4 ?h5 ?h6) ?k1 ?k2 ?k3 ?k4 ?k5 ?kK ?kd ?ku ?_; (case k1 => k_asm); (case k2 => k_asm); (case k3 => k_asm); (case k4 => k_asm); (case k5 => k_asm); (case h1 => first | assumption | omega | exact beq_eq_false_iff_ne.mp (by assumption) | exact RngIn.mono (by assumption) (by walk_at "mine_sub") | exact rngV_of (by k_mem) | exact RngV.mono (by assumption) (by walk_at "mine_sub")); (case h2 => first | assumption | omega | exact beq_eq_false_iff_ne.mp (by assumption) | exact RngIn.mono (by assumption) (by walk_at "mine_sub") | exact rngV_of (by k_mem) | exact RngV.mono (by assumption) (by walk_at "mine_sub")); (case h3 => first | assumption | omega | exact beq_eq_false_iff_ne.mp (by assumption) | exact RngIn.mono (by assumption) (by walk_at "mine_sub") | exact rngV_of (by k_mem) | exact RngV.mono (by assumption) (by walk_at "mine_sub")); (case h4 => first | assumption | omega | exact beq_eq_false_iff_ne.mp (by assumption) | exact RngIn.mono (by assumption) (by walk_at "mine_sub") | exact rngV_of (by k_mem) | exact RngV.mono (by assumption) (by walk_at "mine_sub")); (case h5 => first | assumption | omega | exact beq_eq_false_iff_ne.mp (by assumption) | exact RngIn.mono (by assumption) (by walk_at "mine_sub") | exact rngV_of (by k_mem) | exact RngV.mono (by assumption) (by walk_at "mine_sub")); (case h6 => first | assumption | omega | exact beq_eq_false_iff_ne.mp (by assumption) | exact RngIn.mono (by assumption) (by walk_at "mine_sub") | exact rngV_of (by k_mem) | exact RngV.mono (by assumption) (by walk_at "mine_sub")); (case kK => first | exact rfl | assumption); (case kd => ktr_room); (case ku => ktr_units)); intro h9z tk9z F9z; (refine ret1 (fun t9z N9z => ?_)); all_goals ((try dsimp only); (try k_fold))))
  trivial
def endAt (xs : List Rng) (c : Int) (i : Nat) : Int := ((xs.map Rng.first) ++ [c]).getD i 0
def rng0 : Rng := ⟨0, Str.ofString "D", Str.ofString "", 1⟩
def idxGo (xs : List Rng) (c : Int) (x : Str) : Nat → Int
  | 0 => indexIn rng0 (if c < endAt xs c 0 then c else endAt xs c 0) x
  | i + 1 => if idxGo xs c x i = -1 then (match xs[i]? with | some r => indexIn r (if c < endAt xs c (i + 1) then c else endAt xs c (i + 1)) x | none => -1) else idxGo xs c x i
def indexOf (xs : List Rng) (c : Int) (x : Str) : Int := idxGo xs c x xs.length
theorem endAt_bd {xs : List Rng} {c : Int} (hok : ∀ x ∈ xs, RngOk x) (h0 : 0 ≤ c) (h1 : c ≤ 100) (i : Nat) : 0 ≤ (xs.map Rng.first ++ [c]).getD i 0 ∧ (xs.map Rng.first ++ [c]).getD i 0 ≤ 100 := by
  rw [List.getD_eq_getElem?_getD]
  cases h : (xs.map Rng.first ++ [c])[i]? with
  | none => exact ⟨Int.le_refl _, by decide⟩
  | some v =>
    have hm := List.mem_of_getElem? h
    simp only [List.mem_append, List.mem_map, List.mem_singleton] at hm
    show 0 ≤ v ∧ v ≤ 100
    rcases hm with ⟨r, hr, rfl⟩ | rfl
    · exact ⟨(hok r hr).f0, (hok r hr).f1⟩
    · exact ⟨h0, h1⟩
theorem rng0_ok : RngOk ⟨0, Str.ofString "D", Str.ofString "", 1⟩ := ⟨by decide, by decide, .inl rfl, .inl rfl, by decide, by decide⟩
set_option maxHeartbeats 4000000 in
theorem index_of_spec (prog : Program) (w : World) (news : Led) (l : Addr) (xs : List Rng) (c : Nat) (tc : Tok) (x : Str) (t : Tok) (hl : RngIn news l xs) (hok : ∀ x ∈ xs, RngOk x) (hn : xs.length ≤ 20) (h1 : c ≤ 100) (hx : x.length ≤ 40) (hox : PyData.strOk x = true) :
    Spec prog w 106 17 [.ref l, .int c tc, .str x t] news (fun v news' => news' = news ∧ ∃ t', v = .int (indexOf xs c x) t') := by
  intro loose mean mg mb dp un gd cn cs a ccd cl outer A₀ base h₀ L m s Q E B F X N T hk hd hu hret
  obtain ⟨vs, nv, hm, hR⟩ := hl
  have hlen := hR.length
  refine wpAny_call ?_
  k_dflt cell_enter
  k_with "csrc" => (refine LCg.CompSrc.ledger (by rfl) (by k_asm) (by k_asm) hm (by rw [List.size_toArray, hlen]; exact Nat.le_trans hn (by decide)) ?_; intro g9)
  k_with "comp" => (refine compU_fix (fun i ys => IntsAre ys ((xs.take i).map Rng.first)) .nil (.inr ⟨_, hm, rfl, _, rfl⟩) (fun i v ys I oI C oC D m₂ h tk E' hi hv hj hC hx9 F1 N1 off ne => Hold.out ?turn) (fun ys hj => Hold.out ?fin))
  k_steps
  case turn =>
    have hi' : i < xs.length := by rw [← hlen]; simpa using hi
    obtain ⟨v', hv', hrv⟩ := hR.at i (List.getElem?_eq_getElem hi')
    have hvv : vs[i]? = some v := by simpa using hv
    rw [hvv] at hv'
    obtain rfl : v = v' := Option.some.inj hv'
    obtain ⟨ad, nt, t1, t2, t3, t4, rfl, hmem⟩ := hrv
    refine Hold.put ?_
    k_steps
    refine ⟨_, _, rfl, by k_asm, by k_asm, ?_⟩
    rw [List.take_add_one, List.getElem?_eq_getElem hi', List.map_append]
    exact intsAre_append hj (.cons _ _ .nil)
  case fin =>
    have hj : IntsAre ys (xs.map Rng.first) := by
      rw [List.size_toArray, hlen, List.take_length] at hj; exact hj
    have hyl := hj.length
    rw [List.length_map] at hyl
    have hE := endAt_bd hok (c := (c : Int)) (by omega) (by omega)
    have hE0 := hE (Int.toNat 0)
    have hok0 := rng0_ok
    have hsz : vs.toArray.size = xs.length := by rw [List.size_toArray, hlen]
    have hn' : xs.length ≤ 100 := by omega
    have hIE : IntsAre (ys ++ [.int c tc]) (xs.map Rng.first ++ [(c : Int)]) := intsAre_append hj (.cons _ _ .nil)
    have hlE : (xs.map Rng.first ++ [(c : Int)]).length = xs.length + 1 := by simp
    k_with "add" => (refine add_listsE (vs := ys) (ws := [.int c tc]) (by k_asm) (by k_asm) (News.isList (by k_asm) (by k_mem)) (News.isList (by k_asm) (by k_mem)) (by rw [hyl]; exact Nat.le_trans (Nat.add_le_add_right hn 1) (by decide)) (fun EA hA ltA FA NA => ?_))
    k_with "iter" => (refine iter_rangeTurns (n := xs.length) (by rfl) (by k_asm) (by k_asm) (by assumption) (rng_small _ hn').1 (rng_small _ hn').2 (fun I lt => ?_))
    k_with "items" => (refine itemsRangeFix lt (fun i mm => ∃ t9, mm (Str.ofString "found") = some (.int (idxGo xs c x i) t9) ∧ mm (Str.ofString "ranges") = some (.ref l) ∧ mm (Str.ofString "ends") = some (.ref EA) ∧ mm (Str.ofString "count") = some (.int c tc) ∧ mm (Str.ofString "text") = some (.str x t)) (fun i mm h tk t9 it hi hit hJ F1 N1 => Hold.out ?rturn) (fun mm h tk hJ F1 N1 => Hold.out ?rdone) ⟨_, rfl, rfl, rfl, rfl, rfl⟩)
    refine Hold.put ?_
    k_steps
    case rdone =>
      obtain ⟨t9, e1, e2, e3, e4, e5⟩ := hJ
      have F2 := Fr.named F1 e1
      clear F1
      refine Hold.put ?_
      k_steps
      exact hret _ news _ _ (by k_asm) (by walk_at "mine_news") ⟨rfl, _, rfl⟩
    case rturn =>
      obtain ⟨t8, e1, e2, e3, e4, e5⟩ := hJ
      have F2 := Fr.named5 F1 e1 e2 e3 e4 e5
      clear F1
      obtain ⟨v, hv, hrv⟩ := hR.at i (List.getElem?_eq_getElem hi)
      obtain ⟨ad, nt, u1, u2, u3, u4, rfl, hmem⟩ := id hrv
      have hokr := hok _ (List.getElem_mem hi)
      have hv : vs[((0 : Int) + i).toNat]? = some (.ref ad) := by rw [show ((0 : Int) + i).toNat = i by omega]; exact hv
      have hE1 := hE (((0 : Int) + i + 1).toNat)
      refine Hold.put ?_
      k_steps
      · have hneg := ‹idxGo xs (c : Int) x i = -1›
        have e : ((0 : Int) + i + 1).toNat = i + 1 := by omega
        have hgo : idxGo xs (c : Int) x (i + 1) = indexIn xs[i] (if (c : Int) < (xs.map Rng.first ++ [(c : Int)]).getD ((0 : Int) + i + 1).toNat 0 then (c : Int) else (xs.map Rng.first ++ [(c : Int)]).getD ((0 : Int) + i + 1).toNat 0) x := by
          rw [e, idxGo, if_pos hneg, List.getElem?_eq_getElem hi]; rfl
        exact ⟨_, _, _, rfl, by k_asm, by k_asm, _, by rw [hgo]; rfl, rfl, rfl, rfl, rfl⟩
      · have hneg := ‹idxGo xs (c : Int) x i ≠ -1›
        have hgo : idxGo xs (c : Int) x (i + 1) = idxGo xs (c : Int) x i := by rw [idxGo, if_neg hneg]
        exact ⟨_, _, _, rfl, by k_asm, by k_asm, _, by rw [hgo]; rfl, rfl, rfl, rfl, rfl⟩
end
local macro_rules | `(tactic| k_all) => `(tactic| assumption)
section
theorem words_L11 : True := by
  k_with "compareOp NotEq ref ref" => ((k_here; k_dflt (k_extra "ne")))
  k_with "mine_k" => (first | (k_unfold; (try dsimp only)) | (k_end; wrow_close) | walk1 | (dsimp only; walk1) | (leave1; walk_say "STEP leave1"; try dsimp only))
  k_with "binaryOp Mod int int" => ((k_here; k_dflt (refine mod_any (by omega) ?_); intro v9z t9z k9z v9az v9bz))
  k_with "binaryOp Pow int int" => ((k_here; (fail_if_success (with_reducible show wpAny _ _ (binaryOp Operator.Pow (Value.int 10 _) _) _ _ _)); k_dflt (refine pow_any (by decide) (by decide) (by omega) ?_); intro v9z t9z k9z))
  k_with "binaryOp Mult int int" => ((k_here; (fail_if_success (with_reducible show wpAny _ _ (binaryOp Operator.Mult (Value.int 20947 _) _) _ _ _)); (fail_if_success (with_reducible show wpAny _ _ (binaryOp Operator.Mult (Value.int 2 _) _) _ _ _)); k_dflt (refine mul_any (by omega) (by omega) (by omega) (by omega) ?_); intro v9z t9z k9z v9az v9bz))
  trivial
abbrev penObj (cl : Addr) (spot held : Int) (t1 t2 : Tok) (n : Nat) : Obj := W.listOf #[.ref cl, .int spot t1, .int held t2] n
set_option maxHeartbeats 1000000 in
theorem draw_spec (prog : Program) (w : World) (fz : Led) (pen cl : Addr) (vs : List Value) (ns : List Int) (nc np : Nat) (spot held : Int) (t1 t2 : Tok) (k : Int) (tk : Tok) (hcl : (cl, W.listOf vs.toArray nc) ∈ fz) (hfz : ∀ p ∈ fz, p.1 ≠ pen) (hi : IntsAre vs ns) (hn : ns.length ≤ 40) (s0 : 0 ≤ spot) (s1 : spot ≤ 200) (d0 : 0 ≤ held) (k0 : 1 ≤ k) (k1 : k ≤ 200) :
    Spec prog w 118 12 [.ref pen, .int k tk] ((pen, penObj cl spot held t1 t2 np) :: fz) (fun v news' => ∃ d t' spot' held' t1' t2', v = .int d t' ∧ 0 ≤ d ∧ d < k ∧ spot ≤ spot' ∧ spot' ≤ spot + 1 ∧ 0 ≤ held' ∧ news' = (pen, penObj cl spot' held' t1' t2' np) :: fz) := by
  intro loose mean mg mb dp un gd cn cs a ccd cl' outer A₀ base h₀ L m s Q E B F X N T hk hd hu hret
  have hlen := hi.length
  have hsz : vs.toArray.size = ns.length := by rw [List.size_toArray, hlen]
  have hkp : 0 < k := by omega
  have hfd := fdiv_nonneg d0 hkp
  rcases Nat.eq_zero_or_pos ns.length with hz | hpos
  · have hns : ns = [] := List.eq_nil_of_length_eq_zero hz
    refine wpAny_call ?_
    k_dflt cell_enter
    k_with "ne" => (refine ne_intsC (ys := []) (ms := []) (News.isList (by k_asm) (by k_mem)) (News.isList (by k_asm) (by k_mem)) hi .nil (by ktr_units) (c := false) (by simp [hns]) ?_)
    k_steps
    · exact hret _ _ _ _ (by k_asm) (by walk_at "mine_news") ⟨_, _, _, _, _, _, rfl, by assumption, by assumption, by omega, by omega, by first | assumption | omega, rfl⟩
    · exact hret _ _ _ _ (by k_asm) (by walk_at "mine_news") ⟨_, _, _, _, _, _, rfl, by assumption, by assumption, by omega, by omega, by first | assumption | omega, rfl⟩
  · have hns : ns ≠ [] := List.length_pos_iff.mp hpos
    refine wpAny_call ?_
    k_dflt cell_enter
    k_with "ne" => (refine ne_intsC (ys := []) (ms := []) (News.isList (by k_asm) (by k_mem)) (News.isList (by k_asm) (by k_mem)) hi .nil (by ktr_units) (c := true) (by simp [hns]) ?_)
    k_steps
    · exact hret _ _ _ _ (by k_asm) (by walk_at "mine_news") ⟨_, _, _, _, _, _, rfl, by assumption, by assumption, by omega, by omega, by first | assumption | omega, rfl⟩
    · have hg := fdiv_nonneg (great_nonneg ‹(10 : Int) ^ Int.toNat 18 ≤ _›) hkp
      exact hret _ _ _ _ (by k_asm) (by walk_at "mine_news") ⟨_, _, _, _, _, _, rfl, by assumption, by assumption, by omega, by omega, by first | assumption | omega, rfl⟩
    · exact hret _ _ _ _ (by k_asm) (by walk_at "mine_news") ⟨_, _, _, _, _, _, rfl, by assumption, by assumption, by omega, by omega, by first | assumption | omega, rfl⟩
    · exact hret _ _ _ _ (by k_asm) (by walk_at "mine_news") ⟨_, _, _, _, _, _, rfl, by assumption, by assumption, by omega, by omega, by first | assumption | omega, rfl⟩
theorem retD {k spot : Int} {pen cl : Addr} {np : Nat} {fz : Led} {G : Value → Led → Prop} (K : ∀ d t sp he u v, 0 ≤ d → d < k → spot ≤ sp → sp ≤ spot + 1 → 0 ≤ he → G (.int d t) ((pen, penObj cl sp he u v np) :: fz)) :
    Ret (fun v news' => ∃ d t' spot' held' t1' t2', v = .int d t' ∧ 0 ≤ d ∧ d < k ∧ spot ≤ spot' ∧ spot' ≤ spot + 1 ∧ 0 ≤ held' ∧ news' = (pen, penObj cl spot' held' t1' t2' np) :: fz) G := by
  rintro r nw ⟨d, t, sp, he, u, v, rfl, a, b, c, e, f, rfl⟩; exact K d t sp he u v a b c e f
theorem retP {ss : List Str} {spot : Int} {pen cl : Addr} {np : Nat} {fz : Led} {G : Value → Led → Prop} (K : ∀ x t sp he u v, x ∈ ss → spot ≤ sp → sp ≤ spot + 1 → 0 ≤ he → G (.str x t) ((pen, penObj cl sp he u v np) :: fz)) :
    Ret (fun v news' => ∃ x t' spot' held' t1' t2', v = .str x t' ∧ x ∈ ss ∧ spot ≤ spot' ∧ spot' ≤ spot + 1 ∧ 0 ≤ held' ∧ news' = (pen, penObj cl spot' held' t1' t2' np) :: fz) G := by
  rintro r nw ⟨d, t, sp, he, u, v, rfl, a, b, c, e, rfl⟩; exact K d t sp he u v a b c e
end
section
theorem words_L12 : True := by
  k_with "call ref" => ((k_here; (with_reducible show wpAny _ _ (call (Value.ref 118) [Value.ref _, Value.int _ _]) _ _ _); k_dflt (refine' Spec.useE (draw_spec _ _ _ _ _ _ _ _ _ _ _ _ _ _ _ ?h1 ?h2 ?h3 ?h4 ?h5 ?h6 ?h7 ?h8 ?h9) ?k1 ?k2 ?k3 ?k4 ?k5 ?kK ?kd ?ku ?_; (case k1 => k_asm); (case k2 => k_asm); (case k3 => k_asm); (case k4 => first | k_asm | exact news_pull1 (by k_asm) | exact news_pull2 (by k_asm) | exact news_pull3 (by k_asm) | exact news_pull4 (by k_asm) | exact news_pull5 (by k_asm) | exact news_pull6 (by k_asm) | exact news_pull7 (by k_asm) | exact news_pull8 (by k_asm)); (case k5 => k_asm); (case h1 => first | assumption | omega | k_mem | k_all | (repeat (first | exact StrsAre.nil | refine StrsAre.cons _ _ ?_)) | decide); (case h2 => first | assumption | omega | k_mem | k_all | (repeat (first | exact StrsAre.nil | refine StrsAre.cons _ _ ?_)) | decide); (case h3 => first | assumption | omega | k_mem | k_all | (repeat (first | exact StrsAre.nil | refine StrsAre.cons _ _ ?_)) | decide); (case h4 => first | assumption | omega | k_mem | k_all | (repeat (first | exact StrsAre.nil | refine StrsAre.cons _ _ ?_)) | decide); (case h5 => first | assumption | omega | k_mem | k_all | (repeat (first | exact StrsAre.nil | refine StrsAre.cons _ _ ?_)) | decide); (case h6 => first | assumption | omega | k_mem | k_all | (repeat (first | exact StrsAre.nil | refine StrsAre.cons _ _ ?_)) | decide); (case h7 => first | assumption | omega | k_mem | k_all | (repeat (first | exact StrsAre.nil | refine StrsAre.cons _ _ ?_)) | decide); (case h8 => first | assumption | omega | k_mem | k_all | (repeat (first | exact StrsAre.nil | refine StrsAre.cons _ _ ?_)) | decide); (case h9 => first | assumption | omega | k_mem | k_all | (repeat (first | exact StrsAre.nil | refine StrsAre.cons _ _ ?_)) | decide); (case kK => first | exact rfl | assumption); (case kd => ktr_room); (case ku => ktr_units)); intro h9z tk9z F9z; (refine retD (fun d9z t9z sp9z he9z u9z v9z dA9z dB9z sA9z sB9z hA9z N9z => ?_)); all_goals ((try dsimp only); (try k_fold))))
  k_with "subscriptTail Name Call ref int" => ((k_here; (with_reducible show wpAny _ _ (subscriptTail _ _ (Value.ref _) (Value.int _ _)) _ _ _); k_dflt (refine item_strsA (News.isList (by k_asm) (by k_mem)) (by assumption) (by omega) (by omega) (by omega) ?_); intro _))
  trivial
theorem getD_mem {α : Type} {l : List α} {i : Nat} {d : α} (h : i < l.length) : l.getD i d ∈ l := by
  rw [List.getD_eq_getElem?_getD, List.getElem?_eq_getElem h]; exact List.getElem_mem h
set_option maxHeartbeats 1000000 in
theorem pick_spec (prog : Program) (w : World) (fz : Led) (pen cl ls : Addr) (vs us : List Value) (ns : List Int) (ss : List Str) (nc nu np : Nat) (spot held : Int) (t1 t2 : Tok) (hcl : (cl, W.listOf vs.toArray nc) ∈ fz) (hfz : ∀ p ∈ fz, p.1 ≠ pen) (hi : IntsAre vs ns) (hn : ns.length ≤ 40) (s0 : 0 ≤ spot) (s1 : spot ≤ 200) (d0 : 0 ≤ held) (hls : (ls, W.listOf us.toArray nu) ∈ fz) (hus : StrsAre us ss) (k0 : 1 ≤ ss.length) (k1 : ss.length ≤ 200) :
    Spec prog w 125 14 [.ref pen, .ref ls] ((pen, penObj cl spot held t1 t2 np) :: fz) (fun v news' => ∃ x t' spot' held' t1' t2', v = .str x t' ∧ x ∈ ss ∧ spot ≤ spot' ∧ spot' ≤ spot + 1 ∧ 0 ≤ held' ∧ news' = (pen, penObj cl spot' held' t1' t2' np) :: fz) := by
  intro loose mean mg mb dp un gd cn cs a ccd cl' outer A₀ base h₀ L m s Q E B F X N T hk hd hu hret
  have hsz : us.toArray.size = ss.length := by rw [List.size_toArray, hus.len_eq]
  refine wpAny_call ?_
  k_dflt cell_enter
  k_steps
  exact hret _ _ _ _ (by k_asm) (by k_asm) ⟨_, _, _, _, _, _, rfl, getD_mem (by omega), by omega, by omega, by omega, rfl⟩
end
section
theorem words_L13 : True := by
  k_with "call builtin:list.append" => ((k_here; (with_reducible show wpAny _ _ (call (Value.builtin _) [Value.ref _, _]) _ _ _); k_dflt (refine' append_K ?k1 ?k2 ?k3 ?_ ?z; (case k1 => k_asm); (case k2 => k_asm); (case k3 => k_upd); (case z => (refine Nat.le_trans (m := 1000) (by first | omega | (simp only [List.size_toArray] at *; omega)) (by decide))); k_whole); intro h' F' N'; (try k_sweep)))
  k_with "call ref" => ((k_here; (with_reducible show wpAny _ _ (call (Value.ref 118) [Value.ref _, Value.int _ _]) _ _ _); k_dflt (refine' Spec.useE (draw_spec _ _ _ _ _ _ _ _ _ _ _ _ _ _ _ ?h1 ?h2 ?h3 ?h4 ?h5 ?h6 ?h7 ?h8 ?h9) ?k1 ?k2 ?k3 ?k4 ?k5 ?kK ?kd ?ku ?_; (case k1 => k_asm); (case k2 => k_asm); (case k3 => k_asm); (case k4 => first | k_asm | exact news_pull1 (by k_asm) | exact news_pull2 (by k_asm) | exact news_pull3 (by k_asm) | exact news_pull4 (by k_asm) | exact news_pull5 (by k_asm) | exact news_pull6 (by k_asm) | exact news_pull7 (by k_asm) | exact news_pull8 (by k_asm)); (case k5 => k_asm); (case h1 => first | assumption | omega | k_mem | k_all | decide | exact strs3 | exact strs6); (case h2 => first | assumption | omega | k_mem | k_all | decide | exact strs3 | exact strs6); (case h3 => first | assumption | omega | k_mem | k_all | decide | exact strs3 | exact strs6); (case h4 => first | assumption | omega | k_mem | k_all | decide | exact strs3 | exact strs6); (case h5 => first | assumption | omega | k_mem | k_all | decide | exact strs3 | exact strs6); (case h6 => first | assumption | omega | k_mem | k_all | decide | exact strs3 | exact strs6); (case h7 => first | assumption | omega | k_mem | k_all | decide | exact strs3 | exact strs6); (case h8 => first | assumption | omega | k_mem | k_all | decide | exact strs3 | exact strs6); (case h9 => first | assumption | omega | k_mem | k_all | decide | exact strs3 | exact strs6); (case kK => first | exact rfl | assumption); (case kd => ktr_room); (case ku => ktr_units)); intro h9z tk9z F9z; (refine retD (fun d9z t9z sp9z he9z u9z v9z dA9z dB9z sA9z sB9z hA9z N9z => ?_)); all_goals ((try dsimp only); (try k_fold))))
  k_with "call ref" => ((k_here; (with_reducible show wpAny _ _ (call (Value.ref 125) [Value.ref _, Value.ref _]) _ _ _); k_dflt (refine' Spec.useE (pick_spec _ _ _ _ _ _ _ _ _ _ _ _ _ _ _ _ _ ?h1 ?h2 ?h3 ?h4 ?h5 ?h6 ?h7 ?h8 ?h9 ?h10 ?h11) ?k1 ?k2 ?k3 ?k4 ?k5 ?kK ?kd ?ku ?_; (case k1 => k_asm); (case k2 => k_asm); (case k3 => k_asm); (case k4 => first | k_asm | exact news_pull1 (by k_asm) | exact news_pull2 (by k_asm) | exact news_pull3 (by k_asm) | exact news_pull4 (by k_asm) | exact news_pull5 (by k_asm) | exact news_pull6 (by k_asm) | exact news_pull7 (by k_asm) | exact news_pull8 (by k_asm)); (case k5 => k_asm); (case h1 => first | assumption | omega | k_mem | k_all | decide | exact strs3 | exact strs6); (case h2 => first | assumption | omega | k_mem | k_all | decide | exact strs3 | exact strs6); (case h3 => first | assumption | omega | k_mem | k_all | decide | exact strs3 | exact strs6); (case h4 => first | assumption | omega | k_mem | k_all | decide | exact strs3 | exact strs6); (case h5 => first | assumption | omega | k_mem | k_all | decide | exact strs3 | exact strs6); (case h6 => first | assumption | omega | k_mem | k_all | decide | exact strs3 | exact strs6); (case h7 => first | assumption | omega | k_mem | k_all | decide | exact strs3 | exact strs6); (case h8 => first | assumption | omega | k_mem | k_all | decide | exact strs3 | exact strs6); (case h9 => first | assumption | omega | k_mem | k_all | decide | exact strs3 | exact strs6); (case h10 => first | assumption | omega | k_mem | k_all | decide | exact strs3 | exact strs6); (case h11 => first | assumption | omega | k_mem | k_all | decide | exact strs3 | exact strs6); (case kK => first | exact rfl | assumption); (case kd => ktr_room); (case ku => ktr_units)); intro h9z tk9z F9z; (refine retP (fun x9z t9z sp9z he9z u9z v9z xm9z sA9z sB9z hA9z N9z => ?_)); all_goals ((try dsimp only); (try k_fold))))
  trivial
/-- what a drawn list of ranges is, its firsts below i -/
structure RsOk (i : Int) (rs : List Rng) : Prop where
  each : ∀ r ∈ rs, RngOk r ∧ r.first < i ∧ r.start ≤ 60
  sorted : rs.Pairwise (fun a b => a.first < b.first)
  few : rs.length ≤ 3
theorem RsOk.mono {i j : Int} {rs : List Rng} (h : RsOk i rs) (hij : i ≤ j) : RsOk j rs :=
  ⟨fun r hr => ⟨(h.each r hr).1, by have := (h.each r hr).2.1; omega, (h.each r hr).2.2⟩, h.sorted, h.few⟩
theorem RsOk.snoc {i j : Int} {rs : List Rng} {r : Rng} (h : RsOk i rs) (hr : RngOk r) (hf : r.first = i) (hs : r.start ≤ 60) (hl : (rs.length : Int) < 3) (hj : j = i + 1) : RsOk j (rs ++ [r]) := by
  subst hj
  refine ⟨fun x hx => ?_, ?_, by rw [List.length_append, List.length_singleton]; omega⟩
  · rcases List.mem_append.mp hx with hx | hx
    · have := h.each x hx
      exact ⟨this.1, by omega, this.2.2⟩
    · rw [List.mem_singleton.mp hx]
      exact ⟨hr, by omega, hs⟩
  · rw [List.pairwise_append]
    refine ⟨h.sorted, List.pairwise_singleton _ _, fun a ha b hb => ?_⟩
    rw [List.mem_singleton.mp hb, hf]
    exact (h.each a ha).2.1
theorem sty_of_mem {x : Str} (h : x ∈ [Str.ofString "D", Str.ofString "R", Str.ofString "r", Str.ofString "A", Str.ofString "a", Str.ofString ""]) : Sty x := by
  simp only [List.mem_cons, List.not_mem_nil, or_false] at h; exact h
theorem pre_of_mem {x : Str} (h : x ∈ [Str.ofString "", Str.ofString "A-", Str.ofString "i"]) : Pre x := by
  simp only [List.mem_cons, List.not_mem_nil, or_false] at h; exact h
def RngJ (fz : Led) (pen cl : Addr) (np : Nat) (spot : Int) (i : Nat) (mm : Str → Option Value) (nw : Led) : Prop :=
  ∃ Fd fz' rs its nF sp he u1 u2, nw = (Fd, W.listOf its nF) :: (pen, penObj cl sp he u1 u2 np) :: fz' ∧ Sub fz fz' ∧ (∀ p ∈ fz', p.1 ≠ pen) ∧ (∀ p ∈ fz', p.1 ≠ Fd) ∧ @Ne Nat Fd pen ∧ RngL fz' its.toList rs ∧ RsOk i rs ∧ spot ≤ sp ∧ sp ≤ spot + 4 * i ∧ 0 ≤ he ∧ mm (Str.ofString "found") = some (.ref Fd) ∧ mm (Str.ofString "pen") = some (.ref pen)
theorem ranges_fin {h₀ hh : Heap} {L I Fd T pen cl : Addr} {s : Shared} {Q : Flow → Shared → Prop} {it : Obj} {fz fz' : Led} {rs : List Rng} {its : Array Value} {nF nT np tk i : Nat} {spot sp sp0 he d : Int} {u v a1 a2 a3 a4 : Tok} {x y : Str} {f : Int} {q1 q2 : Addr × Obj} {m' : Str → Option Value}
    (F : Fr h₀ L hh m') (N : News h₀ L hh ((T, rngObj ⟨f, x, y, 1 + d⟩ nT a1 a2 a3 a4) :: (pen, penObj cl sp he u v np) :: q1 :: q2 :: (I, it) :: (Fd, W.listOf (its.push (.ref T)) (nF + 1)) :: fz'))
    (o1 : @LT.lt Nat _ pen T) (o2 : @LT.lt Nat _ I T) (o3 : @LT.lt Nat _ Fd T) (hf : f = i) (hi : i < 10)
    (hI1 : @Ne Nat Fd I) (hI2 : @Ne Nat pen I) (hI3 : ∀ p ∈ fz', p.1 ≠ I) (hsub : Sub fz fz') (hp1 : ∀ p ∈ fz', p.1 ≠ pen) (hp2 : ∀ p ∈ fz', p.1 ≠ Fd) (hFp : @Ne Nat Fd pen) (hRL : RngL fz' its.toList rs) (hok : RsOk i rs) (hl : (rs.length : Int) < 3)
    (hx : x ∈ [Str.ofString "D", Str.ofString "R", Str.ofString "r", Str.ofString "A", Str.ofString "a", Str.ofString ""]) (hy : y ∈ [Str.ofString "", Str.ofString "A-", Str.ofString "i"]) (d0 : 0 ≤ d) (d1 : d < 60)
    (sA : spot ≤ sp0) (sB : sp0 ≤ spot + 4 * i) (sC : sp0 ≤ sp) (sD : sp ≤ sp0 + 4) (hA : 0 ≤ he)
    (e1 : m' (Str.ofString "found") = some (.ref Fd)) (e2 : m' (Str.ofString "pen") = some (.ref pen)) :
    TurnEndL h₀ L s I (RngJ fz pen cl np spot (i + 1)) Q it .next { s with heap := hh, toks := tk } := by
  refine ⟨hh, tk, m', (Fd, W.listOf (its.push (.ref T)) (nF + 1)) :: (pen, penObj cl sp he u v np) :: (T, rngObj ⟨f, x, y, 1 + d⟩ nT a1 a2 a3 a4) :: fz', rfl, F, news_sub N ?_, ?_, Fd, (T, rngObj ⟨f, x, y, 1 + d⟩ nT a1 a2 a3 a4) :: fz', rs ++ [⟨f, x, y, 1 + d⟩], its.push (.ref T), nF + 1, sp, he, u, v, rfl, fun p hp => List.mem_cons_of_mem _ (hsub p hp), ?_, ?_, hFp, ?_, ?_, by omega, by omega, hA, e1, e2⟩
  · intro p hp
    simp only [List.mem_cons] at hp ⊢
    grind
  · intro p hp
    simp only [List.mem_cons] at hp
    rcases hp with rfl | rfl | rfl | hp
    · exact hI1
    · exact hI2
    · exact Nat.ne_of_gt o2
    · exact hI3 p hp
  · intro p hp
    rcases List.mem_cons.mp hp with rfl | hp
    · exact Nat.ne_of_gt o1
    · exact hp1 p hp
  · intro p hp
    rcases List.mem_cons.mp hp with rfl | hp
    · exact Nat.ne_of_gt o3
    · exact hp2 p hp
  · rw [Array.toList_push]
    exact (hRL.mono (fun p hp => List.mem_cons_of_mem _ hp)).append (.cons ⟨T, nT, a1, a2, a3, a4, rfl, List.mem_cons_self⟩ .nil)
  · subst hf
    exact hok.snoc ⟨by show (0 : Int) ≤ i; omega, by show (i : Int) ≤ 100; omega, sty_of_mem hx, pre_of_mem hy, by show (1 : Int) ≤ 1 + d; omega, by show (1 : Int) + d ≤ 200; omega⟩ rfl (by show (1 : Int) + d ≤ 60; omega) hl (by omega)
theorem ranges_fin0 {h₀ hh : Heap} {L I Fd pen cl : Addr} {s : Shared} {Q : Flow → Shared → Prop} {it : Obj} {fz fz' : Led} {rs : List Rng} {its : Array Value} {nF np tk i : Nat} {spot sp sp0 he : Int} {u v : Tok} {m' : Str → Option Value}
    (F : Fr h₀ L hh m') (N : News h₀ L hh ((I, it) :: (Fd, W.listOf its nF) :: (pen, penObj cl sp he u v np) :: fz'))
    (hI1 : @Ne Nat Fd I) (hI2 : @Ne Nat pen I) (hI3 : ∀ p ∈ fz', p.1 ≠ I) (hsub : Sub fz fz') (hp1 : ∀ p ∈ fz', p.1 ≠ pen) (hp2 : ∀ p ∈ fz', p.1 ≠ Fd) (hFp : @Ne Nat Fd pen) (hRL : RngL fz' its.toList rs) (hok : RsOk i rs)
    (sA : spot ≤ sp0) (sB : sp0 ≤ spot + 4 * i) (sC : sp0 ≤ sp) (sD : sp ≤ sp0 + 4) (hA : 0 ≤ he)
    (e1 : m' (Str.ofString "found") = some (.ref Fd)) (e2 : m' (Str.ofString "pen") = some (.ref pen)) :
    TurnEndL h₀ L s I (RngJ fz pen cl np spot (i + 1)) Q it .next { s with heap := hh, toks := tk } := by
  refine ⟨hh, tk, m', (Fd, W.listOf its nF) :: (pen, penObj cl sp he u v np) :: fz', rfl, F, N, ?_, Fd, fz', rs, its, nF, sp, he, u, v, rfl, hsub, hp1, hp2, hFp, hRL, hok.mono (by omega), by omega, by omega, hA, e1, e2⟩
  intro p hp
  simp only [List.mem_cons] at hp
  rcases hp with rfl | rfl | hp
  · exact hI1
  · exact hI2
  · exact hI3 p hp
set_option maxHeartbeats 1000000 in
theorem ranges_spec (prog : Program) (w : World) (fz : Led) (pen cl : Addr) (vs : List Value) (ns : List Int) (nc np : Nat) (spot held : Int) (t1 t2 : Tok) (n : Nat) (tn : Tok) (hcl : (cl, W.listOf vs.toArray nc) ∈ fz) (hfz : ∀ p ∈ fz, p.1 ≠ pen) (hi : IntsAre vs ns) (hn : ns.length ≤ 40) (s0 : 0 ≤ spot) (s1 : spot ≤ 100) (d0 : 0 ≤ held) (hnn : n ≤ 10) :
    Spec prog w 132 18 [.ref pen, .int n tn] ((pen, penObj cl spot held t1 t2 np) :: fz) (fun v news' => ∃ l rs fz' spot' held' t1' t2', v = .ref l ∧ news' = (pen, penObj cl spot' held' t1' t2' np) :: fz' ∧ Sub fz fz' ∧ (∀ p ∈ fz', p.1 ≠ pen) ∧ RngIn fz' l rs ∧ RsOk n rs ∧ spot ≤ spot' ∧ spot' ≤ spot + 4 * n ∧ 0 ≤ held') := by
  intro loose mean mg mb dp un gd cn cs a ccd cl' outer A₀ base h₀ L m s Q E B F X N T hk hd hu hret
  have hn' : n ≤ 100 := by omega
  refine wpAny_call ?_
  k_dflt cell_enter
  k_with "iter" => (refine iter_rangeTurns (n := n) (by rfl) (by k_asm) (by k_asm) (by assumption) (rng_small _ hn').1 (rng_small _ hn').2 (fun I lt => ?_))
  k_with "items" => (refine itemsRangeInv (RngJ fz pen cl np spot) (fun i mm nw h tk t9 it hi9 hit hJ hne F1 N1 => Hold.out ?turn) (fun mm nw h tk hJ F1 N1 => Hold.out ?done) (fun p hp => Nat.ne_of_lt (lt p hp)) ⟨_, fz, [], #[], 0, spot, held, t1, t2, rfl, (fun _ h => h), hfz, (fun p hp => Nat.ne_of_lt (ktn_ltOf (‹@LT.lt Nat _ pen _ ∧ AllLt _ fz›).2 p hp)), (by omega), .nil, ⟨(fun _ h => nomatch h), .nil, by decide⟩, by omega, by omega, d0, rfl, rfl⟩)
  k_steps
  case done =>
    obtain ⟨Fd, fz', rs, its, nF, sp, he, u1, u2, rfl, hsub, hp1, hp2, hFp, hRL, hok, sA, sB, hA, e1, e2⟩ := hJ
    have F2 := Fr.named2 F1 e1 e2
    clear F1
    refine Hold.put ?_
    k_steps
    refine hret _ ((pen, penObj cl sp he u1 u2 np) :: (Fd, W.listOf its nF) :: fz') _ _ (by k_asm) (by walk_at "mine_news") ⟨Fd, rs, _, sp, he, u1, u2, rfl, rfl, (fun p h => List.mem_cons_of_mem _ (hsub p h)), ?_, ⟨its.toList, nF, List.mem_cons_self, hRL.mono (fun p h => List.mem_cons_of_mem _ h)⟩, hok, sA, sB, hA⟩
    intro p hp
    rcases List.mem_cons.mp hp with rfl | hp
    · exact hFp
    · exact hp1 p hp
  case turn =>
    obtain ⟨Fd, fz', rs, its, nF, sp, he, u1, u2, rfl, hsub, hp1, hp2, hFp, hRL, hok, sA, sB, hA, e1, e2⟩ := hJ
    have F2 := Fr.named2 F1 e1 e2
    clear F1
    have hI1 : @Ne Nat Fd I := hne _ List.mem_cons_self
    have hI2 : @Ne Nat pen I := hne _ (List.mem_cons_of_mem _ List.mem_cons_self)
    have hI3 : ∀ p ∈ fz', p.1 ≠ I := fun p hp => hne p (List.mem_cons_of_mem _ (List.mem_cons_of_mem _ hp))
    have hsz : its.size = rs.length := by rw [← hRL.length]; simp
    have hfew := hok.few
    have hcl' : (cl, W.listOf vs.toArray nc) ∈ fz' := hsub _ hcl
    refine Hold.put ?_
    k_steps
    · have hN := ‹News _ _ _ ((_, { cls := .type "tuple", data := .seq #[.int _ _, .str _ _, .str _ _, .int (1 + _) _] }) :: _)›
      have hO := ‹@LT.lt Nat _ pen _ ∧ _ ∧ _ ∧ _ ∧ _ ∧ AllLt _ fz'›
      exact ranges_fin (by k_asm) hN (by omega) (by omega) (by omega) (by omega) (by omega) hI1 hI2 hI3 hsub hp1 hp2 hFp hRL hok (by assumption) (by assumption) (by assumption) (by omega) (by omega) sA sB (by omega) (by omega) (by assumption) rfl rfl
    · exact ranges_fin0 (by k_asm) (by walk_at "mine_news") hI1 hI2 hI3 hsub hp1 hp2 hFp hRL hok sA sB (by omega) (by omega) (by assumption) rfl rfl
    · exact ranges_fin0 (by k_asm) (by walk_at "mine_news") hI1 hI2 hI3 hsub hp1 hp2 hFp hRL hok sA sB (by omega) (by omega) (by assumption) rfl rfl
end
section
theorem words_L14 : True := by
  k_with "CompSrcT" => ((k_here; k_dflt (k_extra "csrcT")))
  k_with "exec Assign cons ListComp" => ((k_here; k_dflt (refine LCt.Assign_ListComp_T (F₀ := by k_asm) (by rfl) (by with_unfolding_all rfl) (by with_unfolding_all rfl) (by decide) (by rfl) (by decide) (by rfl) (by rfl) (by rfl) ?_)))
  trivial
def heldGo : List Rng → Int → Rng → Rng
  | [], _, h => h
  | x :: r, i, h => heldGo r i (if x.first ≤ i then x else h)
def laterOf (xs : List Rng) (i : Int) : List Rng := (xs.filter (fun x => decide (i < x.first))).map (fun x => ⟨x.first - i, x.sty, x.pre, x.start⟩)
def cutOf (xs : List Rng) (i : Int) : List Rng :=
  let h := heldGo xs i ⟨0, Str.ofString "D", Str.ofString "", 1⟩
  ⟨0, h.sty, h.pre, h.start + i - h.first⟩ :: laterOf xs i
theorem laterOf_snoc (xs : List Rng) (x : Rng) (i : Int) : laterOf (xs ++ [x]) i = laterOf xs i ++ (if i < x.first then [⟨x.first - i, x.sty, x.pre, x.start⟩] else []) := by
  unfold laterOf
  rw [List.filter_append, List.map_append]
  by_cases h : i < x.first <;> simp [h]
theorem laterOf_len (xs : List Rng) (i : Int) : (laterOf xs i).length ≤ xs.length := by
  unfold laterOf; rw [List.length_map]; exact List.length_filter_le _ _
theorem take_snoc {α : Type} {l : List α} {k : Nat} (h : k < l.length) : l.take (k + 1) = l.take k ++ [l[k]] := by
  rw [List.take_add_one, List.getElem?_eq_getElem h]; rfl
theorem comp_fin1 {h₀ hh : Heap} {L I C D T : Addr} {oI oC oD o : Obj} {m : Str → Option Value} {s : Shared} {nw : Led} {P : Led → Prop} {tk : Nat}
    (F : Fr h₀ L hh m) (N : News h₀ L hh ((T, o) :: (I, oI) :: (C, oC) :: (D, oD) :: nw)) (off : LCg.Off3 I C D nw) (ord : @LT.lt Nat _ I T ∧ @LT.lt Nat _ C T ∧ @LT.lt Nat _ D T ∧ AllLt T nw) (hP : P ((T, o) :: nw)) :
    CEndL h₀ L m s I oI C oC D oD P { s with heap := hh, toks := tk } := by
  refine ⟨hh, tk, (T, o) :: nw, rfl, F, news_sub N ?_, ?_, hP⟩
  · intro p hp
    simp only [List.mem_cons] at hp ⊢
    grind
  · exact ⟨⟨Nat.ne_of_gt ord.1, Nat.ne_of_gt ord.2.1, Nat.ne_of_gt ord.2.2.1⟩, off⟩
theorem comp_fin0 {h₀ hh : Heap} {L I C D : Addr} {oI oC oD : Obj} {m : Str → Option Value} {s : Shared} {nw : Led} {P : Led → Prop} {tk : Nat}
    (F : Fr h₀ L hh m) (N : News h₀ L hh ((I, oI) :: (C, oC) :: (D, oD) :: nw)) (off : LCg.Off3 I C D nw) (hP : P nw) :
    CEndL h₀ L m s I oI C oC D oD P { s with heap := hh, toks := tk } := ⟨hh, tk, nw, rfl, F, N, off, hP⟩
set_option maxHeartbeats 4000000 in
theorem cut_spec (prog : Program) (w : World) (news : Led) (l : Addr) (xs : List Rng) (i : Int) (t : Tok) (hl : RngIn news l xs) (hn : xs.length ≤ 10) :
    Spec prog w 137 5 [.ref l, .int i t] news (fun v news' => ∃ l', v = .ref l' ∧ Sub news news' ∧ RngIn news' l' (cutOf xs i)) := by
  intro loose mean mg mb dp un gd cn cs a ccd cl outer A₀ base h₀ L m s Q E B F X N T hk hd hu hret
  obtain ⟨vs, nv, hm, hR⟩ := hl
  have hlen := hR.length
  refine wpAny_call ?_
  k_dflt (walk_at "mine_enterC")
  k_with "iter" => (refine iter_listTurns (by rfl) (by k_asm) (by k_asm) (List.mem_cons_of_mem _ (List.mem_cons_of_mem _ hm)) (by rfl) (by rfl) (fun I lt => ?_))
  k_with "items" => (refine itemsFixL lt (subL1 (List.mem_cons_of_mem _ (List.mem_cons_of_mem _ hm))) (fun led r mm => ∃ ys f v, RngL news r ys ∧ RngV led v f ∧ mm (Str.ofString "held") = some v ∧ mm (Str.ofString "ranges") = some (.ref l) ∧ heldGo ys i f = heldGo xs i ⟨0, Str.ofString "D", Str.ofString "", 1⟩) (fun v r mm h tk it hit hJ F1 N1 => Hold.out ?turn) (fun mm h tk hJ F1 N1 => Hold.out ?done) ⟨xs, ⟨0, Str.ofString "D", Str.ofString "", 1⟩, _, hR, rngV_of (by k_mem), rfl, rfl, rfl⟩)
  k_steps
  case turn =>
    obtain ⟨ys, f, v', h1, h2, e1, e2, e⟩ := hJ
    cases h1 with | @cons _ x _ ys hv hL =>
    have hrv := hv
    obtain ⟨ad, nt, t1, t2, t3, t4, rfl, hmem⟩ := hv
    have F2 := Fr.named2 F1 e1 e2
    clear F1
    refine Hold.put ?_
    k_steps
    · have hle := ‹x.first ≤ i›
      exact ⟨_, _, _, rfl, by k_asm, by k_asm, ys, x, _, hL, hrv.mono (fun p hp => List.mem_cons_of_mem _ (List.mem_cons_of_mem _ hp)), rfl, rfl, by rw [← e, heldGo, if_pos hle]⟩
    · have hle := ‹¬ x.first ≤ i›
      exact ⟨_, _, _, rfl, by k_asm, by k_asm, ys, f, _, hL, h2, rfl, rfl, by rw [← e, heldGo, if_neg hle]⟩
  case done =>
    obtain ⟨ys, f, v', h1, h2, e1, e2, e⟩ := hJ
    cases h1
    have e : f = heldGo xs i ⟨0, Str.ofString "D", Str.ofString "", 1⟩ := e
    obtain ⟨ad, nt, t1, t2, t3, t4, rfl, hmem⟩ := h2
    have F2 := Fr.named2 F1 e1 e2
    clear F1
    k_with "csrcT" => (refine LCt.CompSrcT.ledger (by rfl) (by k_asm) (by k_asm) (List.mem_cons_of_mem _ (List.mem_cons_of_mem _ hm)) (by rw [List.size_toArray, hlen]; exact Nat.le_trans hn (by decide)) ?_; intro g9)
    k_with "compT" => (refine compT_invL (fun led k ys nw => Sub led nw ∧ RngL nw ys (laterOf (xs.take k) i)) ⟨(fun _ h => h), .nil⟩ (fun k ys nw hj => .inr ⟨_, hj.1 _ (List.mem_cons_of_mem _ (List.mem_cons_of_mem _ hm)), rfl, _, rfl⟩) (fun k v ys nw I oI C oC D m₂ h tk E' hi hv hj hC hx9 F1 N1 off ne => Hold.out ?cturn) (fun ys nw hj => Hold.out ?cfin))
    refine Hold.put ?_
    k_steps
    case cturn =>
      have hi' : k < xs.length := by rw [← hlen]; simpa using hi
      obtain ⟨v', hv', hrv⟩ := hR.at k (List.getElem?_eq_getElem hi')
      have hvv : vs[k]? = some v := by simpa using hv
      rw [hvv] at hv'
      obtain rfl : v = v' := Option.some.inj hv'
      generalize hxk : xs[k] = x at hrv
      obtain ⟨ad2, nt2, u1, u2, u3, u4, rfl, hm2⟩ := hrv
      have hm2' := hj.1 _ (List.mem_cons_of_mem _ (List.mem_cons_of_mem _ hm2))
      have hc2 := hj.1 _ (List.mem_cons_of_mem _ List.mem_cons_self)
      have hts : laterOf (xs.take (k+1)) i = _ := (congrArg (fun z => laterOf z i) (take_snoc hi')).trans (laterOf_snoc _ _ _)
      rw [hxk] at hts
      refine Hold.put ?_
      k_steps
      · have hle := ‹i < x.first›
        rw [if_pos hle] at hts
        refine comp_fin1 (by k_asm) (by k_asm) off ‹_› ⟨fun p hp => List.mem_cons_of_mem _ (hj.1 p hp), ?_⟩
        rw [hts]
        exact (hj.2.mono (fun p hp => List.mem_cons_of_mem _ hp)).append (.cons (rngV_of (by k_mem)) .nil)
      · have hle := ‹¬ i < x.first›
        rw [if_neg hle, List.append_nil] at hts
        refine comp_fin0 (by k_asm) (by k_asm) off ⟨hj.1, ?_⟩
        rw [hts]
        exact hj.2
    case cfin =>
      have hmem' := hj.1 _ hmem
      have hc2 := hj.1 _ (List.mem_cons_of_mem _ List.mem_cons_self)
      have hsz : ([Value.ref 0].length + ys.length) ≤ sizeLine := by
        have hyl := hj.2.length
        have hll := laterOf_len (xs.take vs.toArray.size) i
        rw [List.length_take] at hll
        refine Nat.le_trans (m := 1000) ?_ (by decide)
        show 1 + _ ≤ 1000
        omega
      have hjj : RngL nw ys (laterOf xs i) := by
        have hfin := hj.2
        rw [List.size_toArray, hlen, List.take_length] at hfin
        exact hfin
      refine Hold.put ?_
      k_with "add" => (refine add_listsE (vs := [_]) (ws := ys) (by k_asm) (by k_asm) (News.isList (by k_asm) (by k_mem)) (News.isList (by k_asm) (by k_mem)) hsz (fun EA hA ltA FA NA => ?_))
      k_steps
      have hc : cutOf xs i = ⟨0, f.sty, f.pre, f.start + i - f.first⟩ :: laterOf xs i := by unfold cutOf; rw [← e]
      refine hret _ _ _ _ (by k_asm) (by k_asm) ⟨_, rfl, fun p hp => List.mem_cons_of_mem _ (List.mem_cons_of_mem _ (List.mem_cons_of_mem _ (List.mem_cons_of_mem _ (hj.1 p (List.mem_cons_of_mem _ (List.mem_cons_of_mem _ hp)))))), ⟨[.ref _] ++ ys, 0, List.mem_cons_self, ?_⟩⟩
      rw [hc]
      exact RngL.append (.cons (rngV_of (by k_mem)) .nil) (hjj.mono (fun p hp => List.mem_cons_of_mem _ (List.mem_cons_of_mem _ (List.mem_cons_of_mem _ (List.mem_cons_of_mem _ hp)))))
end
section
theorem words_L15 : True := by
  k_with "compareOp Eq ref ref" => ((k_here; k_dflt (k_extra "eq")))
  k_with "subscriptTail Name Constant ref int" => ((k_here; (with_reducible show wpAny _ _ (subscriptTail _ _ (Value.ref _) (Value.int _ _)) _ _ _); k_dflt (refine' item_listL (News.isList ?n ?m) ?h0 ?hf ?ht ?_ ?hs ?hg; (case n => k_asm); (case m => k_mem); (case h0 => omega); (case hf => omega); (case ht => assumption); (case hs => with_unfolding_all rfl); (case hg => (intro _; with_unfolding_all rfl)); k_whole)))
  k_with "subscriptTail Name Constant ref int" => (walk_at "subscriptTail")
  k_with "exec Assign cons ListComp" => ((k_here; k_dflt (refine LCg.Assign_ListComp_U (F₀ := by k_asm) (by rfl) (by with_unfolding_all rfl) (by with_unfolding_all rfl) (by decide) (by rfl) (by decide) (by rfl) (by rfl) (by rfl) ?_)))
  trivial
theorem eq_nilC {prog : Program} {w : World} {A : Around} {E : Value → Shared → Prop} {s : Shared} {a b : Addr} {xs : List Value} {Q : Value → Shared → Prop} {c : Bool} (ha : s.heap.IsList a xs.toArray) (hb : s.heap.IsList b #[]) (hu : A.units + 64 < cLine) (hc : xs.isEmpty = c) (h : Q (.bool c) s) :
    wpAny (model prog w) A (compareOp .Eq (.ref a) (.ref b)) Q E s := by
  subst hc
  cases xs with
  | nil => exact PySem.SeqAt.eq_listAt (e := fun _ => true) ha hb rfl (by omega) (fun j h1 => absurd h1 (Nat.not_lt_zero _)) h
  | cons x r => exact PySem.SeqAt.eq_list_lengthsAt ha hb (by simp) (by omega) h
def movedOf (os : List Rng) (many : Int) : List Rng := os.map (fun x => ⟨x.first + many, x.sty, x.pre, x.start⟩)
def headOf (many : Int) : Rng := ⟨many, Str.ofString "D", Str.ofString "", 1⟩
def joinedOf (xs : List Rng) (many : Int) (os : List Rng) : List Rng :=
  xs ++ (match os with
    | [] => [headOf many]
    | x :: r => if x.first + many = many then movedOf (x :: r) many else headOf many :: movedOf (x :: r) many)
theorem movedOf_snoc (xs : List Rng) (x : Rng) (i : Int) : movedOf (xs ++ [x]) i = movedOf xs i ++ [⟨x.first + i, x.sty, x.pre, x.start⟩] := by
  unfold movedOf; rw [List.map_append]; rfl
theorem movedOf_len (xs : List Rng) (i : Int) : (movedOf xs i).length = xs.length := by
  unfold movedOf; rw [List.length_map]
set_option maxHeartbeats 4000000 in
theorem joined_spec (prog : Program) (w : World) (news : Led) (l o : Addr) (xs os : List Rng) (i : Int) (t : Tok) (hl : RngIn news l xs) (hn : xs.length ≤ 10) (ho : RngIn news o os) (hno : os.length ≤ 10) :
    Spec prog w 142 12 [.ref l, .int i t, .ref o] news (fun v news' => ∃ l', v = .ref l' ∧ Sub news news' ∧ RngIn news' l' (joinedOf xs i os)) := by
  intro loose mean mg mb dp un gd cn cs a ccd cl outer A₀ base h₀ L m s Q E B F X N T hk hd hu hret
  obtain ⟨vs, nv, hm, hR⟩ := hl
  obtain ⟨us, nu, hmo, hO⟩ := ho
  have hlen := hR.length
  have hleno := hO.length
  refine wpAny_call ?_
  k_dflt (walk_at "mine_enterC")
  k_with "csrc" => (refine LCg.CompSrc.ledger (by rfl) (by k_asm) (by k_asm) (List.mem_cons_of_mem _ hmo) (by rw [List.size_toArray, hleno]; exact Nat.le_trans hno (by decide)) ?_; intro g9)
  k_with "comp" => (refine compU_invL (fun led k ys nw => Sub led nw ∧ RngL nw ys (movedOf (os.take k) i)) ⟨(fun _ h => h), .nil⟩ (fun k ys nw hj => .inr ⟨_, hj.1 _ (List.mem_cons_of_mem _ hmo), rfl, _, rfl⟩) (fun k v ys nw I oI C oC D m₂ h tk E' hi hv hj hC hx9 F1 N1 off ne => Hold.out ?cturn) (fun ys nw hj => Hold.out ?cfin))
  k_steps
  case cturn =>
    have hi' : k < os.length := by rw [← hleno]; simpa using hi
    obtain ⟨v', hv', hrv⟩ := hO.at k (List.getElem?_eq_getElem hi')
    have hvv : us[k]? = some v := by simpa using hv
    rw [hvv] at hv'
    obtain rfl : v = v' := Option.some.inj hv'
    generalize hxk : os[k] = x at hrv
    obtain ⟨ad2, nt2, u1, u2, u3, u4, rfl, hm2⟩ := hrv
    have hm2' := hj.1 _ (List.mem_cons_of_mem _ hm2)
    have hc2 := hj.1 _ List.mem_cons_self
    have hts : movedOf (os.take (k+1)) i = _ := (congrArg (fun z => movedOf z i) (take_snoc hi')).trans (movedOf_snoc _ _ _)
    rw [hxk] at hts
    refine Hold.put ?_
    k_steps
    refine comp_fin1 (by k_asm) (by k_asm) off ‹_› ⟨fun p hp => List.mem_cons_of_mem _ (hj.1 p hp), ?_⟩
    rw [hts]
    exact (hj.2.mono (fun p hp => List.mem_cons_of_mem _ hp)).append (.cons (rngV_of (by k_mem)) .nil)
  case cfin =>
    have hc2 := hj.1 _ List.mem_cons_self
    have hm' := hj.1 _ (List.mem_cons_of_mem _ hm)
    have hjj : RngL nw ys (movedOf os i) := by
      have hfin := hj.2
      rw [List.size_toArray, hleno, List.take_length] at hfin
      exact hfin
    have hyl := hjj.length
    rw [movedOf_len] at hyl
    have hsz1 : ∀ z : Value, ([z].length + ys.length) ≤ sizeLine := fun z => Nat.le_trans (m := 1000) (by show 1 + _ ≤ 1000; omega) (by decide)
    have hsz2 : vs.length + ys.length ≤ sizeLine := Nat.le_trans (m := 1000) (by omega) (by decide)
    have hsz3 : ∀ z : Value, vs.length + ([z] ++ ys).length ≤ sizeLine := fun z => Nat.le_trans (m := 1000) (by rw [List.length_append]; show _ + (1 + _) ≤ 1000; omega) (by decide)
    have hsub : ∀ p ∈ news, p ∈ nw := fun p hp => hj.1 _ (List.mem_cons_of_mem _ hp)
    clear hO hmo hj
    cases os with
    | nil =>
      cases hjj
      have hnil : ([] : List Value).isEmpty = true := rfl
      refine Hold.put ?_
      k_with "eq" => (refine eq_nilC (xs := []) (News.isList (by k_asm) (by k_mem)) (News.isList (by k_asm) (by k_mem)) (by ktr_units) hnil ?_)
      k_with "add" => (first
        | refine add_listsE (vs := [_]) (ws := []) (by k_asm) (by k_asm) (News.isList (by k_asm) (by k_mem)) (News.isList (by k_asm) (by k_mem)) (by exact hsz1 _) (fun EA hA ltA FA NA => ?_)
        | refine add_listsE (vs := vs) (ws := [_] ++ []) (by k_asm) (by k_asm) (News.isList (by k_asm) (by k_mem)) (News.isList (by k_asm) (by k_mem)) (by exact hsz3 _) (fun EA hA ltA FA NA => ?_))
      k_steps
      refine hret _ _ _ _ (by k_asm) (by k_asm) ⟨_, rfl, (fun p hp => by (repeat (refine List.mem_cons_of_mem _ ?_)); exact hsub p hp), ⟨vs ++ ([_] ++ []), 0, List.mem_cons_self, ?_⟩⟩
      show RngL _ _ (xs ++ ([headOf i] ++ []))
      exact RngL.append (hR.mono (fun p hp => by (repeat (refine List.mem_cons_of_mem _ ?_)); exact hsub p hp)) (RngL.append (.cons (rngV_of (by k_mem)) .nil) .nil)
    | cons x r =>
      cases hjj with | @cons v0 _ ys _ hv0 hrest =>
      have hv0' := hv0
      obtain ⟨ad, nt, t1, t2, t3, t4, rfl, hmem⟩ := hv0
      have hget : (Value.ref ad :: ys)[0]? = some (Value.ref ad) := rfl
      have hcons : (Value.ref ad :: ys).isEmpty = false := rfl
      refine Hold.put ?_
      k_with "eq" => (refine eq_nilC (xs := _ :: ys) (News.isList (by k_asm) (by k_mem)) (News.isList (by k_asm) (by k_mem)) (by ktr_units) hcons ?_)
      k_with "add" => (first
        | refine add_listsE (vs := [_]) (ws := _ :: ys) (by k_asm) (by k_asm) (News.isList (by k_asm) (by k_mem)) (News.isList (by k_asm) (by k_mem)) (by exact hsz1 _) (fun EA hA ltA FA NA => ?_)
        | refine add_listsE (vs := vs) (ws := _ :: ys) (by k_asm) (by k_asm) (News.isList (by k_asm) (by k_mem)) (News.isList (by k_asm) (by k_mem)) (by exact hsz2) (fun EA hA ltA FA NA => ?_)
        | refine add_listsE (vs := vs) (ws := [_] ++ (_ :: ys)) (by k_asm) (by k_asm) (News.isList (by k_asm) (by k_mem)) (News.isList (by k_asm) (by k_mem)) (by exact hsz3 _) (fun EA hA ltA FA NA => ?_))
      k_steps
      · have hne : ¬ x.first + i = i := ‹_ ≠ i›
        have hc : joinedOf xs i (x :: r) = xs ++ ([headOf i] ++ movedOf (x :: r) i) := by
          show xs ++ (if _ then _ else _) = _
          rw [if_neg hne]; rfl
        refine hret _ _ _ _ (by k_asm) (by k_asm) ⟨_, rfl, (fun p hp => by (repeat (refine List.mem_cons_of_mem _ ?_)); exact hsub p hp), ⟨vs ++ ([_] ++ (_ :: ys)), 0, List.mem_cons_self, ?_⟩⟩
        rw [hc]
        exact RngL.append (hR.mono (fun p hp => by (repeat (refine List.mem_cons_of_mem _ ?_)); exact hsub p hp)) (RngL.append (.cons (rngV_of (by k_mem)) .nil) (RngL.mono (fun p hp => by (repeat (refine List.mem_cons_of_mem _ ?_)); exact hp) (.cons hv0' hrest)))
      · have he : x.first + i = i := by first | assumption | exact Classical.not_not.mp (by assumption) | omega
        have hc : joinedOf xs i (x :: r) = xs ++ movedOf (x :: r) i := by
          show xs ++ (if _ then _ else _) = _
          rw [if_pos he]
        refine hret _ _ _ _ (by k_asm) (by k_asm) ⟨_, rfl, (fun p hp => by (repeat (refine List.mem_cons_of_mem _ ?_)); exact hsub p hp), ⟨vs ++ (_ :: ys), 0, List.mem_cons_self, ?_⟩⟩
        rw [hc]
        exact RngL.append (hR.mono (fun p hp => by (repeat (refine List.mem_cons_of_mem _ ?_)); exact hsub p hp)) (RngL.mono (fun p hp => by (repeat (refine List.mem_cons_of_mem _ ?_)); exact hp) (.cons hv0' hrest))
end
section
/-! the plain law, 1: what is shown is read back -/
theorem fwdD : (List.range 100).all (fun k => readFigS (Str.ofString (toString ((k : Int) + 1))) == some ((k : Int) + 1)) = true := by decide +kernel
theorem fwdR : (List.range 100).all (fun k => readRomanS (romanS ((k : Int) + 1)) == some ((k : Int) + 1)) = true := by decide +kernel
theorem fwdA : (List.range 100).all (fun k => readLettersS (lettersS ((k : Int) + 1)) == some ((k : Int) + 1)) = true := by decide +kernel
theorem fwdRu : (List.range 100).all (fun k => Txt.upper (Txt.lower (romanS ((k : Int) + 1))) == romanS ((k : Int) + 1)) = true := by decide +kernel
theorem fwdAu : (List.range 100).all (fun k => Txt.upper (Txt.lower (lettersS ((k : Int) + 1))) == lettersS ((k : Int) + 1)) = true := by decide +kernel
theorem all100 {p : Int → Bool} (h : (List.range 100).all (fun k => p ((k : Int) + 1)) = true) {n : Int} (h1 : 1 ≤ n) (h2 : n ≤ 100) : p n = true := by
  rw [List.all_eq_true] at h
  have := h (n - 1).toNat (List.mem_range.mpr (by omega))
  rw [show (((n - 1).toNat : Nat) : Int) + 1 = n by omega] at this
  exact this
theorem read_of_shown {y : Str} {n : Int} (hy : Sty y) (h0 : y ≠ Str.ofString "") (h1 : 1 ≤ n) (h2 : n ≤ 100) : readShownS y (shownS y n) = some n := by
  rcases hy with rfl | rfl | rfl | rfl | rfl | rfl
  · exact eq_of_beq (all100 (p := fun n => readFigS (Str.ofString (toString n)) == some n) fwdD h1 h2)
  · exact eq_of_beq (all100 (p := fun n => readRomanS (romanS n) == some n) fwdR h1 h2)
  · have e : Txt.upper (Txt.lower (romanS n)) = romanS n := eq_of_beq (all100 (p := fun n => Txt.upper (Txt.lower (romanS n)) == romanS n) fwdRu h1 h2)
    show readShownS (Str.ofString "r") (Txt.lower (romanS n)) = _
    rw [readShown_r (by rw [e]; simp), e]
    exact eq_of_beq (all100 (p := fun n => readRomanS (romanS n) == some n) fwdR h1 h2)
  · exact eq_of_beq (all100 (p := fun n => readLettersS (lettersS n) == some n) fwdA h1 h2)
  · have e : Txt.upper (Txt.lower (lettersS n)) = lettersS n := eq_of_beq (all100 (p := fun n => Txt.upper (Txt.lower (lettersS n)) == lettersS n) fwdAu h1 h2)
    show readShownS (Str.ofString "a") (Txt.lower (lettersS n)) = _
    rw [readShown_a (by rw [e]; simp), e]
    exact eq_of_beq (all100 (p := fun n => readLettersS (lettersS n) == some n) fwdA h1 h2)
  · exact absurd rfl h0
theorem str_ext {a b : Str} (h : a.cps.toList = b.cps.toList) : a = b := by
  cases a; cases b; exact congrArg Str.mk (Array.toList_inj.mp h)
theorem ofNat_digit {c : Nat} (h : 48 ≤ c ∧ c ≤ 57) : (Char.ofNat c).toNat = c := by
  have : ∀ d : Nat, d < 10 → (Char.ofNat (48 + d)).toNat = 48 + d := by decide
  have e := this (c - 48) (by omega)
  rw [show 48 + (c - 48) = c by omega] at e
  exact e
theorem fig_back {x : Str} {n : Int} (h : readFigS x = some n) : Str.ofString (toString n) = x := by
  unfold readFigS at h
  split at h
  · cases h
  · rename_i hc
    injection h with h
    subst h
    simp only [not_or, Bool.not_eq_true, Bool.not_eq_false] at hc
    obtain ⟨h1, h2, h3, h4⟩ := hc
    have hd : NumText.AllDigits x.cps.toList := by
      intro c hcm
      unfold digitsOnly at h4
      rw [List.all_eq_true] at h4
      simpa using h4 c hcm
    cases hl : x.cps.toList with
    | nil =>
      exfalso
      have : x = Str.ofString "" := str_ext (by rw [hl]; rfl)
      rw [this] at h1; exact absurd h1 (by decide)
    | cons c r =>
      rw [hl] at hd
      have hc49 : 49 ≤ c := by
        have := hd.head
        rcases Nat.eq_or_lt_of_le this.1 with e | e
        · exfalso
          subst e
          have hx : x.cps = (48 :: r).toArray := by rw [← hl]
          have : Txt.item x 0 = Str.ofString "0" := by
            cases x with | mk cps =>
            have hx : cps = (48 :: r).toArray := hx
            subst hx
            have hs : (⟨(48 :: r).toArray⟩ : Str).length = r.length + 1 := by show (48 :: r).toArray.size = _; simp
            unfold Txt.item Txt.charAt
            rw [hs]
            have : seqIndex? 0 (r.length + 1) = some 0 := by
              unfold seqIndex?
              simp
            rw [this]
            simp
            rfl
          rw [this] at h2; exact absurd h2 (by decide)
        · exact e
      have e := NumText.toDigits_digitsVal r.length (c :: r) rfl hd (.inr ⟨c, r, rfl, hc49⟩)
      refine str_ext ?_
      rw [KIN.signs_num, e, hl, List.map_map]
      conv => rhs; rw [← List.map_id (c :: r)]
      exact List.map_congr_left fun d hdm => ofNat_digit (hd d hdm)
theorem rom_back {x : Str} {n : Int} (h : readRomanS x = some n) : romanS n = x := by
  unfold readRomanS at h
  generalize rrTotal x = T at h
  by_cases hc : 0 < T ∧ romanS T = x
  · rw [if_pos hc] at h
    have h := Option.some.inj h
    rw [← h]; exact hc.2
  · rw [if_neg hc] at h; exact absurd h (by intro c; cases c)
theorem find_alpha : ∀ c ∈ (Str.ofString "ABCDEFGHIJKLMNOPQRSTUVWXYZ").cps.toList, 0 ≤ Txt.find (Str.ofString "ABCDEFGHIJKLMNOPQRSTUVWXYZ") ⟨#[c]⟩ ∧ Txt.find (Str.ofString "ABCDEFGHIJKLMNOPQRSTUVWXYZ") ⟨#[c]⟩ < 26 ∧ Txt.item (Str.ofString "ABCDEFGHIJKLMNOPQRSTUVWXYZ") (Txt.find (Str.ofString "ABCDEFGHIJKLMNOPQRSTUVWXYZ") ⟨#[c]⟩) = ⟨#[c]⟩ := by decide +kernel
theorem let_back {x : Str} {n : Int} (h : readLettersS x = some n) : lettersS n = x := by
  unfold readLettersS at h
  split at h
  · cases h
  · rename_i hc
    injection h with h
    simp only [not_or, Bool.not_eq_true, Bool.not_eq_false] at hc
    obtain ⟨h1, h2, h3⟩ := hc
    have h3 : x = Txt.mul (Txt.item x 0) x.length := by simpa using h3
    have hx0 : x.length ≠ 0 := by
      intro e
      have : x = Str.ofString "" := str_ext (by
        have : x.cps.toList.length = 0 := by rw [Array.length_toList]; exact e
        rw [List.eq_nil_of_length_eq_zero this]; rfl)
      rw [this] at h1; exact absurd h1 (by decide)
    unfold Txt.contains Txt.item at h2
    rw [StrLaws.found_one] at h2
    have hm := of_decide_eq_true h2
    have hf := find_alpha _ hm
    have hi : (⟨#[(Txt.charAt x 0).getD 0]⟩ : Str) = Txt.item x 0 := rfl
    rw [hi] at hf
    obtain ⟨f0, f1, f2⟩ := hf
    generalize Txt.find (Str.ofString "ABCDEFGHIJKLMNOPQRSTUVWXYZ") (Txt.item x 0) = f at h f0 f1 f2
    unfold lettersS
    have e1 : (n - 1).fmod 26 = f := by rw [Int.fmod_eq_emod_of_nonneg _ (by decide)]; omega
    have e2 : (n - 1).fdiv 26 + 1 = x.length := by rw [Int.fdiv_eq_ediv_of_nonneg _ (by decide)]; omega
    rw [e1, e2, f2, ← h3]
theorem shown_of_read {y x : Str} {n : Int} (hy : Sty y) (h0 : y ≠ Str.ofString "") (h : readShownS y x = some n) : shownS y n = x := by
  rcases hy with rfl | rfl | rfl | rfl | rfl | rfl
  · exact fig_back h
  · exact rom_back h
  · cases hb : (Txt.lower (Txt.upper x) != x) with
    | true => rw [readShown_low (.inl rfl) hb] at h; cases h
    | false =>
      rw [readShown_r hb] at h
      show Txt.lower (romanS n) = x
      rw [rom_back h]; simpa using hb
  · exact let_back h
  · cases hb : (Txt.lower (Txt.upper x) != x) with
    | true => rw [readShown_low (.inr rfl) hb] at h; cases h
    | false =>
      rw [readShown_a hb] at h
      show Txt.lower (lettersS n) = x
      rw [let_back h]; simpa using hb
  · exact absurd rfl h0
/-- a prefix taken off -/
theorem slice_from_list {x : Str} {a : Nat} (h : a ≤ x.length) : (Txt.slice x (some (a : Int)) none).cps.toList = x.cps.toList.drop a := by
  have e := eq_of_beq (slice_closes_fromL (x := x) (i := a) (b := x.length) (by omega) (by omega) rfl)
  rw [e]
  show List.take _ _ = _
  rw [show ((a : Int).toNat) = a by omega, List.take_of_length_le]
  rw [List.length_drop]
  have : x.cps.toList.length = x.length := Array.length_toList
  omega
theorem slice_app (p s : Str) : Txt.slice (p ++ s) (some (p.length : Int)) none = s := by
  refine str_ext ?_
  rw [slice_from_list (by rw [Str.length_append]; omega), KT.app_list]
  have : p.cps.toList.length = p.length := Array.length_toList
  rw [← this, List.drop_left]
theorem starts_split {x p : Str} (h : Txt.startswith x p = true) : x = p ++ Txt.slice x (some (p.length : Int)) none := by
  unfold Txt.startswith at h
  simp only [Bool.and_eq_true, decide_eq_true_eq] at h
  refine str_ext ?_
  rw [KT.app_list, slice_from_list (by omega)]
  have h2 := h.2
  rw [StrLaws.subAt_eq, List.drop_zero, beq_iff_eq] at h2
  rw [← h2, List.take_append_drop]
end
section
/-! the plain law, 2: labels by the range that holds them -/
def lab (r : Rng) (i : Int) : Str := r.pre ++ shownS r.sty (r.start + i - r.first)
theorem rangeAt_getD : ∀ (xs : List Rng) (i : Int) (f : Option Rng) (h : Rng), (rangeAt xs i f).getD h = heldGo xs i (f.getD h)
  | [], _, _, _ => rfl
  | x :: r, i, f, h => by
    rw [rangeAt, heldGo, rangeAt_getD r]
    by_cases c : x.first ≤ i
    · rw [if_pos c, if_pos c]; rfl
    · rw [if_neg c, if_neg c]
theorem emp_app (s : Str) : Str.ofString "" ++ s = s := str_ext (by rw [KT.app_list]; rfl)
theorem lab_rng0 (i : Int) : lab rng0 i = Str.ofString (toString (i + 1)) := by
  show Str.ofString "" ++ Str.ofString (toString (1 + i - 0)) = _
  rw [emp_app, show 1 + i - 0 = i + 1 by omega]
theorem labelOf_held (xs : List Rng) (i : Int) : labelOf xs i = lab (heldGo xs i rng0) i := by
  have e := rangeAt_getD xs i none rng0
  rw [Option.getD_none] at e
  rw [← e]
  cases h : rangeAt xs i none with
  | none => rw [labelOf_none h]; exact (lab_rng0 i).symm
  | some x => rw [labelOf_some h]; rfl
theorem held_append : ∀ (a b : List Rng) (i : Int) (h : Rng), heldGo (a ++ b) i h = heldGo b i (heldGo a i h)
  | [], _, _, _ => rfl
  | x :: a, b, i, h => held_append a b i _
theorem held_none : ∀ (b : List Rng) (i : Int) (h : Rng), (∀ r ∈ b, i < r.first) → heldGo b i h = h
  | [], _, _, _ => rfl
  | x :: b, i, h, hb => by
    rw [heldGo, if_neg (by have := hb x (.head _); omega)]
    exact held_none b i h fun r hr => hb r (.tail _ hr)
/-! the cut -/
theorem held_shift (a i : Int) : ∀ (ys : List Rng) (h h' : Rng), lab h i = lab h' (i + a) → lab (heldGo (ys.map (fun x => ⟨x.first - a, x.sty, x.pre, x.start⟩)) i h) i = lab (heldGo ys (i + a) h') (i + a)
  | [], _, _, e => e
  | x :: ys, h, h', e => by
    rw [List.map_cons, heldGo, heldGo]
    refine held_shift a i ys _ _ ?_
    by_cases c : x.first ≤ i + a
    · rw [if_pos (show x.first - a ≤ i by omega), if_pos c]
      unfold lab
      rw [show x.start + i - (x.first - a) = x.start + (i + a) - x.first by omega]
    · rw [if_neg (show ¬ x.first - a ≤ i by omega), if_neg c]; exact e
def shiftTo (a : Int) (h : Rng) : Rng := ⟨0, h.sty, h.pre, h.start + a - h.first⟩
theorem cut_lab (a i : Int) (hi : 0 ≤ i) : ∀ (xs : List Rng) (h : Rng), xs.Pairwise (fun x y => x.first < y.first) → lab (heldGo (laterOf xs a) i (shiftTo a (heldGo xs a h))) i = lab (heldGo xs (i + a) h) (i + a)
  | [], h, _ => by
    show lab (shiftTo a h) i = lab h (i + a)
    unfold lab shiftTo
    rw [show h.start + a - h.first + i - 0 = h.start + (i + a) - h.first by omega]
  | x :: xs, h, hs => by
    rw [List.pairwise_cons] at hs
    by_cases c : x.first ≤ a
    · have e : laterOf (x :: xs) a = laterOf xs a := by
        unfold laterOf; rw [List.filter_cons_of_neg (by simpa using c)]
      rw [e, heldGo, heldGo, if_pos c, if_pos (by omega)]
      exact cut_lab a i hi xs x hs.2
    · have hn : ∀ r ∈ x :: xs, a < r.first := by
        intro r hr
        rcases List.mem_cons.mp hr with rfl | hr
        · omega
        · have := hs.1 r hr; omega
      rw [held_none _ _ _ hn]
      have e : laterOf (x :: xs) a = (x :: xs).map (fun x => ⟨x.first - a, x.sty, x.pre, x.start⟩) := by
        unfold laterOf
        rw [List.filter_eq_self.mpr (by intro r hr; simpa using hn r hr)]
      rw [e]
      refine held_shift a i _ _ _ ?_
      unfold lab shiftTo
      rw [show h.start + a - h.first + i - 0 = h.start + (i + a) - h.first by omega]
theorem cut_label {xs : List Rng} {a i : Int} (hi : 0 ≤ i) (hs : xs.Pairwise (fun x y => x.first < y.first)) : labelOf (cutOf xs a) i = labelOf xs (i + a) := by
  rw [labelOf_held, labelOf_held, ← cut_lab a i hi xs rng0 hs]
  show lab (heldGo (shiftTo a (heldGo xs a rng0) :: laterOf xs a) i rng0) i = _
  rw [heldGo, if_pos (show (shiftTo a (heldGo xs a rng0)).first ≤ i from hi)]
theorem cut_labels {xs : List Rng} {a c : Int} (h0 : 0 ≤ a) (h1 : a ≤ c) (hs : xs.Pairwise (fun x y => x.first < y.first)) : labelsOf (cutOf xs a) (c - a).toNat = (labelsOf xs c.toNat).drop a.toNat := by
  unfold labelsOf
  refine List.ext_getElem (by simp; omega) fun n h2 h3 => ?_
  simp only [List.getElem_map, List.getElem_range, List.getElem_drop]
  rw [cut_label (by omega) hs]
  congr 1
  omega
/-! the joined -/
theorem held_moved (m j : Int) : ∀ (ys : List Rng) (h h' : Rng), lab h (m + j) = lab h' j → lab (heldGo (movedOf ys m) (m + j) h) (m + j) = lab (heldGo ys j h') j
  | [], _, _, e => e
  | x :: ys, h, h', e => by
    show lab (heldGo (⟨x.first + m, x.sty, x.pre, x.start⟩ :: movedOf ys m) (m + j) h) (m + j) = _
    rw [heldGo, heldGo]
    refine held_moved m j ys _ _ ?_
    by_cases c : x.first ≤ j
    · rw [if_pos (show x.first + m ≤ m + j by omega), if_pos c]
      unfold lab
      rw [show x.start + (m + j) - (x.first + m) = x.start + j - x.first by omega]
    · rw [if_neg (show ¬ x.first + m ≤ m + j by omega), if_neg c]; exact e
theorem head_lab (m j : Int) : lab (headOf m) (m + j) = lab rng0 j := by
  show Str.ofString "" ++ shownS (Str.ofString "D") (1 + (m + j) - m) = Str.ofString "" ++ shownS (Str.ofString "D") (1 + j - 0)
  rw [show 1 + (m + j) - m = 1 + j - 0 by omega]
theorem joined_label2 {xs os : List Rng} {m j : Int} (hj : 0 ≤ j) : labelOf (joinedOf xs m os) (m + j) = labelOf os j := by
  rw [labelOf_held, labelOf_held]
  unfold joinedOf
  rw [held_append]
  cases os with
  | nil =>
    show lab (heldGo [headOf m] (m + j) _) (m + j) = lab rng0 j
    rw [heldGo, if_pos (show (headOf m).first ≤ m + j by show m ≤ m + j; omega)]
    exact head_lab m j
  | cons x r =>
    show lab (heldGo (if x.first + m = m then movedOf (x :: r) m else headOf m :: movedOf (x :: r) m) (m + j) _) (m + j) = _
    by_cases c : x.first + m = m
    · rw [if_pos c]
      show lab (heldGo (⟨x.first + m, x.sty, x.pre, x.start⟩ :: movedOf r m) (m + j) _) (m + j) = _
      rw [heldGo, heldGo, if_pos (show x.first + m ≤ m + j by omega), if_pos (show x.first ≤ j by omega)]
      refine held_moved m j r _ _ ?_
      unfold lab
      rw [show x.start + (m + j) - (x.first + m) = x.start + j - x.first by omega]
    · rw [if_neg c, heldGo, if_pos (show (headOf m).first ≤ m + j by show m ≤ m + j; omega)]
      exact held_moved m j (x :: r) _ _ (head_lab m j)
/-- what stands behind the first ones -/
def tailOf (m : Int) (os : List Rng) : List Rng := match os with
    | [] => [headOf m]
    | x :: r => if x.first + m = m then movedOf (x :: r) m else headOf m :: movedOf (x :: r) m
theorem joined_tail (xs : List Rng) (m : Int) (os : List Rng) : joinedOf xs m os = xs ++ tailOf m os := rfl
theorem moved_mem {os : List Rng} {m : Int} {r : Rng} (h : r ∈ movedOf os m) : ∃ x ∈ os, r = ⟨x.first + m, x.sty, x.pre, x.start⟩ := by
  unfold movedOf at h
  obtain ⟨x, hx, e⟩ := List.mem_map.mp h
  exact ⟨x, hx, e.symm⟩
theorem tail_mem {os : List Rng} {m : Int} {r : Rng} (h : r ∈ tailOf m os) : r = headOf m ∨ ∃ x ∈ os, r = ⟨x.first + m, x.sty, x.pre, x.start⟩ := by
  cases os with
  | nil => exact .inl (List.mem_singleton.mp h)
  | cons x r' =>
    have h : r ∈ (if x.first + m = m then movedOf (x :: r') m else headOf m :: movedOf (x :: r') m) := h
    by_cases c : x.first + m = m
    · rw [if_pos c] at h; exact .inr (moved_mem h)
    · rw [if_neg c] at h
      rcases List.mem_cons.mp h with h | h
      · exact .inl h
      · exact .inr (moved_mem h)
theorem joined_label1 {xs os : List Rng} {m i : Int} (hi : i < m) (ho : ∀ r ∈ os, 0 ≤ r.first) : labelOf (joinedOf xs m os) i = labelOf xs i := by
  rw [labelOf_held, labelOf_held, joined_tail, held_append, held_none (tailOf m os)]
  intro r hr
  rcases tail_mem hr with rfl | ⟨x, hx, rfl⟩
  · exact hi
  · have := ho x hx
    show i < x.first + m
    omega
theorem joined_labels {xs os : List Rng} {m n : Int} (hm : 0 ≤ m) (hn : 0 ≤ n) (ho : ∀ r ∈ os, 0 ≤ r.first) : labelsOf (joinedOf xs m os) (m + n).toNat = labelsOf xs m.toNat ++ labelsOf os n.toNat := by
  unfold labelsOf
  rw [show (m + n).toNat = m.toNat + n.toNat by omega, List.range_add, List.map_append, List.map_map]
  congr 1
  · refine List.map_congr_left fun i hi => ?_
    rw [List.mem_range] at hi
    exact joined_label1 (by omega) ho
  · refine List.map_congr_left fun i hi => ?_
    show labelOf (joinedOf xs m os) ((m.toNat + i : Nat) : Int) = labelOf os i
    rw [show ((m.toNat + i : Nat) : Int) = m + (i : Int) by omega]
    exact joined_label2 (by omega)
/-! the first place of a text -/
def IsFirst (L : Int → Str) (a b : Int) (x : Str) (k : Int) : Prop :=
  (k = -1 ∧ ∀ j, a ≤ j → j < b → L j ≠ x) ∨ (a ≤ k ∧ k < b ∧ L k = x ∧ ∀ j, a ≤ j → j < k → L j ≠ x)
theorem IsFirst.congr {L L' : Int → Str} {a b : Int} {x : Str} {k : Int} (h : IsFirst L a b x k) (e : ∀ j, a ≤ j → j < b → L j = L' j) : IsFirst L' a b x k := by
  rcases h with ⟨h1, h2⟩ | ⟨h1, h2, h3, h4⟩
  · exact .inl ⟨h1, fun j h0 h3 => e j h0 h3 ▸ h2 j h0 h3⟩
  · exact .inr ⟨h1, h2, e k h1 h2 ▸ h3, fun j h0 h5 => e j h0 (by omega) ▸ h4 j h0 h5⟩
theorem IsFirst.join {L : Int → Str} {a b c : Int} {x : Str} {k l : Int} (h0 : 0 ≤ a) (hab : a ≤ b) (hbc : b ≤ c) (h : IsFirst L a b x k) (g : IsFirst L b c x l) : IsFirst L a c x (if k = -1 then l else k) := by
  rcases h with ⟨h1, h2⟩ | ⟨h1, h2, h3, h4⟩
  · rw [if_pos h1]
    rcases g with ⟨g1, g2⟩ | ⟨g1, g2, g3, g4⟩
    · refine .inl ⟨g1, fun j j0 j1 => ?_⟩
      rcases Int.lt_or_le j b with hj | hj
      · exact h2 j j0 hj
      · exact g2 j hj j1
    · refine .inr ⟨by omega, g2, g3, fun j j0 j1 => ?_⟩
      rcases Int.lt_or_le j b with hj | hj
      · exact h2 j j0 hj
      · exact g4 j hj j1
  · rw [if_neg (by omega)]
    exact .inr ⟨h1, by omega, h3, h4⟩
theorem indexIn_first {r : Rng} {e : Int} {x : Str} (hok : RngOk r) (hs : r.start ≤ 60) (he : e ≤ 40) : IsFirst (lab r) r.first e x (indexIn r e x) := by
  obtain ⟨f0, f1, hsty, hpre, s0, s1⟩ := hok
  unfold indexIn
  by_cases c1 : r.first ≥ e ∨ Txt.startswith x r.pre = false
  · rw [if_pos c1]
    refine .inl ⟨rfl, fun j j0 j1 hx => ?_⟩
    rcases c1 with c1 | c1
    · omega
    · rw [← hx, lab, KT.starts_app] at c1; cases c1
  · rw [if_neg c1]
    have c2 : Txt.startswith x r.pre = true := by
      cases h : Txt.startswith x r.pre with
      | true => rfl
      | false => exact absurd (.inr h) c1
    have hsp := starts_split c2
    have hfe : r.first < e := by
      rcases Int.lt_or_le r.first e with h | h
      · exact h
      · exact absurd (.inl h) c1
    have key : ∀ j, lab r j = x → shownS r.sty (r.start + j - r.first) = Txt.slice x (some (r.pre.length : Int)) none := by
      intro j hj
      rw [← hj, lab, slice_app]
    by_cases c3 : r.sty = Str.ofString ""
    · rw [if_pos c3]
      have hsh : ∀ n, shownS r.sty n = Str.ofString "" := fun n => by rw [c3]; rfl
      by_cases c4 : Txt.slice x (some (r.pre.length : Int)) none = Str.ofString ""
      · rw [if_pos c4]
        refine .inr ⟨Int.le_refl _, hfe, ?_, fun j j0 j1 => by omega⟩
        rw [lab, hsh, ← c4, ← hsp]
      · rw [if_neg c4]
        refine .inl ⟨rfl, fun j j0 j1 hx => c4 ?_⟩
        rw [← key j hx, hsh]
    · rw [if_neg c3]
      cases hr : readShownS r.sty (Txt.slice x (some (r.pre.length : Int)) none) with
      | none =>
        refine .inl ⟨rfl, fun j j0 j1 hx => ?_⟩
        rw [← key j hx, read_of_shown hsty c3 (by omega) (by omega)] at hr
        cases hr
      | some n =>
        have hb := shown_of_read hsty c3 hr
        have uniq : ∀ j, r.first ≤ j → j < e → lab r j = x → r.start + j - r.first = n := by
          intro j j0 j1 hx
          rw [← key j hx, read_of_shown hsty c3 (by omega) (by omega)] at hr
          exact Option.some.inj hr
        show IsFirst (lab r) r.first e x (if r.start ≤ n ∧ n < r.start + e - r.first then r.first + n - r.start else -1)
        by_cases c5 : r.start ≤ n ∧ n < r.start + e - r.first
        · rw [if_pos c5]
          refine .inr ⟨by omega, by omega, ?_, fun j j0 j1 hx => ?_⟩
          · rw [lab, show r.start + (r.first + n - r.start) - r.first = n by omega, hb, ← hsp]
          · have := uniq j j0 (by omega) hx; omega
        · rw [if_neg c5]
          refine .inl ⟨rfl, fun j j0 j1 hx => ?_⟩
          have := uniq j j0 j1 hx
          omega
/-- ranges fit for a search to c -/
structure Fit (c : Int) (xs : List Rng) : Prop where
  each : ∀ r ∈ xs, RngOk r ∧ r.first ≤ c ∧ r.start ≤ 60
  sorted : xs.Pairwise (fun a b => a.first < b.first)
  c0 : 0 ≤ c
  c1 : c ≤ 40
theorem endAt_lt {xs : List Rng} {c : Int} {i : Nat} (h : i < xs.length) : endAt xs c i = (xs[i]).first := by
  unfold endAt
  rw [List.getD_eq_getElem?_getD, List.getElem?_append_left (by simpa using h)]
  simp [h]
theorem endAt_len {xs : List Rng} {c : Int} : endAt xs c xs.length = c := by
  unfold endAt
  rw [List.getD_eq_getElem?_getD, List.getElem?_append_right (by simp)]
  simp
theorem Fit.le {c : Int} {xs : List Rng} (h : Fit c xs) {i : Nat} (hi : i ≤ xs.length) : 0 ≤ endAt xs c i ∧ endAt xs c i ≤ c := by
  rcases Nat.lt_or_eq_of_le hi with hi | rfl
  · rw [endAt_lt hi]
    exact ⟨(h.each _ (List.getElem_mem hi)).1.f0, (h.each _ (List.getElem_mem hi)).2.1⟩
  · rw [endAt_len]; exact ⟨h.c0, Int.le_refl _⟩
theorem Fit.min {c : Int} {xs : List Rng} (h : Fit c xs) {i : Nat} (hi : i ≤ xs.length) : (if c < endAt xs c i then c else endAt xs c i) = endAt xs c i := by
  rw [if_neg (by have := (h.le hi).2; omega)]
theorem Fit.behind {c : Int} {xs : List Rng} (h : Fit c xs) {i : Nat} {j : Int} (hi : i ≤ xs.length) (hj : j < endAt xs c i) : ∀ r ∈ xs.drop i, j < r.first := by
  intro r hr
  obtain ⟨k, hk, e⟩ := List.getElem_of_mem hr
  rw [List.getElem_drop] at e
  rw [List.length_drop] at hk
  have hil : i < xs.length := by omega
  rw [endAt_lt hil] at hj
  subst e
  rcases Nat.eq_zero_or_pos k with rfl | hk0
  · exact hj
  · have := List.pairwise_iff_getElem.mp h.sorted i (i + k) hil (by omega) (by omega)
    omega
theorem Fit.held {c : Int} {xs : List Rng} (h : Fit c xs) {i : Nat} {j : Int} (hi : i < xs.length) (h0 : (xs[i]).first ≤ j) (hj : j < endAt xs c (i + 1)) : labelOf xs j = lab xs[i] j := by
  rw [labelOf_held]
  congr 1
  have e : xs = xs.take i ++ xs[i] :: xs.drop (i + 1) := by rw [← List.drop_eq_getElem_cons hi, List.take_append_drop]
  have hb := h.behind (i := i + 1) (by omega) hj
  have key : ∀ z : Rng, heldGo (xs.take i ++ z :: xs.drop (i + 1)) j rng0 = if z.first ≤ j then z else heldGo (xs.take i) j rng0 := by
    intro z
    rw [held_append, heldGo, held_none _ _ _ hb]
  have := key xs[i]
  rw [← e, if_pos h0] at this
  exact this
theorem Fit.held0 {c : Int} {xs : List Rng} (h : Fit c xs) {j : Int} (hj : j < endAt xs c 0) : labelOf xs j = lab rng0 j := by
  rw [labelOf_held, held_none xs j rng0 (h.behind (i := 0) (Nat.zero_le _) hj)]
theorem idxGo_first {c : Int} {xs : List Rng} {x : Str} (h : Fit c xs) : ∀ i, i ≤ xs.length → IsFirst (labelOf xs) 0 (endAt xs c i) x (idxGo xs c x i)
  | 0, hi => by
    rw [idxGo, h.min hi]
    have hc := h.c1
    have hl := (h.le hi).2
    exact (indexIn_first (r := rng0) (e := endAt xs c 0) (x := x) rng0_ok (by decide) (by omega)).congr fun j _ hj => (h.held0 hj).symm
  | i + 1, hi => by
    have ih := idxGo_first (x := x) h i (by omega)
    have hil : i < xs.length := by omega
    rw [idxGo, List.getElem?_eq_getElem hil]
    show IsFirst _ _ _ _ (if idxGo xs c x i = -1 then indexIn xs[i] (if c < endAt xs c (i + 1) then c else endAt xs c (i + 1)) x else idxGo xs c x i)
    rw [h.min hi]
    have hc := h.c1
    have hl := h.le hi
    have he := h.each _ (List.getElem_mem hil)
    have hmono : endAt xs c i ≤ endAt xs c (i + 1) := by
      rw [endAt_lt hil]
      rcases Nat.lt_or_eq_of_le hi with hi' | hi'
      · rw [endAt_lt hi']
        exact Int.le_of_lt (List.pairwise_iff_getElem.mp h.sorted i (i + 1) hil hi' (by omega))
      · have : endAt xs c (i + 1) = c := by rw [hi']; exact endAt_len
        rw [this]; exact he.2.1
    refine IsFirst.join (Int.le_refl 0) (h.le (Nat.le_of_lt hil)).1 hmono ih ?_
    rw [show endAt xs c i = (xs[i]).first from endAt_lt hil]
    refine (indexIn_first (r := xs[i]) (e := endAt xs c (i + 1)) (x := x) he.1 he.2.2 (by omega)).congr fun j j0 hj => (h.held hil j0 hj).symm
theorem indexOf_first {c : Int} {xs : List Rng} {x : Str} (h : Fit c xs) : IsFirst (labelOf xs) 0 c x (indexOf xs c x) := by
  have := idxGo_first (x := x) h xs.length (Nat.le_refl _)
  rw [endAt_len] at this
  exact this
theorem fit_of_rs {c d : Int} {xs : List Rng} (h : RsOk c xs) (hcd : c ≤ d) (h0 : 0 ≤ c) (h1 : d ≤ 40) : Fit d xs :=
  ⟨fun r hr => ⟨(h.each r hr).1, by have := (h.each r hr).2.1; omega, (h.each r hr).2.2⟩, h.sorted, by omega, h1⟩
theorem movedOf_sorted {os : List Rng} {m : Int} (h : os.Pairwise (fun a b => a.first < b.first)) : (movedOf os m).Pairwise (fun a b => a.first < b.first) := by
  unfold movedOf
  rw [List.pairwise_map]
  exact h.imp fun {a b} hab => by show a.first + m < b.first + m; omega
theorem headOf_ok {m : Int} (h0 : 0 ≤ m) (h1 : m ≤ 100) : RngOk (headOf m) := ⟨h0, h1, .inl rfl, .inl rfl, by show (1 : Int) ≤ 1; decide, by show (1 : Int) ≤ 200; decide⟩
theorem moved_ok {r : Rng} {m : Int} (h : RngOk r) (h0 : 0 ≤ m) (h1 : r.first + m ≤ 100) : RngOk ⟨r.first + m, r.sty, r.pre, r.start⟩ :=
  ⟨by have := h.f0; show 0 ≤ r.first + m; omega, h1, h.sty, h.pre, h.s0, h.s1⟩
theorem tail_sorted {os : List Rng} {m n : Int} (ho : RsOk n os) : (tailOf m os).Pairwise (fun a b => a.first < b.first) := by
  cases os with
  | nil => exact List.pairwise_singleton _ _
  | cons x r =>
    show List.Pairwise _ (if x.first + m = m then movedOf (x :: r) m else headOf m :: movedOf (x :: r) m)
    by_cases c : x.first + m = m
    · rw [if_pos c]; exact movedOf_sorted ho.sorted
    · rw [if_neg c, List.pairwise_cons]
      refine ⟨fun a ha => ?_, movedOf_sorted ho.sorted⟩
      obtain ⟨y, hy, rfl⟩ := moved_mem ha
      show m < y.first + m
      have hx0 := (ho.each x (.head _)).1.f0
      rcases List.mem_cons.mp hy with rfl | hy
      · omega
      · have := (List.pairwise_cons.mp ho.sorted).1 y hy
        omega
theorem fit_joined {xs os : List Rng} {m n : Int} (hx : RsOk m xs) (ho : RsOk n os) (h0 : 0 ≤ m) (h1 : m ≤ 20) (h2 : 0 ≤ n) (h3 : n ≤ 20) : Fit (m + n) (joinedOf xs m os) := by
  rw [joined_tail]
  refine ⟨fun r hr => ?_, ?_, by omega, by omega⟩
  · rcases List.mem_append.mp hr with hr | hr
    · exact ⟨(hx.each r hr).1, by have := (hx.each r hr).2.1; omega, (hx.each r hr).2.2⟩
    · rcases tail_mem hr with rfl | ⟨y, hy, rfl⟩
      · exact ⟨headOf_ok h0 (by omega), by show m ≤ m + n; omega, by show (1 : Int) ≤ 60; decide⟩
      · have := ho.each y hy
        exact ⟨moved_ok this.1 h0 (by omega), by show y.first + m ≤ m + n; omega, this.2.2⟩
  · rw [List.pairwise_append]
    refine ⟨hx.sorted, tail_sorted ho, fun a ha b hb => ?_⟩
    have ha' := (hx.each a ha).2.1
    rcases tail_mem hb with rfl | ⟨y, hy, rfl⟩
    · exact ha'
    · have := (ho.each y hy).1.f0
      show a.first < y.first + m
      omega
theorem joinedOf_len {xs os : List Rng} {m n : Int} (hx : RsOk m xs) (ho : RsOk n os) : (joinedOf xs m os).length ≤ 20 := by
  rw [joined_tail, List.length_append]
  have h1 := hx.few
  have h2 := ho.few
  have : (tailOf m os).length ≤ os.length + 1 := by
    cases os with
    | nil => exact Nat.le_refl _
    | cons x r =>
      show (if x.first + m = m then movedOf (x :: r) m else headOf m :: movedOf (x :: r) m).length ≤ _
      by_cases c : x.first + m = m
      · rw [if_pos c, movedOf_len]; omega
      · rw [if_neg c, List.length_cons, movedOf_len]; omega
  omega
theorem held_ok {xs : List Rng} {i : Int} {h : Rng} (hh : RngOk h ∧ h.first ≤ i ∧ h.start ≤ 60) (hx : ∀ r ∈ xs, RngOk r ∧ r.start ≤ 60) : RngOk (heldGo xs i h) ∧ (heldGo xs i h).first ≤ i ∧ (heldGo xs i h).start ≤ 60 := by
  induction xs generalizing h with
  | nil => exact hh
  | cons x r ih =>
    rw [heldGo]
    refine ih ?_ fun r' hr => hx r' (.tail _ hr)
    by_cases c : x.first ≤ i
    · rw [if_pos c]; exact ⟨(hx x (.head _)).1, c, (hx x (.head _)).2⟩
    · rw [if_neg c]; exact hh
theorem cutOf_ok {xs : List Rng} {m a : Int} (hx : RsOk m xs) (h0 : 0 ≤ a) (h1 : a ≤ 20) : ∀ r ∈ cutOf xs a, RngOk r := by
  have hh := held_ok (xs := xs) (i := a) (h := rng0) ⟨rng0_ok, h0, by decide⟩ fun r hr => ⟨(hx.each r hr).1, (hx.each r hr).2.2⟩
  intro r hr
  rcases List.mem_cons.mp hr with rfl | hr
  · exact ⟨Int.le_refl _, by show (0 : Int) ≤ 100; decide, hh.1.sty, hh.1.pre, by have := hh.1.s0; show 1 ≤ (heldGo xs a rng0).start + a - (heldGo xs a rng0).first; omega, by have := hh.1.f0; show (heldGo xs a rng0).start + a - (heldGo xs a rng0).first ≤ 200; omega⟩
  · unfold laterOf at hr
    obtain ⟨x, hxm, rfl⟩ := List.mem_map.mp hr
    rw [List.mem_filter] at hxm
    have hlt := of_decide_eq_true hxm.2
    have := hx.each x hxm.1
    exact ⟨by show 0 ≤ x.first - a; omega, by have := this.1.f1; show x.first - a ≤ 100; omega, this.1.sty, this.1.pre, this.1.s0, this.1.s1⟩
theorem mem_labels {xs : List Rng} {c : Int} {x : Str} (h0 : 0 ≤ c) : x ∈ labelsOf xs c.toNat ↔ ∃ j, 0 ≤ j ∧ j < c ∧ labelOf xs j = x := by
  unfold labelsOf
  rw [List.mem_map]
  constructor
  · rintro ⟨k, hk, e⟩
    rw [List.mem_range] at hk
    exact ⟨k, by omega, by omega, e⟩
  · rintro ⟨j, j0, j1, e⟩
    refine ⟨j.toNat, List.mem_range.mpr (by omega), ?_⟩
    rw [show ((j.toNat : Nat) : Int) = j by omega]
    exact e
theorem IsFirst.mem {xs : List Rng} {c k : Int} {x : Str} (h0 : 0 ≤ c) (h : IsFirst (labelOf xs) 0 c x k) : k = -1 ↔ x ∉ labelsOf xs c.toNat := by
  rw [mem_labels h0]
  rcases h with ⟨h1, h2⟩ | ⟨h1, h2, h3, _⟩
  · exact ⟨fun _ ⟨j, j0, j1, e⟩ => h2 j j0 j1 e, fun _ => h1⟩
  · exact ⟨fun e => by omega, fun hn => absurd ⟨k, h1, h2, h3⟩ hn⟩
theorem IsFirst.uniq {L : Int → Str} {b k l : Int} {x : Str} (h : IsFirst L 0 b x k) (g : IsFirst L 0 b x l) : k = l := by
  rcases h with ⟨h1, h2⟩ | ⟨h1, h2, h3, h4⟩
  · rcases g with ⟨g1, g2⟩ | ⟨g1, g2, g3, g4⟩
    · omega
    · exact absurd g3 (h2 l g1 g2)
  · rcases g with ⟨g1, g2⟩ | ⟨g1, g2, g3, g4⟩
    · exact absurd h3 (g2 k h1 h2)
    · rcases Int.lt_trichotomy k l with e | e | e
      · exact absurd h3 (g4 k h1 e)
      · exact e
      · exact absurd g3 (h4 l g1 e)
/-- index_of in the joined document -/
theorem joined_index {xs os : List Rng} {m n : Int} {x : Str} (hx : RsOk m xs) (ho : RsOk n os) (h0 : 0 ≤ m) (h1 : m ≤ 20) (h2 : 0 ≤ n) (h3 : n ≤ 20) :
    indexOf (joinedOf xs m os) (m + n) x = (if indexOf xs m x = -1 then (if indexOf os n x = -1 then -1 else m + indexOf os n x) else indexOf xs m x) := by
  have f1 := indexOf_first (x := x) (fit_of_rs hx (Int.le_refl m) h0 (by omega))
  have f2 := indexOf_first (x := x) (fit_of_rs ho (Int.le_refl n) h2 (by omega))
  have f3 := indexOf_first (x := x) (fit_joined hx ho h0 h1 h2 h3)
  have g1 : IsFirst (labelOf (joinedOf xs m os)) 0 m x (indexOf xs m x) := f1.congr fun j _ hj => (joined_label1 hj fun r hr => (ho.each r hr).1.f0).symm
  have g2 : IsFirst (labelOf (joinedOf xs m os)) m (m + n) x (if indexOf os n x = -1 then -1 else m + indexOf os n x) := by
    rcases f2 with ⟨e1, e2⟩ | ⟨e1, e2, e3, e4⟩
    · rw [if_pos e1]
      refine .inl ⟨rfl, fun j j0 j1 => ?_⟩
      have := e2 (j - m) (by omega) (by omega)
      rw [show j = m + (j - m) by omega, joined_label2 (by omega)]
      exact this
    · rw [if_neg (by omega)]
      refine .inr ⟨by omega, by omega, ?_, fun j j0 j1 => ?_⟩
      · rw [joined_label2 (by omega)]; exact e3
      · have := e4 (j - m) (by omega) (by omega)
        rw [show j = m + (j - m) by omega, joined_label2 (by omega)]
        exact this
  exact f3.uniq (IsFirst.join (Int.le_refl 0) h0 (by omega) g1 g2)
/-- found just where it stands -/
theorem joined_found {xs os : List Rng} {m n : Int} {x : Str} (hx : RsOk m xs) (ho : RsOk n os) (h0 : 0 ≤ m) (h1 : m ≤ 20) (h2 : 0 ≤ n) (h3 : n ≤ 20) :
    indexOf (joinedOf xs m os) (m + n) x = -1 ↔ x ∉ labelsOf xs m.toNat ++ labelsOf os n.toNat := by
  rw [← joined_labels h0 h2 fun r hr => (ho.each r hr).1.f0]
  exact (indexOf_first (x := x) (fit_joined hx ho h0 h1 h2 h3)).mem (by omega)
/-! how long a label is -/
theorem shortD : (List.range 200).all (fun k => decide ((Str.ofString (toString ((k : Int) + 1))).length ≤ 20) && PyData.strOk (Str.ofString (toString ((k : Int) + 1)))) = true := by decide +kernel
theorem shortR : (List.range 100).all (fun k => decide ((romanS ((k : Int) + 1)).length ≤ 20) && PyData.strOk (romanS ((k : Int) + 1))) = true := by decide +kernel
theorem shortRl : (List.range 100).all (fun k => decide ((Txt.lower (romanS ((k : Int) + 1))).length ≤ 20) && PyData.strOk (Txt.lower (romanS ((k : Int) + 1)))) = true := by decide +kernel
theorem shortA : (List.range 100).all (fun k => decide ((lettersS ((k : Int) + 1)).length ≤ 20) && PyData.strOk (lettersS ((k : Int) + 1))) = true := by decide +kernel
theorem shortAl : (List.range 100).all (fun k => decide ((Txt.lower (lettersS ((k : Int) + 1))).length ≤ 20) && PyData.strOk (Txt.lower (lettersS ((k : Int) + 1)))) = true := by decide +kernel
def Short (x : Str) : Prop := x.length ≤ 40 ∧ PyData.strOk x = true
theorem short_of {x : Str} (h : (decide (x.length ≤ 20) && PyData.strOk x) = true) : x.length ≤ 20 ∧ PyData.strOk x = true := by
  rw [Bool.and_eq_true, decide_eq_true_eq] at h; exact h
theorem strOk_app {a b : Str} (ha : PyData.strOk a = true) (hb : PyData.strOk b = true) : PyData.strOk (a ++ b) = true := by
  unfold PyData.strOk at *
  rw [Array.all_eq_true_iff_forall_mem] at *
  intro c hc
  rw [Str.cps_append, Array.mem_append] at hc
  rcases hc with hc | hc
  · exact ha c hc
  · exact hb c hc
theorem all200 {p : Int → Bool} (h : (List.range 200).all (fun k => p ((k : Int) + 1)) = true) {n : Int} (h1 : 1 ≤ n) (h2 : n ≤ 200) : p n = true := by
  rw [List.all_eq_true] at h
  have := h (n - 1).toNat (List.mem_range.mpr (by omega))
  rw [show (((n - 1).toNat : Nat) : Int) + 1 = n by omega] at this
  exact this
theorem shown_short {y : Str} {n : Int} (hy : Sty y) (h1 : 1 ≤ n) (h2 : n ≤ 100) : (shownS y n).length ≤ 20 ∧ PyData.strOk (shownS y n) = true := by
  rcases hy with rfl | rfl | rfl | rfl | rfl | rfl
  · exact short_of (all200 (p := fun n => decide ((Str.ofString (toString n)).length ≤ 20) && PyData.strOk (Str.ofString (toString n))) shortD h1 (by omega))
  · exact short_of (all100 (p := fun n => decide ((romanS n).length ≤ 20) && PyData.strOk (romanS n)) shortR h1 h2)
  · exact short_of (all100 (p := fun n => decide ((Txt.lower (romanS n)).length ≤ 20) && PyData.strOk (Txt.lower (romanS n))) shortRl h1 h2)
  · exact short_of (all100 (p := fun n => decide ((lettersS n).length ≤ 20) && PyData.strOk (lettersS n)) shortA h1 h2)
  · exact short_of (all100 (p := fun n => decide ((Txt.lower (lettersS n)).length ≤ 20) && PyData.strOk (Txt.lower (lettersS n))) shortAl h1 h2)
  · exact ⟨by show 0 ≤ 20; omega, by show PyData.strOk (Str.ofString "") = true; decide +kernel⟩
theorem pre_ok {p : Str} (h : Pre p) : p.length ≤ 2 ∧ PyData.strOk p = true := by
  rcases h with rfl | rfl | rfl <;> exact ⟨by decide, by decide +kernel⟩
theorem lab_short {r : Rng} {i : Int} (h : RngOk r) (hs : r.start ≤ 60) (h0 : r.first ≤ i) (h1 : i ≤ 40) : Short (lab r i) := by
  have hf := h.f0
  have hst := h.s0
  have a := shown_short (n := r.start + i - r.first) h.sty (by omega) (by omega)
  have b := pre_ok h.pre
  refine ⟨?_, strOk_app b.2 a.2⟩
  unfold lab
  rw [Str.length_append]
  omega
theorem labels_short {xs : List Rng} {m : Int} (hx : ∀ r ∈ xs, RngOk r ∧ r.start ≤ 60) (h0 : 0 ≤ m) (h1 : m ≤ 40) : ∀ x ∈ labelsOf xs m.toNat, Short x := by
  intro x hxm
  obtain ⟨j, j0, j1, rfl⟩ := (mem_labels h0).mp hxm
  have hh := held_ok (xs := xs) (i := j) (h := rng0) ⟨rng0_ok, j0, by decide⟩ hx
  rw [labelOf_held]
  exact lab_short hh.1 hh.2.2 hh.2.1 (by omega)
theorem labelsOf_len (xs : List Rng) (n : Nat) : (labelsOf xs n).length = n := by unfold labelsOf; simp
end
section
theorem labels_of_specI (prog : Program) (w : World) (news : Led) (l : Addr) (xs : List Rng) (i : Int) (t : Tok) (hl : RngIn news l xs) (hok : ∀ x ∈ xs, RngOk x) (h0 : 0 ≤ i) (h1 : i ≤ 100) :
    Spec prog w 94 7 [.ref l, .int i t] news (fun r news' => ∃ D ys, r = .ref D ∧ news' = (D, LCg.lst ys) :: news ∧ StrsAre ys (labelsOf xs i.toNat)) := by
  obtain ⟨n, rfl⟩ := Int.eq_ofNat_of_zero_le h0
  exact labels_of_spec prog w news l xs n t hl hok (by omega)
@[irreducible] def idxI (xs : List Rng) (c : Int) (x : Str) : Int := indexOf xs c x
theorem index_of_specI (prog : Program) (w : World) (news : Led) (l : Addr) (xs : List Rng) (c : Int) (tc : Tok) (x : Str) (t : Tok) (hl : RngIn news l xs) (hok : ∀ x ∈ xs, RngOk x) (hn : xs.length ≤ 20) (h0 : 0 ≤ c) (h1 : c ≤ 100) (hx : x.length ≤ 40) (hox : PyData.strOk x = true) :
    Spec prog w 106 17 [.ref l, .int c tc, .str x t] news (fun v news' => news' = news ∧ ∃ t', v = .int (idxI xs c x) t') := by
  obtain ⟨n, rfl⟩ := Int.eq_ofNat_of_zero_le h0
  unfold idxI
  exact index_of_spec prog w news l xs n tc x t hl hok hn (by omega) hx hox
theorem ranges_specI (prog : Program) (w : World) (fz : Led) (pen cl : Addr) (vs : List Value) (ns : List Int) (nc np : Nat) (spot held : Int) (t1 t2 : Tok) (n : Int) (tn : Tok) (hcl : (cl, W.listOf vs.toArray nc) ∈ fz) (hfz : ∀ p ∈ fz, p.1 ≠ pen) (hi : IntsAre vs ns) (hn : ns.length ≤ 40) (s0 : 0 ≤ spot) (s1 : spot ≤ 100) (d0 : 0 ≤ held) (hn0 : 0 ≤ n) (hnn : n ≤ 10) :
    Spec prog w 132 18 [.ref pen, .int n tn] ((pen, penObj cl spot held t1 t2 np) :: fz) (fun v news' => ∃ l rs fz' spot' held' t1' t2', v = .ref l ∧ news' = (pen, penObj cl spot' held' t1' t2' np) :: fz' ∧ Sub fz fz' ∧ (∀ p ∈ fz', p.1 ≠ pen) ∧ RngIn fz' l rs ∧ RsOk n rs ∧ spot ≤ spot' ∧ spot' ≤ spot + 4 * n ∧ 0 ≤ held') := by
  obtain ⟨k, rfl⟩ := Int.eq_ofNat_of_zero_le hn0
  exact ranges_spec prog w fz pen cl vs ns nc np spot held t1 t2 k tn hcl hfz hi hn s0 s1 d0 (by omega)
theorem take40 {xs : List Int} : (List.map (fun a => a) (List.take 40 xs)).length ≤ 40 := by simp only [List.length_map, List.length_take]; omega
/-- a sequence that is not the pen's -/
def Fine (o : Obj) : Prop := ∃ its n, o.data = .seq its n ∧ ∀ a z u, ¬ (its[0]? = some (Value.ref a) ∧ its[1]? = some (Value.int z u))
noncomputable def fineL (led : Led) : Led := led.filter fun p => @decide (Fine p.2) (Classical.propDecidable _)
theorem mem_fineL {led : Led} {p : Addr × Obj} : p ∈ fineL led ↔ p ∈ led ∧ Fine p.2 := by
  unfold fineL
  rw [List.mem_filter]
  simp
theorem news_obj {h₀ h : Heap} {L : Addr} {led : Led} {p q : Addr × Obj} (N : News h₀ L h led) (hp : p ∈ led) (hq : q ∈ led) (e : p.1 = q.1) : p.2 = q.2 := by
  have h1 := (N p hp).1
  have h2 := (N q hq).1
  rw [e, h2] at h1
  exact (Option.some.inj h1).symm
theorem fine_ne {h₀ h : Heap} {L : Addr} {led : Led} {p q : Addr × Obj} (N : News h₀ L h led) (hp : p ∈ led) (hf : Fine p.2) (hq : q ∈ led) (hn : ¬ Fine q.2) : p.1 ≠ q.1 := fun e => hn (news_obj N hp hq e ▸ hf)
theorem notFine_cell {o : Obj} {x : Option Value} (h : o.data = .cell x) : ¬ Fine o := by
  rintro ⟨its, n, e, _⟩
  rw [h] at e; cases e
theorem notFine_pen {cl : Addr} {sp he : Int} {u v : Tok} {n : Nat} : ¬ Fine (penObj cl sp he u v n) := by
  rintro ⟨its, m, e, hn⟩
  have e' : #[Value.ref cl, .int sp u, .int he v] = its := by
    injection e
  subst e'
  exact hn cl sp u ⟨rfl, rfl⟩
theorem fine_rng {x : Rng} {n : Nat} {t1 t2 t3 t4 : Tok} : Fine (rngObj x n t1 t2 t3 t4) := ⟨_, _, rfl, by rintro a z u ⟨h, _⟩; cases h⟩
theorem rngL_ref {led : Led} : ∀ {vs xs} (i : Nat) {v}, RngL led vs xs → vs[i]? = some v → ∃ a, v = Value.ref a
  | _, _, 0, v, .cons h _, e => by
    simp only [List.getElem?_cons_zero, Option.some.injEq] at e
    obtain ⟨a, _, _, _, _, _, ev, _⟩ := h
    exact ⟨a, e ▸ ev⟩
  | _, _, i + 1, v, .cons _ r, e => by
    simp only [List.getElem?_cons_succ] at e
    exact rngL_ref i r e
theorem fine_refs {led : Led} {vs : List Value} {xs : List Rng} {n : Nat} (h : RngL led vs xs) : Fine (W.listOf vs.toArray n) := by
  refine ⟨_, _, rfl, ?_⟩
  rintro a z u ⟨_, e⟩
  obtain ⟨b, hb⟩ := rngL_ref 1 h (by simpa using e)
  cases hb
theorem fine_strs {vs : List Value} {xs : List Str} {n : Nat} (h : StrsAre vs xs) : Fine (W.listOf vs.toArray n) := by
  refine ⟨_, _, rfl, ?_⟩
  rintro a z u ⟨e, _⟩
  cases h with
  | nil => simp at e
  | cons x t r => simp at e
theorem fine_ints {vs : List Value} {xs : List Int} {n : Nat} (h : IntsAre vs xs) : Fine (W.listOf vs.toArray n) := by
  refine ⟨_, _, rfl, ?_⟩
  rintro a z u ⟨e, _⟩
  cases h with
  | nil => simp at e
  | cons x t r => simp at e
theorem RngL.fine {a b : Led} (s : ∀ p ∈ a, Fine p.2 → p ∈ b) : ∀ {vs xs}, RngL a vs xs → RngL b vs xs
  | _, _, .nil => .nil
  | _, _, .cons ⟨ad, n, t1, t2, t3, t4, e, m⟩ r => .cons ⟨ad, n, t1, t2, t3, t4, e, s _ m fine_rng⟩ (r.fine s)
theorem RngIn.fine {a : Led} {l : Addr} {xs : List Rng} (h : RngIn a l xs) : RngIn (fineL a) l xs := by
  obtain ⟨vs, n, m, r⟩ := h
  exact ⟨vs, n, mem_fineL.mpr ⟨m, fine_refs r⟩, r.fine fun p hp hf => mem_fineL.mpr ⟨hp, hf⟩⟩
theorem rebase {h₀ h : Heap} {L : Addr} {led : Led} {pen cl c1 c2 c3 : Addr} {o1 o2 o3 : Obj} {x1 x2 x3 : Option Value} {sp he : Int} {u v : Tok} {n : Nat} (N : News h₀ L h led)
    (hp : (pen, penObj cl sp he u v n) ∈ led) (m3 : (c3, o3) ∈ led) (m2 : (c2, o2) ∈ led) (m1 : (c1, o1) ∈ led) (d3 : o3.data = .cell x3) (d2 : o2.data = .cell x2) (d1 : o1.data = .cell x1) :
    News h₀ L h ((pen, penObj cl sp he u v n) :: (c3, o3) :: (c2, o2) :: (c1, o1) :: fineL led) ∧ (∀ p ∈ fineL led, p.1 ≠ pen) ∧ (∀ p ∈ fineL led, p.1 ≠ c3) ∧ (∀ p ∈ fineL led, p.1 ≠ c2) ∧ (∀ p ∈ fineL led, p.1 ≠ c1) := by
  refine ⟨news_sub N ?_, fun p hq => fine_ne N (mem_fineL.mp hq).1 (mem_fineL.mp hq).2 hp notFine_pen, fun p hq => fine_ne N (mem_fineL.mp hq).1 (mem_fineL.mp hq).2 m3 (notFine_cell d3), fun p hq => fine_ne N (mem_fineL.mp hq).1 (mem_fineL.mp hq).2 m2 (notFine_cell d2), fun p hq => fine_ne N (mem_fineL.mp hq).1 (mem_fineL.mp hq).2 m1 (notFine_cell d1)⟩
  intro p hq
  simp only [List.mem_cons] at hq
  rcases hq with rfl | rfl | rfl | rfl | hq
  · exact hp
  · exact m3
  · exact m2
  · exact m1
  · exact (mem_fineL.mp hq).1
theorem rebaseE {h₀ h : Heap} {L : Addr} {led : Led} {pen cl c1 c2 c3 : Addr} {o1 o2 o3 : Obj} {x1 x2 x3 : Option Value} {sp he : Int} {u v : Tok} {n : Nat} (N : News h₀ L h led)
    (hp : (pen, penObj cl sp he u v n) ∈ led) (m3 : (c3, o3) ∈ led) (m2 : (c2, o2) ∈ led) (m1 : (c1, o1) ∈ led) (d3 : o3.data = .cell x3) (d2 : o2.data = .cell x2) (d1 : o1.data = .cell x1) :
    ∃ fA, News h₀ L h ((pen, penObj cl sp he u v n) :: (c3, o3) :: (c2, o2) :: (c1, o1) :: fA) ∧ (∀ p ∈ fA, p.1 ≠ pen) ∧ (∀ p ∈ fA, p.1 ≠ c3) ∧ (∀ p ∈ fA, p.1 ≠ c2) ∧ (∀ p ∈ fA, p.1 ≠ c1) ∧ (∀ p ∈ led, Fine p.2 → p ∈ fA) ∧ (∀ l xs, RngIn led l xs → RngIn fA l xs) := by
  obtain ⟨a, b, c, d, e⟩ := rebase N hp m3 m2 m1 d3 d2 d1
  exact ⟨fineL led, a, b, c, d, e, fun p hp hf => mem_fineL.mpr ⟨hp, hf⟩, fun l xs h => h.fine⟩
theorem sub6 {p q r c3 c2 c1 x : Addr × Obj} {fz : Led} (h : Sub [p, q, r, c3, c2, c1] fz) : c3 ∈ x :: fz ∧ c2 ∈ x :: fz ∧ c1 ∈ x :: fz ∧ q ∈ x :: fz :=
  ⟨.tail _ (h _ (by simp)), .tail _ (h _ (by simp)), .tail _ (h _ (by simp)), .tail _ (h _ (by simp))⟩
theorem sub3 {c3 c2 c1 x : Addr × Obj} {fA fz : Led} (h : Sub (c3 :: c2 :: c1 :: fA) fz) : c3 ∈ x :: fz ∧ c2 ∈ x :: fz ∧ c1 ∈ x :: fz ∧ ∀ p ∈ fA, p ∈ x :: fz :=
  ⟨.tail _ (h _ (by simp)), .tail _ (h _ (by simp)), .tail _ (h _ (by simp)), fun p hp => .tail _ (h _ (by simp [hp]))⟩
theorem okCut {fD : Led} {l : Addr} {rs1 : List Rng} {m a : Int} (_ : RngIn fD l (cutOf rs1 a)) (ro : RsOk m rs1) (h0 : 0 ≤ a) (h1 : a < m + 1) (h2 : m < 10) : ∀ x ∈ cutOf rs1 a, RngOk x := cutOf_ok ro h0 (by omega)
theorem pick_from {vs : List Value} {x : Int} (h : 0 ≤ x) : (slicePick vs.toArray (some x) none none).toList = vs.drop x.toNat := by
  have e : sliceBounds (some x) none none vs.toArray.size = (((min x.toNat vs.toArray.size : Nat) : Int), ((vs.toArray.size : Nat) : Int), 1) := by
    simp only [sliceBounds, Option.getD_none, show (1 : Int) > 0 by decide, if_true, if_neg (show ¬ (x < 0) by omega)]
    congr 1
    omega
  rw [kmk_pick_nat _ e]
  show (vs.drop (min x.toNat vs.toArray.size)).take (vs.toArray.size - min x.toNat vs.toArray.size) = _
  rw [List.size_toArray, kmk_drop_min, List.take_of_length_le (by rw [List.length_drop]; omega)]
theorem short_all {l : List Str} (h : ∀ x ∈ l, Short x) : l.all PyData.strOk = true := by
  rw [List.all_eq_true]; exact fun x hx => (h x hx).2
theorem rs_short {m : Int} {rs : List Rng} (ro : RsOk m rs) (h0 : 0 ≤ m) (h1 : m < 10) : ∀ x ∈ labelsOf rs m.toNat, Short x :=
  labels_short (fun r hr => ⟨(ro.each r hr).1, (ro.each r hr).2.2⟩) h0 (by omega)
theorem strs_size {vs : List Value} {rs : List Rng} {m : Int} (y : StrsAre vs (labelsOf rs m.toNat)) (h1 : m < 10) : vs.toArray.size ≤ sizeLine := by
  rw [List.size_toArray, y.len_eq, labelsOf_len]
  exact Nat.le_trans (m := 100) (by omega) (by decide)
theorem two_size {vs ws : List Value} {rs os : List Rng} {m n : Int} (y : StrsAre vs (labelsOf rs m.toNat)) (z : StrsAre ws (labelsOf os n.toNat)) (h1 : m < 10) (h2 : n < 10) : vs.length + ws.length ≤ sizeLine := by
  rw [y.len_eq, z.len_eq, labelsOf_len, labelsOf_len]
  exact Nat.le_trans (m := 100) (by omega) (by decide)
theorem three_size {vs ws us : List Value} {rs os : List Rng} {m n : Int} (y : StrsAre vs (labelsOf rs m.toNat)) (z : StrsAre ws (labelsOf os n.toNat)) (h1 : m < 10) (h2 : n < 10) (h3 : us.length ≤ 3) : (vs ++ ws).length + us.length ≤ sizeLine := by
  rw [List.length_append, y.len_eq, z.len_eq, labelsOf_len, labelsOf_len]
  exact Nat.le_trans (m := 100) (by omega) (by decide)
section
variable {prog : Program} {w : World} {A : Around} {E : Value → Shared → Prop} {s : Shared} {Q : Value → Shared → Prop}
theorem cut_ne {A1 B : Addr} {xs vs : List Value} {rs : List Rng} {m a : Int} (ha : s.heap.IsList A1 xs.toArray) (hb : s.heap.IsList B (vs.drop a.toNat).toArray) (yc : StrsAre xs (labelsOf (cutOf rs a) (m - a).toNat)) (y1 : StrsAre vs (labelsOf rs m.toNat)) (ro : RsOk m rs) (h0 : 0 ≤ a) (h1 : a < m + 1) (h2 : m < 10) (hu : A.units + 64 < cLine) (h : Q (.bool false) s) :
    wpAny (model prog w) A (compareOp .NotEq (.ref A1) (.ref B)) Q E s := by
  have e := cut_labels (xs := rs) h0 (show a ≤ m by omega) ro.sorted
  have hs := short_all (rs_short ro (by omega) h2)
  rw [e] at yc
  have hs' : ((labelsOf rs m.toNat).drop a.toNat).all PyData.strOk = true := by
    rw [List.all_eq_true] at hs ⊢
    exact fun x hx => hs x (List.mem_of_mem_drop hx)
  exact me_ne_strs ha hb yc (y1.drop' _) hs' hs' hu (c := false) (by simp) h
theorem joined_ne {A1 B : Addr} {xs vs ws : List Value} {rs os : List Rng} {m n : Int} (ha : s.heap.IsList A1 xs.toArray) (hb : s.heap.IsList B (vs ++ ws).toArray) (yj : StrsAre xs (labelsOf (joinedOf rs m os) (m + n).toNat)) (y1 : StrsAre vs (labelsOf rs m.toNat)) (y2 : StrsAre ws (labelsOf os n.toNat)) (ro : RsOk m rs) (ro2 : RsOk n os) (h0 : 0 ≤ m) (h1 : m < 10) (h2 : 0 ≤ n) (h3 : n < 10) (hu : A.units + 64 < cLine) (h : Q (.bool false) s) :
    wpAny (model prog w) A (compareOp .NotEq (.ref A1) (.ref B)) Q E s := by
  have e := joined_labels (xs := rs) (os := os) h0 h2 fun r hr => (ro2.each r hr).1.f0
  rw [e] at yj
  have hs' : (labelsOf rs m.toNat ++ labelsOf os n.toNat).all PyData.strOk = true := by
    rw [List.all_append, short_all (rs_short ro h0 h1), short_all (rs_short ro2 h2 h3)]; rfl
  exact me_ne_strs ha hb yj (strsAre_append y1 y2) hs' hs' hu (c := false) (by simp) h
theorem notin_both {B : Addr} {vs ws : List Value} {rs os : List Rng} {m n : Int} {x : Str} {t : Tok} {c : Bool} (hb : s.heap.IsList B (vs ++ ws).toArray) (y1 : StrsAre vs (labelsOf rs m.toNat)) (y2 : StrsAre ws (labelsOf os n.toNat)) (hc : decide (idxI (joinedOf rs m os) (m + n) x = -1) = c) (ro : RsOk m rs) (ro2 : RsOk n os) (h0 : 0 ≤ m) (h1 : m < 10) (h2 : 0 ≤ n) (h3 : n < 10) (h : Q (.bool c) s) :
    wpAny (model prog w) A (compareOp .NotIn (.str x t) (.ref B)) Q E s := by
  unfold idxI at hc
  refine notin_list_strs hb (strsAre_append y1 y2) ?_
  have e := joined_found (x := x) ro ro2 h0 (by omega) h2 (by omega)
  have : (!((labelsOf rs m.toNat ++ labelsOf os n.toNat).any (· == x))) = c := by
    rw [← hc]
    by_cases hx : x ∈ labelsOf rs m.toNat ++ labelsOf os n.toNat
    · rw [decide_eq_false (fun h => (e.mp h) hx), Bool.not_eq_false', List.any_eq_true]
      exact ⟨x, hx, by simp⟩
    · rw [decide_eq_true (e.mpr hx), Bool.not_eq_true', List.any_eq_false]
      intro y hy hyx
      have : y = x := by simpa using hyx
      exact hx (this ▸ hy)
  rw [this]; exact h
end
theorem okJoin {fD : Led} {l : Addr} {rs os : List Rng} {m n : Int} (_ : RngIn fD l (joinedOf rs m os)) (ro : RsOk m rs) (ro2 : RsOk n os) (h0 : 0 ≤ m) (h1 : m < 10) (h2 : 0 ≤ n) (h3 : n < 10) : ∀ x ∈ joinedOf rs m os, RngOk x :=
  fun x hx => ((fit_joined ro ro2 h0 (by omega) h2 (by omega)).each x hx).1
def askL (l : List Str) : List Str := l ++ [Str.ofString "1", Str.ofString "ii", Str.ofString "A-3"]
theorem ask_short {rs os : List Rng} {m n : Int} (ro : RsOk m rs) (ro2 : RsOk n os) (h0 : 0 ≤ m) (h1 : m < 10) (h2 : 0 ≤ n) (h3 : n < 10) : ∀ x ∈ askL (labelsOf rs m.toNat ++ labelsOf os n.toNat), Short x := by
  intro x hx
  unfold askL at hx
  rw [List.mem_append, List.mem_append] at hx
  rcases hx with (hx | hx) | hx
  · exact rs_short ro h0 h1 x hx
  · exact rs_short ro2 h2 h3 x hx
  · simp only [List.mem_cons, List.not_mem_nil, or_false] at hx
    rcases hx with rfl | rfl | rfl <;> exact ⟨by decide, by decide +kernel⟩
theorem ask_len {rs os : List Rng} {m n : Int} (h1 : m < 10) (h3 : n < 10) : 1 ≤ (askL (labelsOf rs m.toNat ++ labelsOf os n.toNat)).length ∧ (askL (labelsOf rs m.toNat ++ labelsOf os n.toNat)).length ≤ 200 := by
  unfold askL
  rw [List.length_append, List.length_append, labelsOf_len, labelsOf_len]
  show 1 ≤ _ + 3 ∧ _ + 3 ≤ 200
  omega
/-- what the four texts are asked -/
theorem place_cases {rs os : List Rng} {m n : Int} (x : Str) (ro : RsOk m rs) (ro2 : RsOk n os) (h0 : 0 ≤ m) (h1 : m < 10) (h2 : 0 ≤ n) (h3 : n < 10) :
    (idxI rs m x ≠ -1 ∧ idxI (joinedOf rs m os) (m + n) x = idxI rs m x) ∨
    (idxI rs m x = -1 ∧ idxI os n x ≠ -1 ∧ idxI (joinedOf rs m os) (m + n) x = m + idxI os n x ∧ m + idxI os n x ≠ -1) ∨
    (idxI rs m x = -1 ∧ idxI os n x = -1 ∧ idxI (joinedOf rs m os) (m + n) x = -1) := by
  unfold idxI
  have e := joined_index (x := x) ro ro2 h0 (by omega) h2 (by omega)
  have f2 := indexOf_first (x := x) (fit_of_rs ro2 (Int.le_refl n) h2 (by omega))
  by_cases c1 : indexOf rs m x = -1
  · by_cases c2 : indexOf os n x = -1
    · rw [if_pos c1, if_pos c2] at e; exact .inr (.inr ⟨c1, c2, e⟩)
    · rw [if_pos c1, if_neg c2] at e
      refine .inr (.inl ⟨c1, c2, e, ?_⟩)
      rcases f2 with ⟨f, _⟩ | ⟨f, _⟩
      · exact absurd f c2
      · omega
  · rw [if_neg c1] at e; exact .inl ⟨c1, e⟩
/-- the ledger while the texts are picked -/
def PickJ (fE : Led) (pen cl : Addr) (e3 e2 e1 : Addr × Obj) (choice : List Str) (i : Nat) (ys : List Value) (nw : Led) : Prop :=
  ∃ sp he u v fz txts, nw = (pen, penObj cl sp he u v 0) :: e3 :: e2 :: e1 :: fz ∧ Sub fE fz ∧ (∀ p ∈ fz, p.1 ≠ pen) ∧ 0 ≤ sp ∧ sp ≤ 90 + (i : Int) ∧ 0 ≤ he ∧ StrsAre ys txts ∧ (∀ x ∈ txts, x ∈ choice) ∧ txts.length = i
theorem sub5 {x y pp c3 c2 c1 : Addr × Obj} {fA nw : Led} (h : Sub (x :: y :: pp :: c3 :: c2 :: c1 :: fA) nw) : pp ∈ nw ∧ c3 ∈ nw ∧ c2 ∈ nw ∧ c1 ∈ nw ∧ Sub fA nw :=
  ⟨h _ (by simp), h _ (by simp), h _ (by simp), h _ (by simp), fun p hp => h _ (by simp [hp])⟩
theorem mem5 {h₀ h : Heap} {L : Addr} {x y pp c3 c2 c1 : Addr × Obj} {fA : Led} (_ : News h₀ L h (x :: y :: pp :: c3 :: c2 :: c1 :: fA)) : pp ∈ (x :: y :: pp :: c3 :: c2 :: c1 :: fA) ∧ c3 ∈ (x :: y :: pp :: c3 :: c2 :: c1 :: fA) ∧ c2 ∈ (x :: y :: pp :: c3 :: c2 :: c1 :: fA) ∧ c1 ∈ (x :: y :: pp :: c3 :: c2 :: c1 :: fA) ∧ Sub fA (x :: y :: pp :: c3 :: c2 :: c1 :: fA) := sub5 fun _ h => h
theorem pickJ0 {h₀ h : Heap} {L : Addr} {fF : Led} {pen cl : Addr} {e3 e2 e1 : Addr × Obj} {ch : List Str} {sp he : Int} {u v : Tok} (_ : News h₀ L h ((pen, penObj cl sp he u v 0) :: e3 :: e2 :: e1 :: fF)) (ne : ∀ p ∈ fF, p.1 ≠ pen) (s0 : 0 ≤ sp) (s1 : sp ≤ 90) (d0 : 0 ≤ he) :
    PickJ fF pen cl e3 e2 e1 ch 0 [] ((pen, penObj cl sp he u v 0) :: e3 :: e2 :: e1 :: fF) :=
  ⟨sp, he, u, v, fF, [], rfl, fun _ h => h, ne, s0, by omega, d0, .nil, (fun _ h => absurd h List.not_mem_nil), rfl⟩
theorem pickNe {h₀ h : Heap} {L : Addr} {a2 a1 a0 : Addr × Obj} {I C D pen cl c3 c2 c1 : Addr} {oI oC oD o3 o2 o1 : Obj} {x3 x2 x1 : Option Value} {fz : Led} {sp he : Int} {u v : Tok}
    (N : News h₀ L h (a2 :: a1 :: a0 :: (I, oI) :: (C, oC) :: (D, oD) :: (pen, penObj cl sp he u v 0) :: (c3, o3) :: (c2, o2) :: (c1, o1) :: fz)) (f2 : Fine a2.2) (f1 : Fine a1.2) (f0 : Fine a0.2)
    (off : LCg.Off3 I C D ((pen, penObj cl sp he u v 0) :: (c3, o3) :: (c2, o2) :: (c1, o1) :: fz)) (d3 : o3.data = .cell x3) (d2 : o2.data = .cell x2) (d1 : o1.data = .cell x1) (ne : ∀ p ∈ fz, p.1 ≠ pen) :
    ∀ p ∈ a2 :: a1 :: a0 :: (I, oI) :: (C, oC) :: (D, oD) :: (c3, o3) :: (c2, o2) :: (c1, o1) :: fz, p.1 ≠ pen := by
  have hp : (pen, penObj cl sp he u v 0) ∈ a2 :: a1 :: a0 :: (I, oI) :: (C, oC) :: (D, oD) :: (pen, penObj cl sp he u v 0) :: (c3, o3) :: (c2, o2) :: (c1, o1) :: fz := by simp
  have cell : ∀ {c : Addr} {o : Obj} {x : Option Value}, (c, o) ∈ a2 :: a1 :: a0 :: (I, oI) :: (C, oC) :: (D, oD) :: (pen, penObj cl sp he u v 0) :: (c3, o3) :: (c2, o2) :: (c1, o1) :: fz → o.data = .cell x → c ≠ pen := by
    intro c o x hm hd e
    have := news_obj N hm hp e
    have : o = penObj cl sp he u v 0 := this
    rw [this] at hd
    cases hd
  intro p hm
  simp only [List.mem_cons] at hm
  rcases hm with rfl | rfl | rfl | rfl | rfl | rfl | rfl | rfl | rfl | hm
  · exact fine_ne N (by simp) f2 hp notFine_pen
  · exact fine_ne N (by simp) f1 hp notFine_pen
  · exact fine_ne N (by simp) f0 hp notFine_pen
  · exact fun e => off.1.1 e.symm
  · exact fun e => off.1.2.1 e.symm
  · exact fun e => off.1.2.2 e.symm
  · exact cell (by simp) d3
  · exact cell (by simp) d2
  · exact cell (by simp) d1
  · exact ne p hm
theorem pickEnd {h₀ hh : Heap} {L I C D pen cl : Addr} {oI oC : Obj} {m : Str → Option Value} {s : Shared} {fF fz : Led} {tk i : Nat} {a2 a1 a0 e3 e2 e1 : Addr × Obj} {ys : List Value} {ch txts : List Str} {sp he sp' he' : Int} {u v u' v' t : Tok} {x : Str}
    (F : Fr h₀ L hh m) (N : News h₀ L hh ((pen, penObj cl sp' he' u' v' 0) :: a2 :: a1 :: a0 :: (I, oI) :: (C, oC) :: (D, LCg.lst ys) :: e3 :: e2 :: e1 :: fz)) (off : LCg.Off3 I C D ((pen, penObj cl sp he u v 0) :: e3 :: e2 :: e1 :: fz))
    (hsub : Sub fF fz) (hne : ∀ p ∈ fz, p.1 ≠ pen) (s0 : 0 ≤ sp) (s1 : sp ≤ 90 + (i : Int)) (sA : sp ≤ sp') (sB : sp' ≤ sp + 1) (d0 : 0 ≤ he') (hS : StrsAre ys txts) (hin : ∀ x ∈ txts, x ∈ ch) (hl : txts.length = i) (hx : x ∈ ch) :
    CEndL h₀ L m s I oI C oC D (LCg.lst ys) (fun nw' => PickJ fF pen cl e3 e2 e1 ch (i + 1) (ys ++ [.str x t]) nw') { s with heap := hh, toks := tk } := by
  refine ⟨hh, tk, (pen, penObj cl sp' he' u' v' 0) :: e3 :: e2 :: e1 :: fz, rfl, F, news_sub N ?_, off, sp', he', u', v', fz, txts ++ [x], rfl, hsub, hne, by omega, by omega, d0, strsAre_append hS (.cons _ _ .nil), ?_, by simp [hl]⟩
  · intro p hp
    simp only [List.mem_cons] at hp ⊢
    grind
  · intro y hy
    rcases List.mem_append.mp hy with hy | hy
    · exact hin y hy
    · rw [List.mem_singleton.mp hy]; exact hx
theorem short_emp : Short (Str.ofString "") := ⟨by decide, by decide +kernel⟩
/-- the four texts -/
theorem pickJ0S {h₀ h : Heap} {L : Addr} {fF : Led} {pen cl : Addr} {e3 e2 e1 : Addr × Obj} {ch : List Str} {sp he : Int} {u v : Tok} (_ : ∀ x ∈ ch, Short x) (N : News h₀ L h ((pen, penObj cl sp he u v 0) :: e3 :: e2 :: e1 :: fF)) (ne : ∀ p ∈ fF, p.1 ≠ pen) (s0 : 0 ≤ sp) (s1 : sp ≤ 90) (d0 : 0 ≤ he) :
    PickJ fF pen cl e3 e2 e1 ch 0 [] ((pen, penObj cl sp he u v 0) :: e3 :: e2 :: e1 :: fF) := pickJ0 N ne s0 s1 d0
theorem tail7 {a b c d e f g p : Addr × Obj} {l : Led} (h : p ∈ l) : p ∈ a :: b :: c :: d :: e :: f :: g :: l :=
  .tail _ (.tail _ (.tail _ (.tail _ (.tail _ (.tail _ (.tail _ h))))))
theorem tail9 {a b c d e f g i j p : Addr × Obj} {l : Led} (h : p ∈ l) : p ∈ a :: b :: c :: d :: e :: f :: g :: i :: j :: l :=
  .tail _ (.tail _ (tail7 h))
theorem ask_strs {vs ws : List Value} {rs os : List Rng} {m n : Int} {t u v : Tok} (y1 : StrsAre vs (labelsOf rs m.toNat)) (y2 : StrsAre ws (labelsOf os n.toNat)) :
    StrsAre ((vs ++ ws) ++ [.str (Str.ofString "1") t, .str (Str.ofString "ii") u, .str (Str.ofString "A-3") v]) (askL (labelsOf rs m.toNat ++ labelsOf os n.toNat)) := strsAre_append (strsAre_append y1 y2) strs3
theorem four_size {ys : List Value} {txts : List Str} {z : Value} (hS : StrsAre ys txts) (hl : txts.length = 3) : ys.length + [z].length ≤ sizeLine := by
  rw [hS.len_eq, hl]; exact Nat.le_trans (m := 100) (by show 3 + 1 ≤ 100; decide) (by decide)
theorem exM {m : Int} {rs : List Rng} (_ : RsOk m rs) : ∃ m', m' = m := ⟨m, rfl⟩
theorem four_shortA {ys : List Value} {txts ch : List Str} (hS : StrsAre ys txts) (hin : ∀ x ∈ txts, x ∈ ch) (hc : ∀ x ∈ ch, Short x) : ∃ zs, (∀ t, StrsAre (ys ++ [.str (Str.ofString "") t]) zs) ∧ ∀ x ∈ zs, Short x :=
  ⟨txts ++ [Str.ofString ""], fun t => strsAre_append hS (.cons _ _ .nil), fun x hx => by
    rcases List.mem_append.mp hx with hx | hx
    · exact hc x (hin x hx)
    · rw [List.mem_singleton.mp hx]; exact short_emp⟩
/-- between two texts -/
def LoopJ (l1 l2 l4 : Addr) (m n : Int) (r : List Value) (mm : Str → Option Value) : Prop :=
  ∃ zs tm tn, StrsAre r zs ∧ (∀ x ∈ zs, Short x) ∧ mm (Str.ofString "ranges") = some (.ref l1) ∧ mm (Str.ofString "others") = some (.ref l2) ∧ mm (Str.ofString "both") = some (.ref l4) ∧ mm (Str.ofString "many") = some (.int m tm) ∧ mm (Str.ofString "more") = some (.int n tn)
theorem tail8 {a b c d e f g i p : Addr × Obj} {l : Led} (h : p ∈ l) : p ∈ a :: b :: c :: d :: e :: f :: g :: i :: l := .tail _ (tail7 h)
theorem boolEnd {p j : Int} (h : ((p == -1) != decide (j = -1)) = true) (e : j = p) : False := by
  subst e
  by_cases c : j = -1
  · rw [c] at h; exact absurd h (by decide)
  · rw [decide_eq_false c, beq_false_of_ne c] at h; exact absurd h (by decide)
theorem retG {n spot : Int} {pen cl : Addr} {np : Nat} {fz : Led} {G : Value → Led → Prop} (K : ∀ l rs fz' sp he u v, Sub fz fz' → (∀ p ∈ fz', p.1 ≠ pen) → RngIn fz' l rs → RsOk n rs → spot ≤ sp → sp ≤ spot + 4 * n → 0 ≤ he → G (.ref l) ((pen, penObj cl sp he u v np) :: fz')) :
    Ret (fun v news' => ∃ l rs fz' spot' held' t1' t2', v = .ref l ∧ news' = (pen, penObj cl spot' held' t1' t2' np) :: fz' ∧ Sub fz fz' ∧ (∀ p ∈ fz', p.1 ≠ pen) ∧ RngIn fz' l rs ∧ RsOk n rs ∧ spot ≤ spot' ∧ spot' ≤ spot + 4 * n ∧ 0 ≤ held') G := by
  rintro r nw ⟨l, rs, fz', sp, he, u, v, rfl, rfl, a, b, c, d, e, f, g⟩; exact K l rs fz' sp he u v a b c d e f g
theorem retC {news : Led} {xs : List Rng} {G : Value → Led → Prop} (K : ∀ l nw, Sub news nw → RngIn nw l xs → G (.ref l) nw) : Ret (fun v news' => ∃ l', v = .ref l' ∧ Sub news news' ∧ RngIn news' l' xs) G := by
  rintro r nw ⟨l, rfl, a, b⟩; exact K l nw a b
theorem rebaseK {h₀ h : Heap} {L : Addr} {led : Led} {pen cl c1 c2 c3 : Addr} {o1 o2 o3 : Obj} {x1 x2 x3 : Option Value} {sp he : Int} {u v : Tok} {n : Nat} (N : News h₀ L h led)
    (hp : (pen, penObj cl sp he u v n) ∈ led) (m3 : (c3, o3) ∈ led) (m2 : (c2, o2) ∈ led) (m1 : (c1, o1) ∈ led) (d3 : o3.data = .cell x3) (d2 : o2.data = .cell x2) (d1 : o1.data = .cell x1) {G : Prop}
    (k : ∀ fA, News h₀ L h ((pen, penObj cl sp he u v n) :: (c3, o3) :: (c2, o2) :: (c1, o1) :: fA) → (∀ p ∈ fA, p.1 ≠ pen) → (∀ p ∈ fA, p.1 ≠ c3) → (∀ p ∈ fA, p.1 ≠ c2) → (∀ p ∈ fA, p.1 ≠ c1) → (∀ p ∈ led, Fine p.2 → p ∈ fA) → (∀ l xs, RngIn led l xs → RngIn fA l xs) → G) : G := by
  obtain ⟨fA, a, b, c, d, e, f, g⟩ := rebaseE N hp m3 m2 m1 d3 d2 d1
  exact k fA a b c d e f g
theorem rebaseFK {h₀ h : Heap} {L : Addr} {led fB : Led} {pen cl c1 c2 c3 : Addr} {o1 o2 o3 : Obj} {x1 x2 x3 : Option Value} {sp he : Int} {u v : Tok} {n : Nat} (N : News h₀ L h led) (_ : ∀ p ∈ fB, p.1 ≠ pen) (_ : ∀ p ∈ fB, p.1 ≠ c3) (_ : ∀ p ∈ fB, p.1 ≠ c2) (_ : ∀ p ∈ fB, p.1 ≠ c1)
    (hp : (pen, penObj cl sp he u v n) ∈ led) (m3 : (c3, o3) ∈ led) (m2 : (c2, o2) ∈ led) (m1 : (c1, o1) ∈ led) (d3 : o3.data = .cell x3) (d2 : o2.data = .cell x2) (d1 : o1.data = .cell x1) {G : Prop}
    (k : ∀ fA, News h₀ L h ((pen, penObj cl sp he u v n) :: (c3, o3) :: (c2, o2) :: (c1, o1) :: fA) → (∀ p ∈ fA, p.1 ≠ pen) → (∀ p ∈ fA, p.1 ≠ c3) → (∀ p ∈ fA, p.1 ≠ c2) → (∀ p ∈ fA, p.1 ≠ c1) → (∀ p ∈ led, Fine p.2 → p ∈ fA) → (∀ l xs, RngIn led l xs → RngIn fA l xs) → G) : G :=
  rebaseK N hp m3 m2 m1 d3 d2 d1 k
theorem sub6N {h₀ h : Heap} {L : Addr} {p q r c3 c2 c1 x : Addr × Obj} {fz : Led} (_ : News h₀ L h (x :: fz)) (s : Sub [p, q, r, c3, c2, c1] fz) : c3 ∈ x :: fz ∧ c2 ∈ x :: fz ∧ c1 ∈ x :: fz ∧ q ∈ x :: fz := sub6 s
theorem sub3N {h₀ h : Heap} {L : Addr} {c3 c2 c1 x : Addr × Obj} {fA fz : Led} (_ : News h₀ L h (x :: fz)) (s : Sub (c3 :: c2 :: c1 :: fA) fz) : c3 ∈ x :: fz ∧ c2 ∈ x :: fz ∧ c1 ∈ x :: fz ∧ ∀ p ∈ fA, p ∈ x :: fz := sub3 s
end
section
theorem words_L16 : True := by
  k_with "subscriptTail Name Slice ref ref" => ((k_here; (with_reducible show wpAny _ _ (subscriptTail _ _ (Value.ref _) (Value.ref _)) _ _ _); k_dflt (k_extra "slice")))
  k_with "compareOp NotIn str ref" => ((k_here; k_dflt (k_extra "notin")))
  k_with "call ref" => ((k_here; (with_reducible show wpAny _ _ (call (Value.ref 142) [Value.ref _, Value.int _ _, Value.ref _]) _ _ _); k_dflt (k_extra "joined")))
  k_with "exec For Name BinOp cons nil" => ((k_here; (rename Fr _ _ _ _ => lF'); (with_unfolding_all refine' For_turns lF' ?_; k_whole)))
  k_with "call ref" => ((k_here; (with_reducible show wpAny _ _ (call (Value.ref 125) [Value.ref _, Value.ref _]) _ _ _); k_dflt (k_extra "pick")))
  k_with "call ref" => ((k_here; (with_reducible show wpAny _ _ (call (Value.ref 94) [Value.ref _, Value.int _ _]) _ _ _); k_dflt (refine' Spec.useE (labels_of_specI _ _ _ _ _ _ _ ?h1 ?h2 ?h3 ?h4) ?k1 ?k2 ?k3 ?k4 ?k5 ?kK ?kd ?ku ?_; (case k1 => k_asm); (case k2 => k_asm); (case k3 => k_asm); (case k4 => k_asm); (case k5 => k_asm); (case h1 => first | assumption | omega | exact beq_eq_false_iff_ne.mp (by assumption) | exact RngIn.mono (by assumption) (by walk_at "mine_sub") | exact rngV_of (by k_mem) | exact RngV.mono (by assumption) (by walk_at "mine_sub")); (case h2 => first | assumption | omega | exact beq_eq_false_iff_ne.mp (by assumption) | exact RngIn.mono (by assumption) (by walk_at "mine_sub") | exact rngV_of (by k_mem) | exact RngV.mono (by assumption) (by walk_at "mine_sub")); (case h3 => first | assumption | omega | exact beq_eq_false_iff_ne.mp (by assumption) | exact RngIn.mono (by assumption) (by walk_at "mine_sub") | exact rngV_of (by k_mem) | exact RngV.mono (by assumption) (by walk_at "mine_sub")); (case h4 => first | assumption | omega | exact beq_eq_false_iff_ne.mp (by assumption) | exact RngIn.mono (by assumption) (by walk_at "mine_sub") | exact rngV_of (by k_mem) | exact RngV.mono (by assumption) (by walk_at "mine_sub")); (case kK => first | exact rfl | assumption); (case kd => ktr_room); (case ku => ktr_units)); intro h9z tk9z F9z; (refine retL (fun D9z ys9z y9z N9z => ?_)); all_goals ((try dsimp only); (try k_fold))))
  k_with "call ref" => ((k_here; (with_reducible show wpAny _ _ (call (Value.ref 106) [Value.ref _, Value.int _ _, Value.str _ _]) _ _ _); k_dflt (refine' Spec.useE (index_of_specI _ _ _ _ _ _ _ _ _ ?h1 ?h2 ?h3 ?h4 ?h5 ?h6 ?h7) ?k1 ?k2 ?k3 ?k4 ?k5 ?kK ?kd ?ku ?_; (case k1 => k_asm); (case k2 => k_asm); (case k3 => k_asm); (case k4 => k_asm); (case k5 => k_asm); (case h1 => first | assumption | omega | exact beq_eq_false_iff_ne.mp (by assumption) | exact RngIn.mono (by assumption) (by walk_at "mine_sub") | exact rngV_of (by k_mem) | exact RngV.mono (by assumption) (by walk_at "mine_sub")); (case h2 => first | assumption | omega | exact beq_eq_false_iff_ne.mp (by assumption) | exact RngIn.mono (by assumption) (by walk_at "mine_sub") | exact rngV_of (by k_mem) | exact RngV.mono (by assumption) (by walk_at "mine_sub")); (case h3 => first | assumption | omega | exact beq_eq_false_iff_ne.mp (by assumption) | exact RngIn.mono (by assumption) (by walk_at "mine_sub") | exact rngV_of (by k_mem) | exact RngV.mono (by assumption) (by walk_at "mine_sub")); (case h4 => first | assumption | omega | exact beq_eq_false_iff_ne.mp (by assumption) | exact RngIn.mono (by assumption) (by walk_at "mine_sub") | exact rngV_of (by k_mem) | exact RngV.mono (by assumption) (by walk_at "mine_sub")); (case h5 => first | assumption | omega | exact beq_eq_false_iff_ne.mp (by assumption) | exact RngIn.mono (by assumption) (by walk_at "mine_sub") | exact rngV_of (by k_mem) | exact RngV.mono (by assumption) (by walk_at "mine_sub")); (case h6 => first | assumption | omega | exact beq_eq_false_iff_ne.mp (by assumption) | exact RngIn.mono (by assumption) (by walk_at "mine_sub") | exact rngV_of (by k_mem) | exact RngV.mono (by assumption) (by walk_at "mine_sub")); (case h7 => first | assumption | omega | exact beq_eq_false_iff_ne.mp (by assumption) | exact RngIn.mono (by assumption) (by walk_at "mine_sub") | exact rngV_of (by k_mem) | exact RngV.mono (by assumption) (by walk_at "mine_sub")); (case kK => first | exact rfl | assumption); (case kd => ktr_room); (case ku => ktr_units)); intro h9z tk9z F9z; (refine ret1 (fun t9z N9z => ?_)); all_goals ((try dsimp only); (try k_fold))))
  k_with "mine_sides" => (((case k1 => k_asm); (case k2 => k_asm); (case k3 => k_asm); (case k4 => first | k_asm | exact news_pull1 (by k_asm) | exact news_pull2 (by k_asm) | exact news_pull3 (by k_asm)); (case k5 => k_asm); (case h1 => first | assumption | k_mem); (case h2 => first | assumption | k_all); (case h3 => assumption); (case h4 => assumption); (case h5 => omega); (case h6 => omega); (case h7 => omega); (case h8 => omega); (case h9 => omega); (case kK => exact rfl); (case kd => ktr_room); (case ku => ktr_units)))
  trivial
set_option maxHeartbeats 8000000 in
theorem t0 : PySem.Challenge.rw_og0126_01.Holds := hd (by
  w_strict (
    k_go0
    all_goals try k_fold
    walk1
    walk_at "exec Assign"
    (iterate 36 (all_goals try walk1))
    obtain ⟨ns, hIns, hn40⟩ : ∃ ns, IntsAre ys ns ∧ ns.length ≤ 40 := ⟨_, ‹IntsAre ys _›, take40⟩
    (iterate 47 (all_goals try walk1))
    k_here
    refine' Spec.useE (ranges_specI _ _ _ _ _ _ _ _ _ _ _ _ _ _ _ ?h1 ?h2 ?h3 ?h4 ?h5 ?h6 ?h7 ?h8 ?h9) ?k1 ?k2 ?k3 ?k4 ?k5 ?kK ?kd ?ku ?_
    walk_at "mine_sides"
    intro h9 tk9 F9
    refine retG (fun l1 rs1 fz1 sp1 he1 u1 v1 sb1 ne1 ri1 ro1 sA1 sB1 hA1 N9 => ?_)
    refine and4 (sub6N N9 sb1) (fun m3 m2 m1 mq => ?_)
    refine rebaseK N9 List.mem_cons_self m3 m2 m1 (by assumption) (by assumption) (by assumption) (fun fA NA neA nA3 nA2 nA1 finA rinA => ?_)
    have hcl := finA _ mq (fine_ints hIns)
    have ri1' := rinA _ _ (ri1.mono (fun p hp => List.mem_cons_of_mem _ hp))
    clear N9 ri1 finA rinA m3 m2 m1 mq sb1 ne1
    dsimp only
    try k_fold
    (iterate 10 (all_goals try walk1))
    k_here
    refine' Spec.useE (ranges_specI _ _ _ _ _ _ _ _ _ _ _ _ _ _ _ ?h1 ?h2 ?h3 ?h4 ?h5 ?h6 ?h7 ?h8 ?h9) ?k1 ?k2 ?k3 ?k4 ?k5 ?kK ?kd ?ku ?_
    walk_at "mine_sides"
    intro h9 tk9 F9
    refine retG (fun l2 rs2 fz2 sp2 he2 u2 v2 sb2 ne2 ri2 ro2 sA2 sB2 hA2 N9 => ?_)
    refine and4 (sub3N N9 sb2) (fun m3 m2 m1 mf => ?_)
    refine rebaseK N9 List.mem_cons_self m3 m2 m1 (by assumption) (by assumption) (by assumption) (fun fB NB neB nB3 nB2 nB1 finB rinB => ?_)
    have hclB := finB _ (mf _ hcl) (fine_ints hIns)
    have ri2' := rinB _ _ (ri2.mono (fun p hp => List.mem_cons_of_mem _ hp))
    have ri1B := rinB _ _ (ri1'.mono mf)
    have ok1 : ∀ x ∈ rs1, RngOk x := fun x hx => (ro1.each x hx).1
    have ok2 : ∀ x ∈ rs2, RngOk x := fun x hx => (ro2.each x hx).1
    clear NA hcl ri1' neA nA3 nA2 nA1 N9 ri2 finB rinB m3 m2 m1 mf sb2 ne2
    dsimp only
    try k_fold
    (iterate 52 (all_goals try walk1))
    have y1 := ‹StrsAre _ (labelsOf rs1 _)›
    have y2 := ‹StrsAre _ (labelsOf rs2 _)›
    rename News _ _ _ (_ :: _ :: _ :: _ :: _ :: _) => NN
    refine rebaseFK NN neB nB3 nB2 nB1 (by k_mem) (by k_mem) (by k_mem) (by k_mem) (by assumption) (by assumption) (by assumption) (fun fC NC neC nC3 nC2 nC1 finC rinC => ?_)
    have hclC := finC _ (by k_mem : (_, LCg.lst ys) ∈ _) (fine_ints hIns)
    have hy1 := finC _ (List.mem_cons_of_mem _ (List.mem_cons_of_mem _ List.mem_cons_self)) (fine_strs y1)
    have hy2 := finC _ (List.mem_cons_of_mem _ List.mem_cons_self) (fine_strs y2)
    have ri1C := rinC _ _ (ri1B.mono (fun p hp => by (repeat (refine List.mem_cons_of_mem _ ?_)); exact hp))
    have ri2C := rinC _ _ (ri2'.mono (fun p hp => by (repeat (refine List.mem_cons_of_mem _ ?_)); exact hp))
    clear NN hclB ri1B ri2' neB nB3 nB2 nB1 finC rinC
    have few1 : rs1.length ≤ 10 := Nat.le_trans ro1.few (by decide)
    have few2 : rs2.length ≤ 10 := Nat.le_trans ro2.few (by decide)
    (iterate 38 (all_goals try walk1))
    k_here
    refine' Spec.useE (cut_spec _ _ _ _ _ _ _ ?h1 few1) ?k1 ?k2 ?k3 ?k4 ?k5 ?kK ?kd ?ku ?_
    case k1 => k_asm
    case k2 => k_asm
    case k3 => k_asm
    case k4 => k_asm
    case k5 => k_asm
    case h1 => exact RngIn.mono ri1C (by walk_at "mine_sub")
    case kK => exact rfl
    case kd => ktr_room
    case ku => ktr_units
    intro h9 tk9 F9
    refine retC (fun l3 nw9 sb3 ri3 N9 => ?_)
    refine rebaseFK N9 neC nC3 nC2 nC1 (sb3 _ (by k_mem)) (sb3 _ (by k_mem)) (sb3 _ (by k_mem)) (sb3 _ (by k_mem)) (by assumption) (by assumption) (by assumption) (fun fD ND neD nD3 nD2 nD1 finD rinD => ?_)
    have hclD := finD _ (sb3 _ (List.mem_cons_of_mem _ (List.mem_cons_of_mem _ (List.mem_cons_of_mem _ (List.mem_cons_of_mem _ hclC))))) (fine_ints hIns)
    have hy1D := finD _ (sb3 _ (List.mem_cons_of_mem _ (List.mem_cons_of_mem _ (List.mem_cons_of_mem _ (List.mem_cons_of_mem _ hy1))))) (fine_strs y1)
    have hy2D := finD _ (sb3 _ (List.mem_cons_of_mem _ (List.mem_cons_of_mem _ (List.mem_cons_of_mem _ (List.mem_cons_of_mem _ hy2))))) (fine_strs y2)
    have ri3D := rinD _ _ ri3
    have ri1D := rinD _ _ ((ri1C.mono (fun p hp => by (repeat (refine List.mem_cons_of_mem _ ?_)); exact hp)).mono sb3)
    have ri2D := rinD _ _ ((ri2C.mono (fun p hp => by (repeat (refine List.mem_cons_of_mem _ ?_)); exact hp)).mono sb3)
    clear N9 hclC hy1 hy2 ri1C ri2C ri3 neC nC3 nC2 nC1 finD rinD sb3
    dsimp only
    try k_fold
    have okC := okCut ri3D ro1 (by assumption) (by assumption) (by assumption)
    (iterate 8 (all_goals try walk1))
    have yc := ‹StrsAre _ (labelsOf (cutOf rs1 _) _)›
    k_with "slice" => (refine' kmk_slice_lit (by k_asm) (by k_asm) (News.isList (by k_asm) (List.mem_cons_of_mem _ (List.mem_cons_of_mem _ (List.mem_cons_of_mem _ (List.mem_cons_of_mem _ (List.mem_cons_of_mem _ hy1D)))))) (IsPart.int _ _) IsPart.none (pick_from (by assumption)) ?_ ?s ?t ?z; (case s => with_unfolding_all rfl); (case t => (intro _; with_unfolding_all rfl)); (case z => exact strs_size y1 (by assumption)); intro DS hS FS NS ltS)
    k_with "ne" => (refine cut_ne (News.isList (by k_asm) (List.mem_cons_of_mem _ List.mem_cons_self)) (News.isList (by k_asm) List.mem_cons_self) yc y1 ro1 (by assumption) (by assumption) (by assumption) (by ktr_units) ?_)
    (iterate 15 (all_goals try walk1))
    clear ltS ri3D okC yc
    (iterate 11 (all_goals try walk1))
    k_here
    refine' Spec.useE (joined_spec _ _ _ _ _ _ _ _ _ ?h1 few1 ?h2 few2) ?k1 ?k2 ?k3 ?k4 ?k5 ?kK ?kd ?ku ?_
    case k1 => k_asm
    case k2 => k_asm
    case k3 => k_asm
    case k4 => exact NS
    case k5 => k_asm
    case h1 => exact RngIn.mono ri1D (by walk_at "mine_sub")
    case h2 => exact RngIn.mono ri2D (by walk_at "mine_sub")
    case kK => exact rfl
    case kd => ktr_room
    case ku => ktr_units
    intro h9 tk9 F9
    refine retC (fun l4 nw9 sb4 ri4 N9 => ?_)
    refine and5 (sub5 sb4) (fun m4p m43 m42 m41 m4f => ?_)
    refine rebaseFK N9 neD nD3 nD2 nD1 m4p m43 m42 m41 (by assumption) (by assumption) (by assumption) (fun fE NE neE nE3 nE2 nE1 finE rinE => ?_)
    have hclE := finE _ (m4f _ hclD) (fine_ints hIns)
    have hy1E := finE _ (m4f _ hy1D) (fine_strs y1)
    have hy2E := finE _ (m4f _ hy2D) (fine_strs y2)
    have ri4E := rinE _ _ ri4
    have ri1E := rinE _ _ (ri1D.mono m4f)
    have ri2E := rinE _ _ (ri2D.mono m4f)
    have okJ := okJoin ri4E ro1 ro2 (by assumption) (by assumption) (by assumption) (by assumption)
    have lenJ := joinedOf_len (m := _) ro1 ro2
    clear N9 NS ND hclD hy1D hy2D ri1D ri2D ri4 neD nD3 nD2 nD1 finE rinE sb4 m4p m43 m42 m41 m4f
    dsimp only
    try k_fold
    (iterate 24 (all_goals try walk1))
    have yj := ‹StrsAre _ (labelsOf (joinedOf rs1 _ rs2) _)›
    k_with "add" => (refine add_listsE (by k_asm) (by k_asm) (News.isList (by k_asm) (List.mem_cons_of_mem _ (List.mem_cons_of_mem _ (List.mem_cons_of_mem _ (List.mem_cons_of_mem _ (List.mem_cons_of_mem _ hy1E)))))) (News.isList (by k_asm) (List.mem_cons_of_mem _ (List.mem_cons_of_mem _ (List.mem_cons_of_mem _ (List.mem_cons_of_mem _ (List.mem_cons_of_mem _ hy2E)))))) (two_size y1 y2 (by assumption) (by assumption)) (fun EA hA ltA FA NA => ?_))
    k_with "ne" => (refine joined_ne (News.isList (by k_asm) (List.mem_cons_of_mem _ List.mem_cons_self)) (News.isList (by k_asm) List.mem_cons_self) yj y1 y2 ro1 ro2 (by assumption) (by assumption) (by assumption) (by assumption) (by ktr_units) ?_)
    (iterate 7 (all_goals try walk1))
    refine and5 (mem5 NA) (fun m5p m53 m52 m51 m5f => ?_)
    refine rebaseFK NA neE nE3 nE2 nE1 m5p m53 m52 m51 (by assumption) (by assumption) (by assumption) (fun fF NF neF nF3 nF2 nF1 finF rinF => ?_)
    have hclF := finF _ (m5f _ hclE) (fine_ints hIns)
    have hy1F := finF _ (m5f _ hy1E) (fine_strs y1)
    have hy2F := finF _ (m5f _ hy2E) (fine_strs y2)
    have ri4F := rinF _ _ (ri4E.mono m5f)
    have ri1F := rinF _ _ (ri1E.mono m5f)
    have ri2F := rinF _ _ (ri2E.mono m5f)
    have hshort := ask_short ro1 ro2 (by assumption) (by assumption) (by assumption) (by assumption)
    have hJ0 := pickJ0S hshort NF neF (by omega) (by omega) (by assumption)
    clear ltA yj NA hclE hy1E hy2E ri1E ri2E ri4E neE nE3 nE2 nE1 finF rinF m5p m53 m52 m51 m5f
    k_with "csrc" => (refine LCg.CompSrc.range (n := 3) (by rfl) (by k_asm) (by k_asm) (by assumption) (by decide) (by decide) (Nat.le_trans (m := 100) (by decide) (by decide)) ?_; intro g9)
    k_with "comp" => (refine compU_inv (PickJ fF _ _ _ _ _ _) hJ0 (fun _ _ _ _ => trivial) (fun i v ys nw I oI C oC D m₂ h tk E' hi hv hj hC hx F1 N1 off ne => Hold.out ?turn) (fun ys nw hj => Hold.out ?fin))
    (iterate 14 (all_goals try walk1))
    case turn =>
      obtain ⟨sp5, he5, u5, v5, fz, txts, rfl, hsub, hne, s50, s51, d50, hS, hin, hlen⟩ := hj
      have hclZ := hsub _ hclF
      have hy1Z := hsub _ hy1F
      have hy2Z := hsub _ hy2F
      obtain ⟨t5, rfl⟩ := hv
      clear hJ0 hclF hy1F hy2F
      k_with "add" => (first
        | refine add_listsE (by k_asm) (by k_asm) (News.isList (by k_asm) (tail7 hy1Z)) (News.isList (by k_asm) (tail7 hy2Z)) (two_size y1 y2 (by assumption) (by assumption)) (fun EB hB ltB FB NB => ?_)
        | refine add_listsE (ws := [_, _, _]) (by k_asm) (by k_asm) (News.isList (by k_asm) (List.mem_cons_of_mem _ List.mem_cons_self)) (News.isList (by k_asm) List.mem_cons_self) (three_size y1 y2 (by assumption) (by assumption) (Nat.le_refl 3)) (fun EC hC ltC FC NC => ?_))
      refine Hold.put ?_
      (iterate 24 (try walk1))
      k_here
      refine' Spec.useE (pick_spec _ _ _ _ _ _ _ _ _ _ _ _ _ _ _ _ _ (tail9 hclZ) (pickNe NC (fine_strs (ask_strs y1 y2)) (fine_strs strs3) (fine_strs (strsAre_append y1 y2)) off (by assumption) (by assumption) (by assumption) hne) hIns hn40 s50 ?h6 d50 List.mem_cons_self (ask_strs y1 y2) (ask_len (by assumption) (by assumption)).1 (ask_len (by assumption) (by assumption)).2) ?k1 ?k2 ?k3 (news_pull6 NC) ?k5 ?kK ?kd ?ku ?_
      case k1 => k_asm
      case k2 => k_asm
      case k3 => k_asm
      case k5 => k_asm
      case h6 => omega
      case kK => first | exact rfl | assumption
      case kd => ktr_room
      case ku => ktr_units
      intro h9 tk9 F9
      refine retP (fun x9 t9 sp9 he9 u9 v9 xm9 sA9 sB9 hA9 N9 => ?_)
      dsimp only
      (iterate 4 (try walk1))
      exact pickEnd (by k_asm) (by k_asm) off hsub hne s50 s51 (by assumption) (by assumption) (by assumption) hS hin hlen (by assumption)
    case fin =>
      obtain ⟨sp5, he5, u5, v5, fz, txts, rfl, hsub, hne, s50, s51, d50, hS, hin, hlen⟩ := hj
      have hy1Z := hsub _ hy1F
      have hy2Z := hsub _ hy2F
      have ri1Z := ri1F.mono hsub
      have ri2Z := ri2F.mono hsub
      have ri4Z := ri4F.mono hsub
      clear hJ0 hclF hy1F hy2F ri1F ri2F ri4F
      k_with "add" => (refine add_listsE (vs := ys) (ws := [_]) (by k_asm) (by k_asm) (News.isList (by k_asm) (List.mem_cons_of_mem _ List.mem_cons_self)) (News.isList (by k_asm) List.mem_cons_self) (four_size hS hlen) (fun EB hB ltB FB NB => ?_))
      refine Hold.put ?_
      obtain ⟨zs, hz, hzs⟩ := four_shortA hS hin hshort
      obtain ⟨m, hm⟩ := exM ro1
      subst hm
      obtain ⟨n, hn⟩ := exM ro2
      subst hn
      k_with "iter" => (refine iter_listTurns (by rfl) (by k_asm) (by k_asm) List.mem_cons_self (by rfl) (by rfl) (fun I lt => ?_))
      k_with "items" => (refine itemsFixL lt (subL1 List.mem_cons_self) (fun led r mm => LoopJ l1 l2 l4 m n r mm) (fun v r mm h tk it hit hJ F1 N1 => Hold.out ?lturn) (fun mm h tk hJ F1 N1 => Hold.out ?ldone) ⟨zs, _, _, hz _, hzs, rfl, rfl, rfl, rfl, rfl⟩)
      (iterate 9 (try walk1))
      case ldone =>
        obtain ⟨zs, tm, tn, hz, hzs, e1, e2, e3, e4, e5⟩ := hJ
        have F2 := Fr.named5 F1 e1 e2 e3 e4 e5
        clear F1
        refine Hold.put ?_
        k_steps
      case lturn =>
        obtain ⟨zs, tm, tn, hz, hzs, e1, e2, e3, e4, e5⟩ := hJ
        cases hz with | @cons x t _ zs hz =>
        obtain ⟨hx, hox⟩ := hzs _ (.head _)
        have hzs' : ∀ y ∈ zs, Short y := fun y hy => hzs y (.tail _ hy)
        have F2 := Fr.named5 F1 e1 e2 e3 e4 e5
        clear F1 hzs
        k_with "add" => (refine add_listsE (by k_asm) (by k_asm) (News.isList (by k_asm) (tail8 hy1Z)) (News.isList (by k_asm) (tail8 hy2Z)) (two_size y1 y2 (by assumption) (by assumption)) (fun EE hE ltE FE NE => ?_))
        k_with "notin" => (refine notin_both (News.isList (by k_asm) List.mem_cons_self) y1 y2 rfl ro1 ro2 (by assumption) (by assumption) (by assumption) (by assumption) ?_)
        refine Hold.put ?_
        k_steps
        all_goals first
          | exact ⟨_, _, _, rfl, by k_asm, by walk_at "mine_news", zs, _, _, hz, hzs', rfl, rfl, rfl, rfl, rfl⟩
          | exact (boolEnd ‹(((_ : Int) == -1) != _) = true› ‹idxI (joinedOf rs1 m rs2) (m + n) x = _›).elim
          | (exfalso; have hp := place_cases x ro1 ro2 (by assumption) (by assumption) (by assumption) (by assumption); omega)
          | (trace "END"; fail)
    done))
end
end Mine
end
theorem PySem.Challenge.cw_og0126_01_holds : PySem.Challenge.rw_og0126_01.Holds :=
  Mine.t0
