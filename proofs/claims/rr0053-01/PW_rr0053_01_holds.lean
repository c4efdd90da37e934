import PyProof.Rows.All
import Wide.All
import OpenK.AllK
import Wide.FinOn
import Lean
import PySem.Challenge.RW_rr0053_01
open PySem PySem.W PyProof.Rows
set_option Elab.async false
set_option maxRecDepth 100000
set_option maxHeartbeats 8000000

-- part head
namespace Mine
open_top hd for PySem.Challenge.rw_rr0053_01
end Mine

-- part base
namespace Mine
theorem off_base : True := by
  w_top off
  trivial
/-- a call of one of the text's functions, from a frame of the call's: it comes back with a value of which R holds; what the ledger said still stands -/
def Gives (w : World) (f : Addr) (vs : List Value) (k : Nat) (news : List (Addr × Obj)) (R : Value → Prop) : Prop :=
  ∀ (p : Program) (loose : List Str) (mean : ExcName → Option Value) (mg mb : Str → Option Value) (dp un : Nat) (gd : Option (List Code)) (cn : Str) (cs : Scope) (a : Addr) (ccd : Value) (cl : List (Str × Addr)) (outer : List Env) (A₀ : Around) (base h₀ : Heap) (L : Addr) (m : Str → Option Value) (s : Shared) (Q E : Value → Shared → Prop),
    Below A₀ base outer h₀ → Fr h₀ L s.heap m → (hd.heap_39 w.params).In h₀ → News h₀ L s.heap news → Top p loose mean mg mb h₀ → cs.kind = .function →
    dp + k < recursionLimit → un + 8 * k < cLine →
    (∀ v h' tk', R v → Fr h₀ L h' m → News h₀ L h' news → Q v { s with heap := h', toks := tk' }) →
    wpAny (model PySem.Challenge.rw_rr0053_01.row.prog w) (ktrTop dp un gd cn cs L a ccd cl outer) (call (.ref f) vs) Q E s

/-- the same, where the ledger may have grown or turned: R tells the value and the ledger -/
def GivesN (w : World) (f : Addr) (vs : List Value) (k : Nat) (news : List (Addr × Obj)) (R : Value → List (Addr × Obj) → Prop) : Prop :=
  ∀ (p : Program) (loose : List Str) (mean : ExcName → Option Value) (mg mb : Str → Option Value) (dp un : Nat) (gd : Option (List Code)) (cn : Str) (cs : Scope) (a : Addr) (ccd : Value) (cl : List (Str × Addr)) (outer : List Env) (A₀ : Around) (base h₀ : Heap) (L : Addr) (m : Str → Option Value) (s : Shared) (Q E : Value → Shared → Prop),
    Below A₀ base outer h₀ → Fr h₀ L s.heap m → (hd.heap_39 w.params).In h₀ → News h₀ L s.heap news → Top p loose mean mg mb h₀ → cs.kind = .function →
    dp + k < recursionLimit → un + 8 * k < cLine →
    (∀ v nx h' tk', R v nx → Fr h₀ L h' m → News h₀ L h' nx → Q v { s with heap := h', toks := tk' }) →
    wpAny (model PySem.Challenge.rw_rr0053_01.row.prog w) (ktrTop dp un gd cn cs L a ccd cl outer) (call (.ref f) vs) Q E s

section
variable {w : World} {f : Addr} {vs : List Value} {k : Nat} {news : List (Addr × Obj)} {p : Program} {loose : List Str} {mean : ExcName → Option Value} {mg mb : Str → Option Value} {dp un : Nat} {gd : Option (List Code)} {cn : Str} {cs : Scope} {a : Addr} {ccd : Value} {cl : List (Str × Addr)} {outer : List Env} {A₀ : Around} {base h₀ : Heap} {L : Addr} {m : Str → Option Value} {s : Shared} {Q E : Value → Shared → Prop}
theorem Gives.use {R : Value → Prop} (G : Gives w f vs k news R) (B : Below A₀ base outer h₀) (F : Fr h₀ L s.heap m) (X : (hd.heap_39 w.params).In h₀) (N : News h₀ L s.heap news) (T : Top p loose mean mg mb h₀) (hk : cs.kind = .function)
    (hd : dp + k < recursionLimit) (hu : un + 8 * k < cLine) (ret : ∀ v h' tk', R v → Fr h₀ L h' m → News h₀ L h' news → Q v { s with heap := h', toks := tk' }) :
    wpAny (model PySem.Challenge.rw_rr0053_01.row.prog w) (ktrTop dp un gd cn cs L a ccd cl outer) (call (.ref f) vs) Q E s := G p loose mean mg mb dp un gd cn cs a ccd cl outer A₀ base h₀ L m s Q E B F X N T hk hd hu ret
theorem GivesN.use {R : Value → List (Addr × Obj) → Prop} (G : GivesN w f vs k news R) (B : Below A₀ base outer h₀) (F : Fr h₀ L s.heap m) (X : (hd.heap_39 w.params).In h₀) (N : News h₀ L s.heap news) (T : Top p loose mean mg mb h₀) (hk : cs.kind = .function)
    (hd : dp + k < recursionLimit) (hu : un + 8 * k < cLine) (ret : ∀ v nx h' tk', R v nx → Fr h₀ L h' m → News h₀ L h' nx → Q v { s with heap := h', toks := tk' }) :
    wpAny (model PySem.Challenge.rw_rr0053_01.row.prog w) (ktrTop dp un gd cn cs L a ccd cl outer) (call (.ref f) vs) Q E s := G p loose mean mg mb dp un gd cn cs a ccd cl outer A₀ base h₀ L m s Q E B F X N T hk hd hu ret
end

/-- a turn of a while: its state is told by c -/
def TurnEnd {σ : Type} (h₀ : Heap) (L : Addr) (s : Shared) (Led : σ → List (Addr × Obj)) (ps : σ → List (Str × Value)) (P : σ → Prop) (μ : σ → Nat) (Q : Flow → Shared → Prop) (c : σ) (f : Flow) (s₂ : Shared) : Prop :=
  match f with
  | .ret v => Q (.ret v) s₂
  | .brk => Q .next s₂
  | _ => ∃ (c' : σ) (h' : Heap) (tk : Nat) (m' : Str → Option Value), s₂ = { s with heap := h', toks := tk } ∧ Fr h₀ L h' m' ∧ News h₀ L h' (Led c') ∧ (∀ p ∈ ps c', m' p.1 = some p.2) ∧ P c' ∧ μ c' < μ c

theorem kstB_self {m : Str → Option Value} {ps : List (Str × Value)} (h : ∀ p ∈ ps, m p.1 = some p.2) : kstB m ps = m := by
  funext y
  exact kstB_eq h fun _ => rfl

section
variable {prog : Program} {w : World} {A : Around} {E : Value → Shared → Prop} {Q : Flow → Shared → Prop} {s : Shared} {env : Env} {h₀ : Heap} {L : Addr}
theorem whileS {σ : Type} {test : Expr} {body : List Stmt} {pos : Pos} {m₀ : Str → Option Value} (Led : σ → List (Addr × Obj)) (ps : σ → List (Str × Value)) (P : σ → Prop) (μ : σ → Nat) (c₀ : σ)
    (F : Fr h₀ L s.heap m₀) (N : News h₀ L s.heap (Led c₀)) (hk : ∀ p ∈ ps c₀, m₀ p.1 = some p.2) (hp : P c₀)
    (turn : ∀ (c : σ) (u : Str → Option Value) h tk, P c → Fr h₀ L h (kstB u (ps c)) → News h₀ L h (Led c) →
      wpAny (model prog w) A (isTrue test env (eval test env)) (fun b s₂ =>
        if b = true then wpAny (model prog w) A (execs body env) (TurnEnd h₀ L s Led ps P μ Q c) E s₂ else Q .next s₂) E { s with heap := h, toks := tk })
    (hE : PassesOwn (model prog w) A env E := by passes_own) :
    wpAny (model prog w) A (exec (.While test body [] pos) env) Q E s := by
  refine While_inv2 (fun n m nx => ∃ c : σ, nx = Led c ∧ μ c = n ∧ (∀ p ∈ ps c, m p.1 = some p.2) ∧ P c) F N ⟨c₀, rfl, rfl, hk, hp⟩ ?_ hE
  rintro n m₁ nx h tk F₁ N₁ ⟨c, hnx, hsz, h1, hp'⟩
  rw [hnx] at N₁
  rw [← hsz]
  rw [← kstB_self h1] at F₁
  refine wpAny_mono (turn c m₁ h tk hp' F₁ N₁) (fun b s₂ p => ?_) fun _ _ x => x
  cases b with
  | false => simpa using p
  | true =>
    simp only [if_true] at p ⊢
    refine wpAny_mono p (fun f s₃ q => ?_) fun _ _ x => x
    cases f with
    | ret v => exact q
    | brk => exact q
    | next =>
      obtain ⟨c', h', tk', m', rfl, F', N', hk9, hp9, hm9⟩ := q
      exact ⟨h', tk', m', Led c', μ c', rfl, F', N', hm9, c', rfl, rfl, hk9, hp9⟩
    | cont =>
      obtain ⟨c', h', tk', m', rfl, F', N', hk9, hp9, hm9⟩ := q
      exact ⟨h', tk', m', Led c', μ c', rfl, F', N', hm9, c', rfl, rfl, hk9, hp9⟩
theorem turn_end {σ : Type} {h₀ : Heap} {L : Addr} {s : Shared} {Led : σ → List (Addr × Obj)} {ps : σ → List (Str × Value)} {P : σ → Prop} {μ : σ → Nat} {c : σ} {h' : Heap} {tk : Nat} {m' : Str → Option Value} (c' : σ)
    (F : Fr h₀ L h' m') (N : News h₀ L h' (Led c')) (hk : ∀ p ∈ ps c', m' p.1 = some p.2) (hp : P c') (hm : μ c' < μ c) : TurnEnd h₀ L s Led ps P μ Q c .next { s with heap := h', toks := tk } :=
  ⟨c', h', tk, m', rfl, F, N, hk, hp, hm⟩
/-- ways that meet: what a statement leaves behind, told by c -/
def Met {σ : Type} (h₀ : Heap) (L : Addr) (s : Shared) (Led : σ → List (Addr × Obj)) (ps : σ → List (Str × Value)) (P : σ → Prop) (f : Flow) (s₂ : Shared) : Prop :=
  f = .next ∧ ∃ (c : σ) (h' : Heap) (tk : Nat) (m' : Str → Option Value), s₂ = { s with heap := h', toks := tk } ∧ Fr h₀ L h' m' ∧ News h₀ L h' (Led c) ∧ (∀ p ∈ ps c, m' p.1 = some p.2) ∧ P c
theorem met {σ : Type} {h₀ : Heap} {L : Addr} {s : Shared} {Led : σ → List (Addr × Obj)} {ps : σ → List (Str × Value)} {P : σ → Prop} {h' : Heap} {tk : Nat} {m' : Str → Option Value} (c : σ)
    (F : Fr h₀ L h' m') (N : News h₀ L h' (Led c)) (hk : ∀ p ∈ ps c, m' p.1 = some p.2) (hp : P c) : Met h₀ L s Led ps P .next { s with heap := h', toks := tk } := ⟨rfl, c, h', tk, m', rfl, F, N, hk, hp⟩
theorem joinS {σ : Type} {t : Sem Flow} {A : Around} {M : Model} {m₀ : Str → Option Value} (F0 : Fr h₀ L s.heap m₀) (Led : σ → List (Addr × Obj)) (ps : σ → List (Str × Value)) (P : σ → Prop) (h1 : wpAny M A t (Met h₀ L s Led ps P) E s)
    (h2 : ∀ (c : σ) (u : Str → Option Value) h tk, P c → Fr h₀ L h (kstB u (ps c)) → News h₀ L h (Led c) → Q .next { s with heap := h, toks := tk }) : wpAny M A t Q E s := by
  refine wpAny_mono h1 (fun f s₂ p => ?_) fun _ _ x => x
  obtain ⟨rfl, c, h', tk, m', rfl, F, N, hk, hp⟩ := p
  rw [← kstB_self hk] at F
  exact h2 c m' h' tk hp F N
/-- ways that meet, the frame and the ledger as they were -/
def MetA {α : Type} (h₀ : Heap) (L : Addr) (s : Shared) (m : Str → Option Value) (news : List (Addr × Obj)) (R : α → Prop) (a : α) (s₂ : Shared) : Prop :=
  ∃ (h' : Heap) (tk : Nat), s₂ = { s with heap := h', toks := tk } ∧ Fr h₀ L h' m ∧ News h₀ L h' news ∧ R a
theorem metA {α : Type} {h₀ : Heap} {L : Addr} {s : Shared} {m : Str → Option Value} {news : List (Addr × Obj)} {R : α → Prop} {a : α} {h' : Heap} {tk : Nat} (F : Fr h₀ L h' m) (N : News h₀ L h' news) (r : R a) :
    MetA h₀ L s m news R a { s with heap := h', toks := tk } := ⟨h', tk, rfl, F, N, r⟩
theorem joinA {α : Type} {t : Sem α} {A : Around} {M : Model} {m : Str → Option Value} {news : List (Addr × Obj)} {Q : α → Shared → Prop} (R : α → Prop) (F0 : Fr h₀ L s.heap m) (N0 : News h₀ L s.heap news) (h1 : wpAny M A t (MetA h₀ L s m news R) E s)
    (h2 : ∀ a h tk, R a → Fr h₀ L h m → News h₀ L h news → Q a { s with heap := h, toks := tk }) : wpAny M A t Q E s := by
  refine wpAny_mono h1 (fun a s₂ p => ?_) fun _ _ x => x
  obtain ⟨h', tk, rfl, F, N, r⟩ := p
  exact h2 a h' tk r F N
theorem while0 {test : Expr} {body : List Stmt} {pos : Pos} {m : Str → Option Value} {news : List (Addr × Obj)} (F : Fr h₀ L s.heap m) (N : News h₀ L s.heap news)
    (turn : ∀ h tk, Fr h₀ L h m → News h₀ L h news →
      wpAny (model prog w) A (isTrue test env (eval test env)) (fun b s₂ => if b = true then False else Q .next s₂) E { s with heap := h, toks := tk })
    (hE : PassesOwn (model prog w) A env E := by passes_own) :
    wpAny (model prog w) A (exec (.While test body [] pos) env) Q E s := by
  refine While_inv2 (fun _ m' nx => m' = m ∧ nx = news) (n₀ := 0) F N ⟨rfl, rfl⟩ ?_ hE
  rintro n m₁ nx h tk F₁ N₁ ⟨rfl, rfl⟩
  refine wpAny_mono (turn h tk F₁ N₁) (fun b s₂ p => ?_) fun _ _ x => x
  cases b with
  | false => simpa using p
  | true => exact False.elim (by simp at p)
theorem turn_ret {σ : Type} {h₀ : Heap} {L : Addr} {s : Shared} {Led : σ → List (Addr × Obj)} {ps : σ → List (Str × Value)} {P : σ → Prop} {μ : σ → Nat} {c : σ} {v : Value} {s₂ : Shared} (h : Q (.ret v) s₂) : TurnEnd h₀ L s Led ps P μ Q c (.ret v) s₂ := h
theorem newsOf {h : Heap} {l l' : List (Addr × Obj)} (N : News h₀ L h l) (hs : ∀ p ∈ l', p ∈ l) : News h₀ L h l' := fun p hp => N p (hs p hp)
end

/-- what a turn of a for leaves behind -/
def KF {σ : Type} (Led : σ → List (Addr × Obj)) (ps : σ → List (Str × Value)) (P : σ → Prop) (m : Str → Option Value) (nx : List (Addr × Obj)) : Prop :=
  ∃ c : σ, nx = Led c ∧ (∀ p ∈ ps c, m p.1 = some p.2) ∧ P c
theorem for_end {σ : Type} {h₀ : Heap} {Led : σ → List (Addr × Obj)} {ps : σ → List (Str × Value)} {P : σ → Prop} (c : σ) {L : Addr} {m' : Str → Option Value} {own news' : List (Addr × Obj)} {adr : List Addr} {s₁ : Shared} {h' : Heap} {tk : Nat}
    (F : Fr h₀ L h' m') (N : News h₀ L h' news') (hn : ∀ p ∈ Led c, p ∈ news') (ho : ∀ p ∈ own, p ∈ news') (ha : (Led c).map (·.1) = adr) (hk : ∀ p ∈ ps c, m' p.1 = some p.2) (hp : P c) :
    InvEndN h₀ L (KF Led ps P) own adr s₁ { s₁ with heap := h', toks := tk } := InvEndN.intro F N ⟨c, rfl, hk, hp⟩ ha hn ho
section
open PyProof.V PySem.Spec
variable {prog : Program} {w : World} {A : Around} {E : Value → Shared → Prop} {s : Shared} {env : Env} {h₀ : Heap} {x : Str} {body : List Stmt} {Q : Flow → Shared → Prop}
theorem forR {σ : Type} {r : Addr} {a₀ b₀ e₀ : Int} {t₀ u₀ v₀ : Tok} {n : Nat} {m₀ : Str → Option Value} (Led : σ → List (Addr × Obj)) (ps : σ → List (Str × Value)) (P : Nat → σ → Prop) (c₀ : σ)
    (hh : A.handled = none) (hr : IsRange s.heap r a₀ b₀ e₀ t₀ u₀ v₀) (hsmall : Builtin.Range.small a₀ b₀ e₀ = true) (hn : Builtin.Range.rangeSize a₀ b₀ e₀ = (n : Int)) (F : Fr h₀ env.locals s.heap m₀) (N : News h₀ env.locals s.heap (Led c₀)) (hk : ∀ p ∈ ps c₀, m₀ p.1 = some p.2) (hp : P 0 c₀)
    (turn : ∀ (i : Nat) (c : σ) (k : Int) t (u : Str → Option Value) h tk own, k = a₀ + (i : Int) * e₀ → i < n → P i c →
      Fr h₀ env.locals h (fun y => if y = x then some (.int k t) else kstB u (ps c) y) → News h₀ env.locals h (Led c ++ own) →
      wpAny (model prog w) A (execs body env) (InvPostN h₀ env.locals (KF Led ps (P (i + 1))) own ((Led c₀).map (·.1)) { s with heap := h, toks := tk } Q) E { s with heap := h, toks := tk })
    (done : ∀ (c : σ) (u : Str → Option Value) h tk, P n c → Fr h₀ env.locals h (kstB u (ps c)) → News h₀ env.locals h (Led c) → Q .next { s with heap := h, toks := tk }) :
    wpAny (model prog w) A (pyIter (.ref r)) (fun it s₂ => LoopAtV prog w A h₀ env x body Q E it s₂) E s := by
  refine wpAny_pyIter_range hr hsmall ?_
  have W : Walks prog w A s.heap.objs.size [s.heap.objs.size] [s.heap.objs.size] n (fun i v => i < n ∧ ∃ t, v = .int (a₀ + i * e₀) t)
      (fun i h => IsRangeIter h s.heap.objs.size (a₀ + (i : Nat) * e₀) ((n : Int) - (i : Nat)) e₀) := (Walks.range hh _ a₀ e₀ n).bound
  refine loop_invN (fun i m nx => KF Led ps (P i) m nx) W ?_ ?_ ?_ ?_ (by show IsRangeIter _ _ _ _ _; rw [hn]; simpa using Heap.get?_push_size _ rfl) (F.push _) (fun p hp => ⟨Heap.get?_push_of_some _ (N p hp).1, (N p hp).2⟩) ⟨c₀, rfl, hk, hp⟩ ?_ ?_
  · intro hm
    exact absurd F.ns.lt ((List.mem_singleton.mp hm) ▸ Nat.lt_irrefl _)
  · intro b hb
    rw [List.mem_singleton.mp hb]
    exact next_is_new F
  · intro p hp hI
    exact absurd (Heap.lt_size (N p hp).1) ((List.mem_singleton.mp hI) ▸ Nat.lt_irrefl _)
  · intro p hp hI
    exact absurd (Heap.lt_size (N p hp).1) ((List.mem_singleton.mp hI) ▸ Nat.lt_irrefl _)
  · rintro i v m₁ nx h tk own hi ⟨_, t, rfl⟩ _ hoff ⟨c, rfl, h1, hp'⟩ F₁ N₁
    rw [← kstB_self h1] at F₁
    exact turn i c _ t m₁ h tk own rfl hi hp' F₁ N₁
  · rintro m₁ nx h tk ⟨c, rfl, h1, hp'⟩ F₁ N₁
    rw [← kstB_self h1] at F₁
    exact done c m₁ h tk hp' F₁ N₁
end
end Mine

-- part jac
namespace Mine
theorem off_jac : True := by
  w_top off
  trivial
local macro_rules | `(tactic| walk_at "own walk") => `(tactic| repeat' (first | (k_unfold; (try dsimp only)) | (k_end; wrow_close) | ((fail_if_success (with_reducible show wpAny _ _ (exec (Stmt.While _ _ _ _) _) _ _ _)); walk1) | ((fail_if_success (with_reducible show wpAny _ _ (exec (Stmt.While _ _ _ _) _) _ _ _)); dsimp only; walk1) | (leave1; walk_say "STEP leave1"; try dsimp only) | fail "no step"))
local macro_rules | `(tactic| walk_at "own news") => `(tactic| exact newsOf (by assumption) (by intro p9 h9; (repeat (refine List.Mem.tail _ ?_)); exact h9))

/-- the inner loop of jacobi_plain -/
noncomputable def stripE : Nat → Int → Int → Int → Option (Int × Int)
  | 0, _, _, _ => none
  | f + 1, n, a, s => if a = 0 then none else if Builtin.bitAnd a 1 = 0 then stripE f n (a.fdiv (2 ^ Int.toNat 1)) (if ([3, 5].any fun x => x == Builtin.bitAnd n 7) = true then -s else s) else some (a, s)
/-- the outer loop of jacobi_plain -/
noncomputable def jpE : Nat → Int → Int → Int → Option Int
  | 0, _, _, _ => none
  | f + 1, a, n, s => if 0 < a then (match stripE f n a s with
      | none => none
      | some (a', s') => jpE f (n.fmod a') a' (if Builtin.bitAnd n 3 = 3 ∧ Builtin.bitAnd a' 3 = 3 then -s' else s')) else some (if n = 1 then s else 0)

theorem stripE_go {f : Nat} {n a s : Int} {r : Int × Int} (h : stripE f n a s = some r) : ∃ g, f = g + 1 ∧ a ≠ 0 := by
  cases f with
  | zero => cases h
  | succ f =>
    refine ⟨f, rfl, fun h0 => ?_⟩
    unfold stripE at h
    rw [if_pos h0] at h
    cases h
theorem stripE_even {f : Nat} {n a s : Int} {r : Int × Int} (h : stripE (f + 1) n a s = some r) (he : Builtin.bitAnd a 1 = 0) :
    stripE f n (a.fdiv (2 ^ Int.toNat 1)) (if ([3, 5].any fun x => x == Builtin.bitAnd n 7) = true then -s else s) = some r := by
  have h0 := (stripE_go h).choose_spec.2
  unfold stripE at h
  rwa [if_neg h0, if_pos he] at h
theorem stripE_odd {f : Nat} {n a s : Int} {r : Int × Int} (h : stripE f n a s = some r) (he : ¬ Builtin.bitAnd a 1 = 0) : r = (a, s) := by
  obtain ⟨g, rfl, h0⟩ := stripE_go h
  unfold stripE at h
  rw [if_neg h0, if_neg he] at h
  exact (Option.some.inj h).symm
theorem jpE_go {f : Nat} {a n s J : Int} (h : jpE f a n s = some J) (ha : 0 < a) :
    ∃ g a' s', f = g + 1 ∧ stripE g n a s = some (a', s') ∧ jpE g (n.fmod a') a' (if Builtin.bitAnd n 3 = 3 ∧ Builtin.bitAnd a' 3 = 3 then -s' else s') = some J := by
  cases f with
  | zero => cases h
  | succ g =>
    unfold jpE at h
    rw [if_pos ha] at h
    cases e : stripE g n a s with
    | none => rw [e] at h; cases h
    | some r => rw [e] at h; exact ⟨g, r.1, r.2, rfl, e, h⟩
theorem jpE_end {f : Nat} {a n s J : Int} (h : jpE f a n s = some J) (ha : ¬ 0 < a) : J = if n = 1 then s else 0 := by
  cases f with
  | zero => cases h
  | succ g =>
    unfold jpE at h
    rw [if_neg ha] at h
    exact (Option.some.inj h).symm

theorem jac (w : World) (news : List (Addr × Obj)) (a n : Int) (t u : Tok) (f : Nat) (J : Int) (hn : n ≠ 0) (hJ : jpE f (a.fmod n) n 1 = some J) : Gives w 93 [.int a t, .int n u] 2 news (fun v => ∃ t, v = .int J t) := by
  unfold Gives
  k_fill
  intro pg loose mean mg mb dp un gd cn cs a' ccd cl outer A₀ base h₀ L m s Q E B F X N T hk hd hu hret
  refine wpAny_call ?_
  k_dflt ktr_enter
  walk_at "own walk"
  refine whileS (σ := Nat × Int × Int × Int × Tok × Tok × Tok) (fun _ => news) (fun c => [(Str.ofString "a", .int c.2.1 c.2.2.2.2.1), (Str.ofString "n", .int c.2.2.1 c.2.2.2.2.2.1), (Str.ofString "sign", .int c.2.2.2.1 c.2.2.2.2.2.2)]) (fun c => jpE c.1 c.2.1 c.2.2.1 c.2.2.2.1 = some J) (fun c => c.1) (f, _, _, _, _, _, _) (by assumption) (by walk_at "own news") (by kst_all) hJ ?_
  clear hJ hn
  rintro ⟨f, a, n, sg, ta, tn, ts⟩ u h tk hP F' N'
  dsimp only at hP F' N' ⊢
  k_fold
  walk_at "own walk"
  · obtain ⟨g, a₁, s₁, rfl, hs, hP'⟩ := jpE_go hP (by assumption)
    refine whileS (σ := Nat × Int × Int × Tok × Tok × Tok) (fun _ => news) (fun c => [(Str.ofString "a", .int c.2.1 c.2.2.2.1), (Str.ofString "n", .int n c.2.2.2.2.1), (Str.ofString "sign", .int c.2.2.1 c.2.2.2.2.2)]) (fun c => stripE c.1 n c.2.1 c.2.2.1 = some (a₁, s₁)) (fun c => c.1) (g, _, _, _, _, _) (by assumption) (by walk_at "own news") (by kst_all) hs ?_
    clear hs
    rintro ⟨f, a, sg, ta, tn, ts⟩ u h tk hQ F' N'
    dsimp only at hQ F' N' ⊢
    obtain ⟨f, rfl, ha0⟩ := stripE_go hQ
    k_fold
    walk_at "own walk"
    · exact turn_end (f, _, _, _, _, _) (by assumption) (by walk_at "own news") (by kst_all) (by have h := stripE_even hQ (by assumption); rw [if_pos (by assumption)] at h; exact h) (Nat.lt_succ_self _)
    · exact turn_end (f, _, _, _, _, _) (by assumption) (by walk_at "own news") (by kst_all) (by have h := stripE_even hQ (by assumption); rw [if_neg (by rw [Bool.not_eq_true]; assumption)] at h; exact h) (Nat.lt_succ_self _)
    all_goals (have e := stripE_odd hQ (by assumption); cases e)
    · exact turn_end (g, _, _, _, _, _, _) (by assumption) (by walk_at "own news") (by kst_all) (by rw [if_pos ⟨by assumption, by assumption⟩] at hP'; exact hP') (Nat.lt_succ_self _)
    · exact turn_end (g, _, _, _, _, _, _) (by assumption) (by walk_at "own news") (by kst_all) (by rw [if_neg (fun hc => absurd hc.2 (by assumption))] at hP'; exact hP') (Nat.lt_succ_self _)
    · exact turn_end (g, _, _, _, _, _, _) (by assumption) (by walk_at "own news") (by kst_all) (by rw [if_neg (fun hc => absurd hc.1 (by assumption))] at hP'; exact hP') (Nat.lt_succ_self _)
  · exact hret _ _ _ ⟨_, by rw [jpE_end hP (by assumption), if_pos (by assumption)]⟩ (by assumption) (by walk_at "own news")
  · exact hret _ _ _ ⟨_, by rw [jpE_end hP (by assumption), if_neg (by assumption)]⟩ (by assumption) (by walk_at "own news")
end Mine

-- part rest
namespace Mine
theorem off_rest : True := by
  w_top off
  trivial
local macro_rules | `(tactic| walk_at "own walk") => `(tactic| repeat' (first | (k_unfold; (try dsimp only)) | (k_end; wrow_close) | ((fail_if_success (with_reducible show wpAny _ _ (exec (Stmt.While _ _ _ _) _) _ _ _)); (fail_if_success (with_reducible show wpAny _ _ (pyIter _) _ _ _)); walk1) | ((fail_if_success (with_reducible show wpAny _ _ (exec (Stmt.While _ _ _ _) _) _ _ _)); (fail_if_success (with_reducible show wpAny _ _ (pyIter _) _ _ _)); dsimp only; walk1) | (leave1; walk_say "STEP leave1"; try dsimp only) | fail "no step"))
local macro_rules | `(tactic| walk_at "own news") => `(tactic| exact newsOf (by assumption) (by intro p9 h9; (repeat (refine List.Mem.tail _ ?_)); exact h9))
local macro_rules | `(tactic| is_list) => `(tactic| exact News.isList (by k_asm) (by assumption))

/-- rest_small's loop -/
noncomputable def restE (d b : Int) : List Int → Int
  | [] => 0
  | x :: r => (Builtin.bitOr (restE d b r * 2 ^ b.toNat) x).fmod d
theorem restE_lo {d b : Int} (hd : 0 < d) : ∀ l, 0 ≤ restE d b l ∧ restE d b l < d
  | [] => ⟨Int.le_refl _, hd⟩
  | _ :: _ => ⟨fmod_lo _ hd, fmod_hi _ hd⟩

theorem restE_step {d b k : Int} {ns : List Int} {i : Nat} (hk : k = (ns.length : Int) - 1 - (i : Int)) (hlt : i < ns.length) :
    (Builtin.bitOr (restE d b (ns.drop (ns.length - i)) * 2 ^ b.toNat) (ns.getD k.toNat 0)).fmod d = restE d b (ns.drop (ns.length - (i + 1))) := by
  have e1 : k.toNat = ns.length - (i + 1) := by omega
  have e2 : ns.length - (i + 1) < ns.length := by omega
  have e3 : ns.length - i = ns.length - (i + 1) + 1 := by omega
  rw [List.drop_eq_getElem_cons e2, e1, e3]
  simp [restE, List.getD, e2]

theorem rest (w : World) (news : List (Addr × Obj)) (l : Addr) (vs : List Value) (ns : List Int) (nn : Nat) (d b : Int) (t u : Tok) (hl : (l, listOf vs.toArray nn) ∈ news) (hi : IntsAre vs ns) (hlen : ns.length < 1000)
    (hd0 : 0 < d) (hd1 : d < 1000) (hb : 0 ≤ b) (hb2 : b < 10) : Gives w 72 [.ref l, .int d t, .int b u] 2 news (fun v => ∃ t, v = .int (restE d b ns) t) := by
  unfold Gives
  k_fill
  intro pg loose mean mg mb dp un gd cn cs a' ccd cl outer A₀ base h₀ L m s Q E B F X N T hk hd hu hret
  refine wpAny_call ?_
  k_dflt ktr_enter
  walk_at "own walk"
  · exact absurd (by assumption : d = 0) (by omega)
  refine forR (σ := Int × Tok × Tok × Tok) (fun _ => news) (fun c => [(Str.ofString "rest", .int c.1 c.2.1), (Str.ofString "d", .int d c.2.2.1), (Str.ofString "w", .int b c.2.2.2), (Str.ofString "a", .ref l)]) (fun i c => c.1 = restE d b (ns.drop (ns.length - i))) (0, _, _, _) rfl (by assumption) (small_down (by omega) (by omega) (by omega) (by omega)) (rangeSize_downNat _ _) (by assumption) (by walk_at "own news") (by kst_all) ?_ ?_ ?_
  · simp [restE]
  · rintro i ⟨r, tr, td, tw⟩ k t u h tk own hk hlt hP F' N'
    dsimp only at hP F' N' ⊢
    k_fold
    have hlo := restE_lo (b := b) hd0 (ns.drop (ns.length - i))
    rw [← hP] at hlo
    walk_at "own walk"
    refine for_end (_, _, _, _) (by assumption) (by assumption) (fun p hp => List.mem_append.mpr (.inl hp)) (fun p hp => List.mem_append.mpr (.inr hp)) rfl (by kst_all) ?_
    dsimp only
    rw [hP]
    exact restE_step (by omega) (by omega)
  · rintro ⟨r, tr, td, tw⟩ u h tk hP F' N'
    dsimp only at hP F' N' ⊢
    try k_fold
    walk_at "own walk"
    rw [show ns.length - ((ns.length : Int) - 1 - -1).toNat = 0 by omega, List.drop_zero] at hP
    exact hret _ _ _ ⟨_, by rw [hP]⟩ (by assumption) (by walk_at "own news")
end Mine

-- part nat
namespace Mine
theorem off_nat : True := by
  w_top off
  trivial
local macro_rules | `(tactic| walk_at "own walk") => `(tactic| repeat' (first | (k_unfold; (try dsimp only)) | (k_end; wrow_close) | ((fail_if_success (with_reducible show wpAny _ _ (exec (Stmt.While _ _ _ _) _) _ _ _)); (fail_if_success (with_reducible show wpAny _ _ (pyIter _) _ _ _)); walk1) | ((fail_if_success (with_reducible show wpAny _ _ (exec (Stmt.While _ _ _ _) _) _ _ _)); (fail_if_success (with_reducible show wpAny _ _ (pyIter _) _ _ _)); dsimp only; walk1) | (leave1; walk_say "STEP leave1"; try dsimp only) | fail "no step"))
local macro_rules | `(tactic| walk_at "own news") => `(tactic| exact newsOf (by assumption) (by intro p9 h9; first | exact h9 | exact .tail _ h9 | exact .tail _ (.tail _ h9) | exact .tail _ (.tail _ (.tail _ h9)) | exact .tail _ (.tail _ (.tail _ (.tail _ h9)))))
local macro_rules | `(tactic| is_list) => `(tactic| exact News.isList (by k_asm) (by assumption))
local macro_rules | `(tactic| k_all) => `(tactic| exact fun p9 h9 => Nat.ne_of_lt ((by assumption : ∀ p ∈ _, p.1 < _) p9 h9))

/-- nat_of's loop -/
noncomputable def natE : Nat → Int → Int → Option (List Int)
  | 0, _, _ => none
  | f + 1, b, x => if 0 < x then (natE f b (x.fdiv (2 ^ b.toNat))).map (Builtin.bitAnd x (1 * 2 ^ b.toNat - 1) :: ·) else some []

theorem natE_go {f : Nat} {b x : Int} {acc r : List Int} (h : (natE f b x).map (acc ++ ·) = some r) (hx : 0 < x) :
    ∃ g, f = g + 1 ∧ (natE g b (x.fdiv (2 ^ b.toNat))).map ((acc ++ [Builtin.bitAnd x (1 * 2 ^ b.toNat - 1)]) ++ ·) = some r := by
  cases f with
  | zero => cases h
  | succ g =>
    refine ⟨g, rfl, ?_⟩
    unfold natE at h
    rw [if_pos hx] at h
    cases e : natE g b (x.fdiv (2 ^ b.toNat)) with
    | none => rw [e] at h; cases h
    | some q => rw [e] at h; simpa using h
theorem natE_end {f : Nat} {b x : Int} {acc r : List Int} (h : (natE f b x).map (acc ++ ·) = some r) (hx : ¬ 0 < x) : acc = r := by
  cases f with
  | zero => cases h
  | succ g =>
    unfold natE at h
    rw [if_neg hx] at h
    simpa using h

theorem nat (w : World) (news : List (Addr × Obj)) (x b : Int) (t u : Tok) (f : Nat) (r : List Int) (hf : f < 100) (hx : 0 ≤ x) (hb : 0 ≤ b) (hb2 : b < 10) (hr : natE f b x = some r) :
    GivesN w 58 [.int x t, .int b u] 2 news (fun v nx => ∃ l vs nn, v = .ref l ∧ nx = (l, listOf vs.toArray nn) :: news ∧ IntsAre vs r ∧ ∀ p ∈ news, p.1 < l) := by
  unfold GivesN
  k_fill
  intro pg loose mean mg mb dp un gd cn cs a' ccd cl outer A₀ base h₀ L m s Q E B F X N T hk hd hu hret
  refine wpAny_call ?_
  k_dflt ktr_enter
  walk_at "own walk"
  refine whileS (σ := Nat × Int × List Value × List Int × Nat × Addr × Tok × Tok × Tok) (fun c => (c.2.2.2.2.2.1, listOf c.2.2.1.toArray c.2.2.2.2.1) :: news) (fun c => [(Str.ofString "number", .int c.2.1 c.2.2.2.2.2.2.1), (Str.ofString "w", .int b c.2.2.2.2.2.2.2.1), (Str.ofString "mask", .int (1 * 2 ^ b.toNat - 1) c.2.2.2.2.2.2.2.2), (Str.ofString "found", .ref c.2.2.2.2.2.1)])
    (fun c => IntsAre c.2.2.1 c.2.2.2.1 ∧ (natE c.1 b c.2.1).map (c.2.2.2.1 ++ ·) = some r ∧ c.2.2.2.1.length + c.1 < 100 ∧ 0 ≤ c.2.1 ∧ ∀ p ∈ news, p.1 < c.2.2.2.2.2.1) (fun c => c.1) (f, _, [], [], 0, _, _, _, _) (by assumption) (by walk_at "own news") (by kst_all) ⟨.nil, by simp [hr], by simpa using hf, hx, by assumption⟩ ?_
  clear hr hf hx
  rintro ⟨f, x, vs, acc, nn, l, tx, tw, tm⟩ u h tk ⟨hI, hr, hf, hx, hlt⟩ F' N'
  dsimp only at hI hr hf hx hlt F' N' ⊢
  k_fold
  have hlen := hI.length
  walk_at "own walk"
  · obtain ⟨g, rfl, hr'⟩ := natE_go hr (by assumption)
    (rename News _ _ _ _ => nE')
    simp only [List.push_toArray] at nE'
    exact turn_end (g, _, _, acc ++ [Builtin.bitAnd x (1 * 2 ^ b.toNat - 1)], _, _, _, _, _) (by assumption) nE' (by kst_all) ⟨hI.append (.cons _ _ .nil), hr', by simp only [List.length_append, List.length_cons, List.length_nil]; omega, Int.fdiv_nonneg hx (Int.le_of_lt (Int.pow_pos (by decide))), hlt⟩ (Nat.lt_succ_self _)
  · exact hret _ _ _ _ ⟨l, vs, nn, rfl, rfl, natE_end hr (by assumption) ▸ hI, hlt⟩ (by assumption) (by assumption)
end Mine

-- part lim
namespace Mine
theorem off_lim : True := by
  w_top off
  trivial
local macro_rules | `(tactic| walk_at "own walk") => `(tactic| repeat' (first | (k_unfold; (try dsimp only)) | (k_end; wrow_close) | ((fail_if_success (with_reducible show wpAny _ _ (exec (Stmt.While _ _ _ _) _) _ _ _)); (fail_if_success (with_reducible show wpAny _ _ (pyIter _) _ _ _)); walk1) | ((fail_if_success (with_reducible show wpAny _ _ (exec (Stmt.While _ _ _ _) _) _ _ _)); (fail_if_success (with_reducible show wpAny _ _ (pyIter _) _ _ _)); dsimp only; walk1) | (leave1; walk_say "STEP leave1"; try dsimp only) | fail "no step"))
local macro_rules | `(tactic| walk_at "own news") => `(tactic| exact newsOf (by assumption) (by intro p9 h9; first | exact h9 | exact .tail _ h9 | exact .tail _ (.tail _ h9) | exact .tail _ (.tail _ (.tail _ h9)) | exact .tail _ (.tail _ (.tail _ (.tail _ h9)))))
local macro_rules | `(tactic| is_list) => `(tactic| exact News.isList (by k_asm) (by assumption))
local macro_rules | `(tactic| k_all) => `(tactic| exact fun p9 h9 => Nat.ne_of_lt ((by assumption : ∀ p ∈ _, p.1 < _) p9 h9))

/-- _law_limbs -/
noncomputable def limE : Nat → Int → Int → Option (List Int)
  | 0, _, _ => none
  | f + 1, b, x => if 0 < x then (limE f b (x.fdiv (2 ^ b.toNat))).map (x.fmod (2 ^ b.toNat) :: ·) else some []
theorem limE_go {f : Nat} {b x : Int} {acc r : List Int} (h : (limE f b x).map (acc ++ ·) = some r) (hx : 0 < x) :
    ∃ g, f = g + 1 ∧ (limE g b (x.fdiv (2 ^ b.toNat))).map ((acc ++ [x.fmod (2 ^ b.toNat)]) ++ ·) = some r := by
  cases f with
  | zero => cases h
  | succ g =>
    refine ⟨g, rfl, ?_⟩
    unfold limE at h
    rw [if_pos hx] at h
    cases e : limE g b (x.fdiv (2 ^ b.toNat)) with
    | none => rw [e] at h; cases h
    | some q => rw [e] at h; simpa using h
theorem limE_end {f : Nat} {b x : Int} {acc r : List Int} (h : (limE f b x).map (acc ++ ·) = some r) (hx : ¬ 0 < x) : acc = r := by
  cases f with
  | zero => cases h
  | succ g =>
    unfold limE at h
    rw [if_neg hx] at h
    simpa using h

theorem limbs (w : World) (news : List (Addr × Obj)) (x b : Int) (t u : Tok) (f : Nat) (r : List Int) (hf : f < 100) (hx : 0 ≤ x) (hb : 0 ≤ b) (hb2 : b < 10) (hr : limE f b x = some r) :
    GivesN w 114 [.int x t, .int b u] 2 news (fun v nx => ∃ l vs nn, v = .ref l ∧ nx = (l, listOf vs.toArray nn) :: news ∧ IntsAre vs r ∧ ∀ p ∈ news, p.1 < l) := by
  unfold GivesN
  k_fill
  intro pg loose mean mg mb dp un gd cn cs a' ccd cl outer A₀ base h₀ L m s Q E B F X N T hk hd hu hret
  refine wpAny_call ?_
  k_dflt ktr_enter
  walk_at "own walk"
  refine whileS (σ := Nat × Int × List Value × List Int × Nat × Addr × Tok × Tok) (fun c => (c.2.2.2.2.2.1, listOf c.2.2.1.toArray c.2.2.2.2.1) :: news) (fun c => [(Str.ofString "number", .int c.2.1 c.2.2.2.2.2.2.1), (Str.ofString "w", .int b c.2.2.2.2.2.2.2), (Str.ofString "found", .ref c.2.2.2.2.2.1)])
    (fun c => IntsAre c.2.2.1 c.2.2.2.1 ∧ (limE c.1 b c.2.1).map (c.2.2.2.1 ++ ·) = some r ∧ c.2.2.2.1.length + c.1 < 100 ∧ 0 ≤ c.2.1 ∧ ∀ p ∈ news, p.1 < c.2.2.2.2.2.1) (fun c => c.1) (f, _, [], [], 0, _, _, _) (by assumption) (by walk_at "own news") (by kst_all) ⟨.nil, by simp [hr], by simpa using hf, hx, by assumption⟩ ?_
  clear hr hf hx
  rintro ⟨f, x, vs, acc, nn, l, tx, tw⟩ u h tk ⟨hI, hr, hf, hx, hlt⟩ F' N'
  dsimp only at hI hr hf hx hlt F' N' ⊢
  k_fold
  have hlen := hI.length
  walk_at "own walk"
  · obtain ⟨g, rfl, hr'⟩ := limE_go hr (by assumption)
    (rename News _ _ _ _ => nE')
    simp only [List.push_toArray] at nE'
    exact turn_end (g, _, _, acc ++ [x.fmod (2 ^ b.toNat)], _, _, _, _) (by assumption) nE' (by kst_all) ⟨hI.append (.cons _ _ .nil), hr', by simp only [List.length_append, List.length_cons, List.length_nil]; omega, Int.fdiv_nonneg hx (Int.le_of_lt (Int.pow_pos (by decide))), hlt⟩ (Nat.lt_succ_self _)
  · exact hret _ _ _ _ ⟨l, vs, nn, rfl, rfl, limE_end hr (by assumption) ▸ hI, hlt⟩ (by assumption) (by assumption)
end Mine

-- part small
namespace Mine
theorem off_small : True := by
  w_top off
  trivial
-- stops at a while, at a for, at a call of a def that has a contract
local macro_rules | `(tactic| walk_at "own stop") => `(tactic| first | (with_reducible show wpAny _ _ (exec (Stmt.While _ _ _ _) _) _ _ _) | (with_reducible show wpAny _ _ (pyIter _) _ _ _) | (with_reducible show wpAny _ _ (exec (Stmt.If _ _ _ _) _) _ _ _) | (with_reducible show wpAny _ _ (PySem.call (Value.ref 72) _ _) _ _ _) | (with_reducible show wpAny _ _ (PySem.call (Value.ref 93) _ _) _ _ _))
local macro_rules | `(tactic| walk_at "own walk") => `(tactic| repeat' (first | (k_unfold; (try dsimp only)) | (k_end; wrow_close) | ((fail_if_success (walk_at "own stop")); walk1) | ((fail_if_success (walk_at "own stop")); dsimp only; walk1) | (leave1; walk_say "STEP leave1"; try dsimp only) | fail "no step"))
local macro_rules | `(tactic| walk_at "own news") => `(tactic| exact newsOf (by assumption) (by intro p9 h9; first | exact h9 | exact .tail _ h9 | exact .tail _ (.tail _ h9) | exact .tail _ (.tail _ (.tail _ h9)) | exact .tail _ (.tail _ (.tail _ (.tail _ h9)))))
local macro_rules | `(tactic| is_list) => `(tactic| exact News.isList (by k_asm) (by assumption))
local macro_rules | `(tactic| k_all) => `(tactic| exact fun p9 h9 => Nat.ne_of_lt ((by assumption : ∀ p ∈ _, p.1 < _) p9 h9))

/-- jacobi_small, its two rests given -/
noncomputable def jtE (f : Nat) (e sg rst res : Int) : Option Int :=
  if 1 < e ∧ ¬ Builtin.bitAnd e 1 = 0 then (jpE f (res.fmod e) e 1).map fun j => (if Builtin.bitAnd e 3 = 3 ∧ Builtin.bitAnd rst 3 = 3 then -sg else sg) * j else none
noncomputable def jsE (f : Nat) (d rst res : Int) : Option Int :=
  jtE f (if d < 0 then -d else d) (if d < 0 then (if Builtin.bitAnd rst 3 = 3 then -1 else 1) else 1) rst res
theorem jtE_ok {f : Nat} {e sg rst res J : Int} (h : jtE f e sg rst res = some J) : 1 < e ∧ ¬ Builtin.bitAnd e 1 = 0 ∧ ∃ j, jpE f (res.fmod e) e 1 = some j ∧ J = (if Builtin.bitAnd e 3 = 3 ∧ Builtin.bitAnd rst 3 = 3 then -sg else sg) * j := by
  unfold jtE at h
  by_cases hc : 1 < e ∧ ¬ Builtin.bitAnd e 1 = 0
  · rw [if_pos hc] at h
    refine ⟨hc.1, hc.2, ?_⟩
    generalize jpE f (res.fmod e) e 1 = o at h
    cases o with
    | none => cases h
    | some j => exact ⟨j, rfl, (Option.some.inj h).symm⟩
  · rw [if_neg hc] at h
    cases h

theorem jsmall (w : World) (news : List (Addr × Obj)) (l : Addr) (vs : List Value) (ns : List Int) (nn : Nat) (d b rst res : Int) (t u : Tok) (f : Nat) (J : Int) (hl : (l, listOf vs.toArray nn) ∈ news) (hi : IntsAre vs ns) (hlen : ns.length < 1000) (hlen0 : 0 < ns.length)
    (hb : 0 ≤ b) (hb2 : b < 10) (hd1 : -1000 < d) (hd2 : d < 1000) (hrst : rst = if b < 3 then restE 8 b ns else Builtin.bitAnd (ns.getD 0 0) 7) (hres : res = restE (if d < 0 then -d else d) b ns) (hJ : jsE f d rst res = some J) :
    Gives w 86 [.int d t, .ref l, .int b u] 4 news (fun v => ∃ t, v = .int J t) := by
  unfold jsE at hJ
  unfold Gives
  k_fill
  intro pg loose mean mg mb dp un gd cn cs a' ccd cl outer A₀ base h₀ L m s Q E B F X N T hk hd hu hret
  obtain ⟨he1, he2, j, hj, hJe⟩ := jtE_ok hJ
  clear hJ
  generalize he : (if d < 0 then -d else d) = e at *
  generalize hsg : (if d < 0 then (if Builtin.bitAnd rst 3 = 3 then (-1 : Int) else 1) else 1) = sg at *
  have he3 : e < 1000 := by rw [← he]; split <;> omega
  have C1 := fun (t u : Tok) => rest w news l vs ns nn 8 b t u hl hi hlen (by omega) (by omega) hb hb2
  have C2 := fun (t u : Tok) => rest w news l vs ns nn e b t u hl hi hlen (by omega) (by omega) hb hb2
  have C3 := fun (t u : Tok) => jac w news res e t u f j (by omega) hj
  rw [← hres] at C2
  clear hj hres
  refine wpAny_call ?_
  k_dflt ktr_enter
  walk_at "own walk"
  refine joinS (σ := Int × Tok × Tok × Tok × Tok) (by assumption) (fun _ => news) (fun c => [(Str.ofString "rest", .int c.1 c.2.1), (Str.ofString "sign", .int 1 c.2.2.1), (Str.ofString "d", .int d c.2.2.2.1), (Str.ofString "w", .int b c.2.2.2.2), (Str.ofString "n", .ref l)]) (fun c => c.1 = rst) ?_ ?_
  · walk1
    walk_at "own walk"
    (k_dflt (refine' Gives.use (C1 _ _) ?k1 ?k2 ?k3 ?k4 ?k5 ?kK ?kd ?ku ?_))
    (case k1 => k_asm)
    (case k2 => k_asm)
    (case k3 => k_asm)
    (case k4 => walk_at "own news")
    (case k5 => k_asm)
    (case kK => exact rfl)
    (case kd => ktr_room)
    (case ku => ktr_units)
    rintro _ h9 tk9 ⟨t9, rfl⟩ F9 N9
    (try dsimp only)
    (try k_fold)
    walk_at "own walk"
    · exact met (_, _, _, _, _) (by assumption) (by walk_at "own news") (by kst_all) (by dsimp only; rw [hrst, if_pos (by assumption)])
    · exact met (_, _, _, _, _) (by assumption) (by walk_at "own news") (by kst_all) (by dsimp only; rw [hrst, if_neg (by assumption)]; rfl)
  rintro ⟨r, t1, t2, t3, t4⟩ u h tk hP F' N'
  dsimp only at hP F' N'
  subst hP
  clear hrst C1
  try dsimp only
  try k_fold
  walk_at "own walk"
  refine joinS (σ := Int × Int × Tok × Tok × Tok × Tok) (by assumption) (fun _ => news) (fun c => [(Str.ofString "rest", .int r c.2.2.1), (Str.ofString "sign", .int c.2.1 c.2.2.2.1), (Str.ofString "d", .int c.1 c.2.2.2.2.1), (Str.ofString "w", .int b c.2.2.2.2.2), (Str.ofString "n", .ref l)]) (fun c => c.1 = e ∧ c.2.1 = sg) ?_ ?_
  · walk1
    walk_at "own walk"
    all_goals exact met (_, _, _, _, _, _) (by assumption) (by walk_at "own news") (by kst_all) ⟨by dsimp only; rw [← he]; split <;> first | rfl | contradiction, by dsimp only; rw [← hsg]; (repeat' split) <;> first | rfl | contradiction⟩
  rintro ⟨e', sg', t1, t2, t3, t4⟩ u h tk ⟨hP1, hP2⟩ F' N'
  dsimp only at F' N' hP1 hP2
  subst hP1 hP2
  try dsimp only
  try k_fold
  walk_at "own walk"
  refine while0 (by assumption) (by assumption) ?_
  intro h8 tk8 F8 N8
  k_fold
  walk_at "own walk"
  walk1
  walk_at "own walk"
  · exfalso; omega
  generalize hsg2 : (if Builtin.bitAnd e' 3 = 3 ∧ Builtin.bitAnd r 3 = 3 then -sg' else sg') = sg2 at *
  refine joinS (σ := Int × Tok × Tok × Tok × Tok) (by assumption) (fun _ => news) (fun c => [(Str.ofString "sign", .int c.1 c.2.1), (Str.ofString "d", .int e' c.2.2.2.1), (Str.ofString "w", .int b c.2.2.2.2), (Str.ofString "n", .ref l)]) (fun c => c.1 = sg2) ?_ ?_
  · walk1
    walk_at "own walk"
    all_goals exact met (_, _, 0, _, _) (by assumption) (by walk_at "own news") (by kst_all) (by dsimp only; rw [← hsg2]; split <;> first | rfl | contradiction | (rename_i hc; exact absurd ⟨by assumption, by assumption⟩ hc) | (rename_i hc; exact absurd hc.1 (by assumption)) | (rename_i hc; exact absurd hc.2 (by assumption)))
  rintro ⟨sg3, t1, _, t3, t4⟩ u h tk hP F' N'
  dsimp only at F' N' hP
  subst hP
  have hsg5 : -1 ≤ sg3 ∧ sg3 ≤ 1 := by rw [← hsg2, ← hsg]; (repeat' split) <;> omega
  obtain ⟨hsg6, hsg7⟩ := hsg5
  try dsimp only
  try k_fold
  walk_at "own walk"
  (k_dflt (refine' Gives.use (C2 _ _) ?k1 ?k2 ?k3 ?k4 ?k5 ?kK ?kd ?ku ?_))
  (case k1 => k_asm)
  (case k2 => k_asm)
  (case k3 => k_asm)
  (case k4 => walk_at "own news")
  (case k5 => k_asm)
  (case kK => exact rfl)
  (case kd => ktr_room)
  (case ku => ktr_units)
  rintro _ h9 tk9 ⟨t9, rfl⟩ F9 N9
  (try dsimp only)
  (try k_fold)
  walk_at "own walk"
  (k_dflt (refine' Gives.use (C3 _ _) ?k1 ?k2 ?k3 ?k4 ?k5 ?kK ?kd ?ku ?_))
  (case k1 => k_asm)
  (case k2 => k_asm)
  (case k3 => k_asm)
  (case k4 => walk_at "own news")
  (case k5 => k_asm)
  (case kK => exact rfl)
  (case kd => ktr_room)
  (case ku => ktr_units)
  rintro _ h9 tk9 ⟨t9, rfl⟩ F9 N9
  (try dsimp only)
  (try k_fold)
  walk_at "own walk"
  exact hret _ _ _ ⟨_, by rw [hJe]⟩ (by assumption) (by walk_at "own news")
end Mine

-- part self
namespace Mine
theorem off_self : True := by
  w_top off
  trivial
-- stops at a while, at a for, at a call of a def that has a contract
local macro_rules | `(tactic| walk_at "own stop") => `(tactic| first | (with_reducible show wpAny _ _ (exec (Stmt.While _ _ _ _) _) _ _ _) | (with_reducible show wpAny _ _ (pyIter _) _ _ _) | (with_reducible show wpAny _ _ (PySem.call (Value.ref 58) _ _) _ _ _) | (with_reducible show wpAny _ _ (PySem.call (Value.ref 86) _ _) _ _ _))
local macro_rules | `(tactic| walk_at "own walk") => `(tactic| repeat' (first | (k_unfold; (try dsimp only)) | (k_end; wrow_close) | ((fail_if_success (walk_at "own stop")); walk1) | ((fail_if_success (walk_at "own stop")); dsimp only; walk1) | (leave1; walk_say "STEP leave1"; try dsimp only) | fail "no step"))
local macro_rules | `(tactic| walk_at "own news") => `(tactic| exact newsOf (by assumption) (by intro p9 h9; first | exact h9 | exact .tail _ h9 | exact .tail _ (.tail _ h9) | exact .tail _ (.tail _ (.tail _ h9)) | exact .tail _ (.tail _ (.tail _ (.tail _ h9)))))
local macro_rules | `(tactic| is_list) => `(tactic| exact News.isList (by k_asm) (by first | assumption | exact .tail _ (by assumption) | exact .tail _ (.tail _ (by assumption))))
local macro_rules | `(tactic| k_all) => `(tactic| exact fun p9 h9 => Nat.ne_of_lt ((by assumption : ∀ p ∈ _, p.1 < _) p9 h9))
local macro_rules | `(tactic| units_room) => `(tactic| ktr_units)
local macro_rules | `(tactic| walk_at "call ref") => `(tactic| (k_here; (refine wpAny_call ?_); k_dflt (refine' code_def ?k1 ?k2 ?k3 ?k4 ?k5 ?kA ?kF ?kK ?k6 ?k7 ?k8 ?k9 ?kB ?_ ?c2 ?c3 ?c4 ?c5; (case kA => exact rfl); (case kF => exact rfl); (case kK => first | exact rfl | assumption); (case k1 => first | k_asm | exact Below.push (by assumption) (by assumption)); (case k2 => k_asm); (case k3 => k_asm); (case k4 => k_asm); (case k5 => k_asm); (case k6 => k_is); (case k7 => k_is); (case k8 => ktr_room); (case k9 => exact BindsTo.of_eq rfl); (case c5 => decide); (case kB => exact locs rfl); (case c2 => exact rfl); (case c3 => exact rfl); (case c4 => exact rfl); k_whole; intro g' L' h' FG' F' N' B' X' T'; (try dsimp only); (try k_fold))))

/-- selfridge's loop -/
noncomputable def selE (x : Int) : Nat → Int → Option Int
  | 0, _ => none
  | f + 1, d => if -100 < d ∧ d < 100 then (match jsE 40 d (x.fmod 8) (x.fmod (if d < 0 then -d else d)) with
      | none => none
      | some s => if s = -1 then some d else if s = 0 ∧ ¬ x = (if d < 0 then -d else d) then some 0 else selE x f (if 0 < d then -d - 2 else 2 - d)) else none

theorem selE_go {x d J : Int} {f : Nat} (h : selE x f d = some J) : ∃ g s, f = g + 1 ∧ -100 < d ∧ d < 100 ∧ jsE 40 d (x.fmod 8) (x.fmod (if d < 0 then -d else d)) = some s ∧
    (if s = -1 then some d else if s = 0 ∧ ¬ x = (if d < 0 then -d else d) then some 0 else selE x g (if 0 < d then -d - 2 else 2 - d)) = some J := by
  cases f with
  | zero => cases h
  | succ g =>
    unfold selE at h
    by_cases hc : -100 < d ∧ d < 100
    · rw [if_pos hc] at h
      generalize e : jsE 40 d (x.fmod 8) (x.fmod (if d < 0 then -d else d)) = o at h
      cases o with
      | none => cases h
      | some s => exact ⟨g, s, rfl, hc.1, hc.2, rfl, h⟩
    · rw [if_neg hc] at h
      cases h

/-- what a row of limbs says of its number -/
structure RowOf (x b : Int) (ns : List Int) : Prop where
  len : ns.length < 1000
  pos : 0 < ns.length
  odd : ¬ Builtin.bitAnd (ns.getD 0 0) 1 = 0
  one : ns ≠ [1]
  eight : (if b < 3 then restE 8 b ns else Builtin.bitAnd (ns.getD 0 0) 7) = x.fmod 8
  rest : ∀ e, 0 < e → e < 1000 → restE e b ns = x.fmod e
  nat : ∀ y, 0 ≤ y → y < 1000 → ∃ r, natE 40 b y = some r ∧ (ns = r ↔ x = y)

theorem self (w : World) (news : List (Addr × Obj)) (l : Addr) (vs : List Value) (ns : List Int) (nn : Nat) (x b : Int) (u : Tok) (f : Nat) (J : Int) (hl : (l, listOf vs.toArray nn) ∈ news) (hi : IntsAre vs ns) (hb : 0 ≤ b) (hb2 : b < 10)
    (R : RowOf x b ns) (hJ : selE x f 5 = some J) : Gives w 100 [.ref l, .int b u] 20 news (fun v => ∃ t, v = .int J t) := by
  have hpos := R.pos
  have hlen := R.len
  unfold Gives
  k_fill
  intro pg loose mean mg mb dp un gd cn cs a' ccd cl outer A₀ base h₀ L m s Q E B F X N T hk hd hu hret
  refine wpAny_call ?_
  k_dflt ktr_enter
  walk_at "own walk"
  · exfalso; omega
  · exact absurd (by assumption) R.odd
  · exact absurd (by assumption) R.one
  refine whileS (σ := Nat × Int × Tok × Tok) (fun _ => news) (fun c => [(Str.ofString "d", .int c.2.1 c.2.2.1), (Str.ofString "w", .int b c.2.2.2), (Str.ofString "n", .ref l)]) (fun c => selE x c.1 c.2.1 = some J) (fun c => c.1) (f, _, _, _) (by assumption) (by walk_at "own news") (by kst_all) hJ ?_
  clear hJ
  rintro ⟨f, d, td, tw⟩ u h tk hP F' N'
  dsimp only at hP F' N' ⊢
  k_fold
  obtain ⟨f, sg, rfl, hd1, hd2, hj, hP⟩ := selE_go hP
  have he1 := (jtE_ok (show jtE 40 (if d < 0 then -d else d) _ _ _ = some sg from hj)).1
  have he3 : (if d < 0 then -d else d) < 1000 := by split <;> omega
  have C1 := fun (t u : Tok) => jsmall w news l vs ns nn d b (x.fmod 8) (x.fmod (if d < 0 then -d else d)) t u 40 sg hl hi hlen hpos hb hb2 (by omega) (by omega) R.eight.symm (R.rest _ (by omega) he3).symm hj
  clear hj
  walk_at "own walk"
  (k_dflt (refine' Gives.use (C1 _ _) ?k1 ?k2 ?k3 ?k4 ?k5 ?kK ?kd ?ku ?_))
  (case k1 => k_asm)
  (case k2 => k_asm)
  (case k3 => k_asm)
  (case k4 => walk_at "own news")
  (case k5 => k_asm)
  (case kK => exact rfl)
  (case kd => ktr_room)
  (case ku => ktr_units)
  rintro _ h9 tk9 ⟨t9, rfl⟩ F9 N9
  (try dsimp only)
  (try k_fold)
  walk_at "own walk"
  · dsimp only
    refine turn_ret ?_
    dsimp only
    walk_at "own walk"
    rw [if_pos (by assumption)] at hP
    exact hret _ _ _ ⟨_, by rw [Option.some.inj hP]⟩ (by assumption) (by walk_at "own news")
  · obtain ⟨r, hr1, hr2⟩ := R.nat (if d < 0 then -d else d) (by omega) he3
    have C2 := fun (t u : Tok) => nat w news (if d < 0 then -d else d) b t u 40 r (by decide) (by omega) hb hb2 hr1
    (k_dflt (refine' GivesN.use (C2 _ _) ?k1 ?k2 ?k3 ?k4 ?k5 ?kK ?kd ?ku ?_))
    (case k1 => k_asm)
    (case k2 => k_asm)
    (case k3 => k_asm)
    (case k4 => walk_at "own news")
    (case k5 => k_asm)
    (case kK => exact rfl)
    (case kd => ktr_room)
    (case ku => ktr_units)
    rintro _ _ h9 tk9 ⟨l2, vs2, nn2, rfl, rfl, hi2, hlt2⟩ F9 N9
    (try dsimp only)
    (try k_fold)
    walk_at "own walk"
    · exact turn_end (f, _, _, _) (by assumption) (by walk_at "own news") (by kst_all) (by rw [if_neg (by assumption), if_neg (fun hc => hc.2 (hr2.mp (by assumption))), if_pos (by assumption)] at hP; exact hP) (Nat.lt_succ_self _)
    · exact turn_end (f, _, _, _) (by assumption) (by walk_at "own news") (by kst_all) (by rw [if_neg (by assumption), if_neg (fun hc => hc.2 (hr2.mp (by assumption))), if_neg (by assumption)] at hP; exact hP) (Nat.lt_succ_self _)
    · dsimp only
      refine turn_ret ?_
      dsimp only
      walk_at "own walk"
      rw [if_neg (by assumption), if_pos ⟨by assumption, fun hc => absurd (hr2.mpr hc) (by assumption)⟩] at hP
      exact hret _ _ _ ⟨_, by rw [Option.some.inj hP]⟩ (by assumption) (by walk_at "own news")
  · exact turn_end (f, _, _, _) (by assumption) (by walk_at "own news") (by kst_all) (by rw [if_neg (by assumption), if_neg (fun hc => absurd hc.1 (by assumption)), if_pos (by assumption)] at hP; exact hP) (Nat.lt_succ_self _)
  · exact turn_end (f, _, _, _) (by assumption) (by walk_at "own news") (by kst_all) (by rw [if_neg (by assumption), if_neg (fun hc => absurd hc.1 (by assumption)), if_neg (by assumption)] at hP; exact hP) (Nat.lt_succ_self _)
end Mine

-- part sign
namespace Mine
theorem off_sign : True := by
  w_top off
  trivial
local macro_rules | `(tactic| walk_at "own stop") => `(tactic| first | (with_reducible show wpAny _ _ (exec (Stmt.While _ _ _ _) _) _ _ _) | (with_reducible show wpAny _ _ (pyIter _) _ _ _) | (with_reducible show LCt.CompSrcT _ _ _ _ _ _ _ _ _ _ _ _ _ _ _) | (with_reducible show wpAny _ _ (eval (Expr.ListComp _ _ _ _) _) _ _ _))
local macro_rules | `(tactic| walk_at "own walk") => `(tactic| repeat' (first | (k_unfold; (try dsimp only)) | (k_end; wrow_close) | ((fail_if_success (walk_at "own stop")); walk1) | ((fail_if_success (walk_at "own stop")); dsimp only; walk1) | (leave1; walk_say "STEP leave1"; try dsimp only) | fail "no step"))
local macro_rules | `(tactic| walk_at "own news") => `(tactic| exact newsOf (by assumption) (by intro p9 h9; first | exact h9 | exact .tail _ h9 | exact .tail _ (.tail _ h9) | exact .tail _ (.tail _ (.tail _ h9)) | exact .tail _ (.tail _ (.tail _ (.tail _ h9)))))
local macro_rules | `(tactic| k_all) => `(tactic| first | exact fun p9 h9 => Nat.ne_of_lt ((by assumption : ∀ p ∈ _, p.1 < _) p9 h9) | exact fun p9 h9 => Nat.ne_of_lt (Nat.lt_of_lt_of_le ((by assumption : ∀ p ∈ _, p.1 < _) p9 h9) (by omega)))
local macro_rules | `(tactic| units_room) => `(tactic| ktr_units)
/-- _law_sign's loop -/
def noRoot (d p : Int) : Bool := decide ((rangeKs 0 (p - 0).toNat).foldl (fun l k => if (k * k - d).fmod p = 0 then l ++ [k] else l) [] = [])
noncomputable def lsE (d : Int) : Nat → Int → Int → Int → Option Int
  | 0, _, _, _ => none
  | f + 1, n, s, p => if 1 < n ∧ n < 1000 ∧ 3 ≤ p ∧ p < 1000 then (if n.fmod p = 0 then lsE d f (n.fdiv p) (if d.fmod p = 0 then 0 else if noRoot d p = true then 0 - s else s) p else lsE d f n s (p + 2)) else if n ≤ 1 then some s else none

theorem lsE_go {d : Int} {f : Nat} {n s p J : Int} (h : lsE d f n s p = some J) (hn : 1 < n) : ∃ g, f = g + 1 ∧ n < 1000 ∧ 3 ≤ p ∧ p < 1000 ∧
    (if n.fmod p = 0 then lsE d g (n.fdiv p) (if d.fmod p = 0 then 0 else if noRoot d p = true then 0 - s else s) p else lsE d g n s (p + 2)) = some J := by
  cases f with
  | zero => cases h
  | succ g =>
    unfold lsE at h
    by_cases hc : 1 < n ∧ n < 1000 ∧ 3 ≤ p ∧ p < 1000
    · rw [if_pos hc] at h
      exact ⟨g, rfl, hc.2.1, hc.2.2.1, hc.2.2.2, h⟩
    · rw [if_neg hc, if_neg (by omega)] at h
      cases h
theorem lsE_end {d : Int} {f : Nat} {n s p J : Int} (h : lsE d f n s p = some J) (hn : ¬ 1 < n) : s = J := by
  cases f with
  | zero => cases h
  | succ g =>
    unfold lsE at h
    rw [if_neg (fun hc => hn hc.1), if_pos (by omega)] at h
    exact Option.some.inj h

theorem lsign (w : World) (news : List (Addr × Obj)) (d x : Int) (t u : Tok) (f : Nat) (J : Int) (hJ : lsE d f x 1 3 = some J) : Gives w 119 [.int d t, .int x u] 20 news (fun v => ∃ t, v = .int J t) := by
  unfold Gives
  k_fill
  intro pg loose mean mg mb dp un gd cn cs a' ccd cl outer A₀ base h₀ L m s Q E B F X N T hk hd hu hret
  refine wpAny_call ?_
  k_dflt (refine' code_defC ?k1 ?k2 ?k3 ?k4 ?k5 ?kA ?kF ?kK ?k6 ?k7 ?k8 ?k9 ?kB ?kD ?_ ?c2 ?c3 ?c4; (case kA => exact rfl); (case kF => exact rfl); (case kK => first | exact rfl | assumption); (case k1 => k_asm); (case k2 => k_asm); (case k3 => k_asm); (case k4 => k_asm); (case k5 => k_asm); (case k6 => k_is); (case k7 => k_is); (case k8 => ktr_room); (case k9 => exact BindsTo.of_eq rfl); (case kB => exact rfl); (case kD => decide +kernel); (case c2 => exact rfl); (case c3 => exact rfl); (case c4 => exact rfl); k_whole)
  intro g' L' h' tk' cells' FG' F' N' Y' B' X' T' l1
  have hY := CellsAre.two Y'
  obtain ⟨o', o2', hE', d1', d2'⟩ := hY
  subst hE'
  clear Y'
  replace d2' : o2'.data = .cell (some (.int d t)) := d2'
  simp only [List.cons_append, List.nil_append] at N'
  try dsimp only
  try k_fold
  walk_at "own walk"
  refine whileS (σ := Nat × Int × Int × Int × Tok × Tok × Tok × Obj) (fun c => (L' + 1 + 1, c.2.2.2.2.2.2.2) :: (L' + 1, o2') :: news) (fun c => [(Str.ofString "n", .int c.2.1 c.2.2.2.2.1), (Str.ofString "sign", .int c.2.2.1 c.2.2.2.2.2.1)]) (fun c => c.2.2.2.2.2.2.2.data = .cell (some (.int c.2.2.2.1 c.2.2.2.2.2.2.1)) ∧ lsE d c.1 c.2.1 c.2.2.1 c.2.2.2.1 = some J) (fun c => c.1) (f, _, _, _, _, _, _, _) (by assumption) (by walk_at "own news") (by kst_all) ⟨by assumption, hJ⟩ ?_
  clear hJ
  rintro ⟨f, n, sg, p, tn, ts, tp, op⟩ u h tk ⟨hc, hP⟩ F' N'
  dsimp only at hc hP F' N' ⊢
  k_fold
  have hp : 1 < n → 3 ≤ p ∧ p < 1000 ∧ n < 1000 := fun hn => let ⟨_, _, h1, h2, h3, _⟩ := lsE_go hP hn; ⟨h2, h3, h1⟩
  walk_at "own walk"
  · k_dflt (refine LCt.ListComp_T (F₀ := by k_asm) (by with_unfolding_all rfl) (by decide) (by rfl) (by decide) (by rfl) ?_)
    walk_at "own walk"
    refine LCt.CompSrcT.range rfl (by assumption) (by assumption) (by assumption) (small_one (by omega) (by omega) (by omega) (by omega)) (rangeSize_nat _ _) (by rw [PySem.sizeLine_eq]; omega) ?_
    intro g9
    refine kci_range (fun l k => if (k * k - d).fmod p = 0 then l ++ [k] else l) ?_ ?_ ?_
    · intro k tk9 I oI C oC D m₂ ys l h9 t9 E' hlo hhi hI hC hx9 F9 N9 off ne _
      walk_at "own walk"
      · exact LCg.CompEnd.intro (by assumption) (by assumption) _ (fun p hp => hp) off trivial (kci_el (by rw [if_pos (by assumption)]) rfl rfl)
      · exact LCg.CompEnd.intro (by assumption) (by assumption) _ (fun p hp => hp) off trivial (kci_no (by rw [if_neg (by assumption)]) rfl)
    · unfold KPfDone
      intro ys hys hlen
      obtain ⟨f, rfl, _, _, _, hP⟩ := lsE_go hP (by assumption)
      rw [if_pos (by assumption)] at hP
      walk_at "own walk"
      · exact turn_end (f, _, _, _, _, _, _, _) (by assumption) (by walk_at "own news") (by kst_all) ⟨by assumption, by rw [if_pos (by assumption)] at hP; exact hP⟩ (Nat.lt_succ_self _)
      · exact turn_end (f, _, _, _, _, _, _, _) (by assumption) (by walk_at "own news") (by kst_all) ⟨by assumption, by rw [if_neg (by assumption), if_pos (show noRoot d p = true by assumption)] at hP; exact hP⟩ (Nat.lt_succ_self _)
      · exact turn_end (f, _, _, _, _, _, _, _) (by assumption) (by walk_at "own news") (by kst_all) ⟨by assumption, by rw [if_neg (by assumption), if_neg (by rw [Bool.not_eq_true]; show noRoot d p = false; assumption)] at hP; exact hP⟩ (Nat.lt_succ_self _)
    · intro l k
      dsimp only
      split
      · simp
      · omega
  · obtain ⟨f, rfl, _, _, _, hP⟩ := lsE_go hP (by assumption)
    rw [if_neg (by assumption)] at hP
    exact turn_end (f, _, _, _, _, _, _, _) (by assumption) (by walk_at "own news") (by kst_all) ⟨by assumption, hP⟩ (Nat.lt_succ_self _)
  · exact hret _ _ _ ⟨_, by rw [lsE_end hP (by assumption)]⟩ (by assumption) (by walk_at "own news")
end Mine

-- part due
namespace Mine
local macro_rules | `(tactic| walk_at "due") => `(tactic| skip)
theorem off_due : True := by
  w_top off
  trivial
local macro_rules | `(tactic| walk_at "own stop") => `(tactic| first | (with_reducible show wpAny _ _ (exec (Stmt.While _ _ _ _) _) _ _ _) | (with_reducible show wpAny _ _ (pyIter _) _ _ _) | (with_reducible show wpAny _ _ (PySem.call (Value.ref 119) _ _) _ _ _))
local macro_rules | `(tactic| walk_at "own walk") => `(tactic| repeat' (first | (k_unfold; (try dsimp only)) | (k_end; wrow_close) | ((fail_if_success (walk_at "own stop")); walk1) | ((fail_if_success (walk_at "own stop")); dsimp only; walk1) | (leave1; walk_say "STEP leave1"; try dsimp only) | fail "no step"))
local macro_rules | `(tactic| walk_at "own news") => `(tactic| exact newsOf (by assumption) (by intro p9 h9; first | exact h9 | exact .tail _ h9 | exact .tail _ (.tail _ h9) | exact .tail _ (.tail _ (.tail _ h9)) | exact .tail _ (.tail _ (.tail _ (.tail _ h9)))))
local macro_rules | `(tactic| units_room) => `(tactic| ktr_units)

/-- _law_due's loop -/
noncomputable def dueE (n : Int) : Nat → Int → Option Int
  | 0, _ => none
  | f + 1, d => match lsE d 400 n 1 3 with
    | none => none
    | some s => if s = 0 - 1 then some d else if s = 0 ∧ ¬ (if d < 0 then -d else d) = n then some 0 else dueE n f (if 0 < d then 0 - d - 2 else 2 - d)
theorem dueE_go {n d J : Int} {f : Nat} (h : dueE n f d = some J) : ∃ g s, f = g + 1 ∧ lsE d 400 n 1 3 = some s ∧
    (if s = 0 - 1 then some d else if s = 0 ∧ ¬ (if d < 0 then -d else d) = n then some 0 else dueE n g (if 0 < d then 0 - d - 2 else 2 - d)) = some J := by
  cases f with
  | zero => cases h
  | succ g =>
    unfold dueE at h
    generalize e : lsE d 400 n 1 3 = o at h
    cases o with
    | none => cases h
    | some s => exact ⟨g, s, rfl, rfl, h⟩

theorem ldue (w : World) (news : List (Addr × Obj)) (x : Int) (u : Tok) (J : Int) (hJ : dueE x 60 5 = some J) : Gives w 126 [.int x u] 24 news (fun v => ∃ t, v = .int J t) := by
  unfold Gives
  k_fill
  intro pg loose mean mg mb dp un gd cn cs a' ccd cl outer A₀ base h₀ L m s Q E B F X N T hk hd hu hret
  refine wpAny_call ?_
  k_dflt ktr_enter
  walk_at "own walk"
  refine forR (σ := Int × Tok × Tok) (fun _ => news) (fun c => [(Str.ofString "d", .int c.1 c.2.1), (Str.ofString "n", .int x c.2.2)]) (fun i c => dueE x (60 - i) c.1 = some J) (5, _, _) rfl (by assumption) (by decide) (rangeSize_nat _ _) (by assumption) (by walk_at "own news") (by kst_all) hJ ?_ ?_
  · clear hJ
    rintro i ⟨d, td, tn⟩ k t u h tk own hk hlt hP F' N'
    dsimp only at hP F' N' ⊢
    try k_fold
    obtain ⟨g, sg, hg, hs, hP⟩ := dueE_go hP
    have C1 := fun (t u : Tok) => lsign w (news ++ own) d x t u 400 sg hs
    walk_at "own walk"
    (k_dflt (refine' Gives.use (C1 _ _) ?k1 ?k2 ?k3 ?k4 ?k5 ?kK ?kd ?ku ?_))
    (case k1 => k_asm)
    (case k2 => k_asm)
    (case k3 => k_asm)
    (case k4 => walk_at "own news")
    (case k5 => k_asm)
    (case kK => exact rfl)
    (case kd => ktr_room)
    (case ku => ktr_units)
    rintro _ h9 tk9 ⟨t9, rfl⟩ F9 N9
    (try dsimp only)
    (try k_fold)
    walk_at "own walk"
    · rw [if_pos (by assumption)] at hP
      exact hret _ _ _ ⟨_, by rw [Option.some.inj hP]⟩ (by assumption) (newsOf (by assumption) (fun p hp => List.mem_append.mpr (.inl hp)))
    · rw [if_neg (by assumption), if_pos ⟨by assumption, by assumption⟩] at hP
      exact hret _ _ _ ⟨_, by rw [Option.some.inj hP]⟩ (by assumption) (newsOf (by assumption) (fun p hp => List.mem_append.mpr (.inl hp)))
    · exact for_end (_, _, _) (by assumption) (by assumption) (fun p hp => List.mem_append.mpr (.inl hp)) (fun p hp => List.mem_append.mpr (.inr hp)) rfl (by kst_all) (by rw [if_neg (by assumption), if_neg (fun hc => absurd (by assumption) hc.2), if_pos (by assumption)] at hP; rw [show 60 - (i + 1) = g by omega]; exact hP)
    · exact for_end (_, _, _) (by assumption) (by assumption) (fun p hp => List.mem_append.mpr (.inl hp)) (fun p hp => List.mem_append.mpr (.inr hp)) rfl (by kst_all) (by rw [if_neg (by assumption), if_neg (fun hc => absurd (by assumption) hc.2), if_neg (by assumption)] at hP; rw [show 60 - (i + 1) = g by omega]; exact hP)
    · exact for_end (_, _, _) (by assumption) (by assumption) (fun p hp => List.mem_append.mpr (.inl hp)) (fun p hp => List.mem_append.mpr (.inr hp)) rfl (by kst_all) (by rw [if_neg (by assumption), if_neg (fun hc => absurd hc.1 (by assumption)), if_pos (by assumption)] at hP; rw [show 60 - (i + 1) = g by omega]; exact hP)
    · exact for_end (_, _, _) (by assumption) (by assumption) (fun p hp => List.mem_append.mpr (.inl hp)) (fun p hp => List.mem_append.mpr (.inr hp)) rfl (by kst_all) (by rw [if_neg (by assumption), if_neg (fun hc => absurd hc.1 (by assumption)), if_neg (by assumption)] at hP; rw [show 60 - (i + 1) = g by omega]; exact hP)
  · rintro ⟨d, td, tn⟩ u h tk hP F' N'
    dsimp only at hP
    cases hP
end Mine

-- part giv
namespace Mine
theorem off_giv : True := by
  w_top off
  trivial
local macro_rules | `(tactic| k_all) => `(tactic| assumption)

theorem given (w : World) (rest : List (Addr × Obj)) (H l : Addr) (vs : List Value) (ns : List Int) (nn n2 : Nat) (c many : Int) (tc u : Tok) (hlH : (@Ne Nat l H)) (hne : ∀ p ∈ rest, p.1 ≠ H) (hi : IntsAre vs ns) (hlen : ns.length < 1000) (hc : 0 ≤ c) (hc2 : c < 100) (hm : 0 < many) (hm2 : many < 1000) :
    GivesN w 107 [.ref H, .int many u] 4 ((H, listOf [.int c tc, .ref l].toArray nn) :: (l, listOf vs.toArray n2) :: rest) (fun v nx => ∃ i t t', v = .int i t ∧ 0 ≤ i ∧ i < many ∧ nx = (H, listOf [.int (c + 1) t', .ref l].toArray nn) :: (l, listOf vs.toArray n2) :: rest) := by
  unfold GivesN
  k_fill
  intro pg loose mean mg mb dp un gd cn cs a' ccd cl outer A₀ base h₀ L m s Q E B F X N T hk hd hu hret
  refine wpAny_call ?_
  k_dflt ktr_enter
  k_steps
  all_goals exact hret _ _ _ _ ⟨_, _, _, rfl, fmod_lo _ hm, fmod_hi _ hm, rfl⟩ (by assumption) (by assumption)

theorem givenU (w : World) {news : List (Addr × Obj)} {g : Obj → List (Addr × Obj)} {H l : Addr} {vs : List Value} {ns : List Int} {nn n2 : Nat} {c many : Int} {tc u : Tok} (U : UpdF H (listOf [.int c tc, .ref l].toArray nn) news g) (hl : (l, listOf vs.toArray n2) ∈ news) (hlH : (@Ne Nat l H))
    (hi : IntsAre vs ns) (hlen : ns.length < 1000) (hc : 0 ≤ c) (hc2 : c < 100) (hm : 0 < many) (hm2 : many < 1000) :
    GivesN w 107 [.ref H, .int many u] 4 news (fun v nx => ∃ i t t', v = .int i t ∧ 0 ≤ i ∧ i < many ∧ nx = g (listOf [.int (c + 1) t', .ref l].toArray nn)) := by
  obtain ⟨own, rest, rfl, hg, h1, h2⟩ := U.split
  intro p loose mean mg mb dp un gd cn cs a ccd cl outer A₀ base h₀ L m s Q E B F X N T hk hd hu hret
  refine given w (own ++ rest) H l vs ns nn n2 c many tc u hlH (fun q hq => (List.mem_append.mp hq).elim (h1 q) (h2 q)) hi hlen hc hc2 hm hm2 p loose mean mg mb dp un gd cn cs a ccd cl outer A₀ base h₀ L m s Q E B F X (newsOf N fun q hq => ?_) T hk hd hu ?_
  · rcases List.mem_cons.mp hq with rfl | hq
    · exact List.mem_append.mpr (.inr (.head _))
    · rcases List.mem_cons.mp hq with rfl | hq
      · exact hl
      · exact (List.mem_append.mp hq).elim (fun z => List.mem_append.mpr (.inl z)) fun z => List.mem_append.mpr (.inr (.tail _ z))
  · rintro v nx h' tk' ⟨i, t, t', rfl, hi1, hi2, rfl⟩ F' N'
    refine hret _ _ _ _ ⟨i, t, t', rfl, hi1, hi2, rfl⟩ F' (newsOf N' fun q hq => ?_)
    rw [hg] at hq
    rcases List.mem_append.mp hq with z | z
    · exact .tail _ (.tail _ (List.mem_append.mpr (.inl z)))
    · rcases List.mem_cons.mp z with rfl | z
      · exact .head _
      · exact .tail _ (.tail _ (List.mem_append.mpr (.inr z)))
end Mine

-- part tell
namespace Mine
open PySem.Calls
theorem off_tell : True := by
  w_top off
  trivial
section
variable {prog : Program} {w : World} {A₀ A : Around} {s : Shared} {base h₀ : Heap} {L : Addr} {m : Str → Option Value} {env : Env} {news : List (Addr × Obj)} {K : Frag} {p : Program} {loose : List Str} {mean : ExcName → Option Value} {mg mb : Str → Option Value}
  {R : Result → Shared → Prop} {name qual : Str} {params : Arguments} {body : List Stmt} {scope : Scope} {dV kV doc pm cdv ct oc : Value} {an od : Option Addr} {osl : Array (Option Value)} {f : Addr} {args : Args} {binds : List (Str × Value)}
/-- a def with a try of its own is entered from the outermost frame, whatever cells that one has -/
theorem code_tell (B : Below A₀ base [] h₀) (F : Fr h₀ L s.heap m) (X₀ : K.In h₀) (N : News h₀ L s.heap news) (T : Top p loose mean mg mb h₀) (hA : A.frames = some [env]) (hf : env.frame = some L) (hke : env.scope.kind = .function)
    (ho : K.lookup f = some ⟨oc, od, .func (fnOf name qual params body scope dV kV doc pm an cdv ct), osl⟩) (hcd : codeIn K cdv qual = true) (hroom : A.depth < recursionLimit)
    (hbind : BindsTo s (fnOf name qual params body scope dV kV doc pm an cdv ct) args binds) (hloc : ∀ y ∈ binds, scope.names.lookup y.1 = some .local)
    (h : ∀ g L' h₁, Fr h₀ L g m → Fr g L' h₁ (fun y => binds.reverse.lookup y) → News g L' h₁ news → Below A base [env] g → K.In g → Top p loose mean mg mb g → KtsDicts ([env].filterMap (·.frame)) g →
      wpAny (model prog w) (A.deeper (envOf qual scope L' f cdv)) (execs body (envOf qual scope L' f cdv))
        (fun fl s' => LeaveS0 ([env].filterMap (·.frame)) h₀ L m g R (match fl with | .ret v => v | _ => .none) s')
        (fun e s' => wpAny (model prog w) (A.deeper (envOf qual scope L' f cdv)) (leaving (envOf qual scope L' f cdv) e) (fun _ s'' => R (.error e) s'') (fun e' s'' => R (.error e') s'') s')
        { s with heap := h₁, toks := s.toks + binds.length })
    (hco : scope.isCoroutine = false) (hgen : scope.isGenerator = false) (hk : scope.kind = .function) (hcell : ∀ x ∈ scope.names, x.2 ≠ .cell) : codeAny (model prog w) A (.call (.ref f) args) R s := by
  have fsL : [env].filterMap (·.frame) = [L] := by simp [hf]
  have away : ∀ b o, h₀.get? b = some o → b ∉ news.map (·.1) := by
    intro b o e q
    obtain ⟨r, hr, rfl⟩ := List.mem_map.mp q
    rw [(N r hr).2.2] at e
    cases e
  have st : h₀.StaysIn (hideAll s.heap (news.map (·.1))) := fun b o e => hideAll_get _ (F.keep b o e) (away b o e)
  have offL : L ∉ news.map (·.1) := by
    intro q
    obtain ⟨r, hr, e⟩ := List.mem_map.mp q
    exact (N r hr).2.1 e
  obtain ⟨oL, es, ep, hL, hLd, hk1, hk2⟩ := F.ns
  have hLg : (hideAll s.heap (news.map (·.1))).get? L = some oL := hideAll_get _ hL offL
  have freshL : h₀.get? L = none := kts_self F
  have B₂ : Below A base [env] (hideAll s.heap (news.map (·.1))) := by
    refine ⟨hA, fun b o e => st b o (B.stays b o e), funFrames_hideAll (pushX B F hf hke).frames fun e he b hb q => ?_⟩
    rw [List.mem_singleton.mp he, hf] at q
    cases q
    exact offL hb
  refine codeAny_call_def (fd := fnOf name qual params body scope dV kV doc pm an cdv ct) (body := body) (binds := binds) hroom ((X₀.keeps F.keep) _ _ ho) rfl (T.nolimit.keeps F.keep) (codeRec_of (X₀.keeps F.keep) hcd) rfl hbind hcell hloc (fun h₁ hns hk₁ => ?_) hco hgen hk
  have D : KtsDicts ([env].filterMap (·.frame)) (hideAll s.heap (news.map (·.1))) := by
    rw [fsL]
    intro b hb
    rw [List.mem_singleton.mp hb]
    exact ⟨oL, es, ep, hLg, hLd⟩
  have F₂ : Fr h₀ L (hideAll s.heap (news.map (·.1))) m := ⟨⟨oL, es, ep, hLg, hLd, hk1, hk2⟩, st, F.above⟩
  have F₃ : Fr (hideAll s.heap (news.map (·.1))) s.heap.objs.size h₁ (fun y => binds.reverse.lookup y) := ⟨hns, fun b o e => hk₁ b o (of_hideAll _ e), Nat.le_of_eq (hideAll_size _ _)⟩
  have N₃ : News (hideAll s.heap (news.map (·.1))) s.heap.objs.size h₁ news := fun r hr => ⟨hk₁ _ _ (N r hr).1, Nat.ne_of_lt (Heap.lt_size (N r hr).1), hideAll_none _ (List.mem_map_of_mem hr)⟩
  refine wpAny_mono (h _ _ h₁ F₂ F₃ N₃ B₂ (X₀.keeps st) (T.keeps st) D) (fun fl s' hl => ?_) fun _ _ y => y
  obtain ⟨g', L', m', news', T', F', N', k⟩ := hl
  rw [fsL] at T'
  obtain ⟨sl, hs⟩ := T'.up hLg
  refine k ⟨⟨_, es, ep, F'.keep _ _ hs, hLd, hk1, hk2⟩, fun b o e => F'.keep b o (T'.other b o (st b o e) fun q => ?_), F.above⟩ fun r hr => ⟨(N' r hr).1, fun q => ?_, ?_⟩
  · rw [List.mem_singleton.mp q, freshL] at e
    cases e
  · have z := (N' r hr).2.2
    rw [q, hs] at z
    cases z
  · cases q : h₀.get? r.1 with
    | none => rfl
    | some o =>
      obtain ⟨sl', hs'⟩ := T'.up (st _ _ q)
      have z := (N' r hr).2.2
      rw [hs'] at z
      cases z
end
section
variable {M : Model} {A : Around} {E : Value → Shared → Prop} {s' : Shared} {base g g₂ : Heap} {outer : List Env} {L e t : Addr} {m : Str → Option Value} {env : Env} {Q : Unit → Shared → Prop} {news : List (Addr × Obj)}
/-- an exception goes on through a frame of whatever make (a lambda's) -/
theorem leave_lam {cls : Value} {vs : List Value} (K : Below A base outer g) (F : Fr g L g₂ m) (R : RaisedS base g₂ (env :: outer) e cls t vs news s'.heap) (hsm : g₂.UpToSlots s'.heap) (hf : env.frame = some L)
    (hQ : ∀ h', RaisedS base g outer e cls t vs news h' → g.UpToSlots h' → Q () { s' with heap := h' }) : wpAny M (A.deeper env) (leaving env (.ref e)) Q E s' := by
  obtain ⟨⟨B, hB, hBG, hl, hfl, hnew⟩, htup⟩ := R
  refine wpAny_leaves_onW (Around.frames_deeper K.stack) hf hfl fun h' x1 x2 => hQ h' ⟨⟨B, hB, fun b o q nm => ?_, fun r hr => ⟨(hl r hr).1, kts_none F.keep (hl r hr).2.1, (hl r hr).2.2⟩, x1, hnew⟩, htup.of_slots x2⟩ ((Heap.UpToSlots.of_keeps F.keep).trans (hsm.trans x2))
  refine hBG b o (F.keep b o q) fun hm => ?_
  obtain ⟨en, he, hfe⟩ := List.mem_filterMap.mp hm
  rcases List.mem_cons.mp he with rfl | he
  · rw [hf] at hfe
    cases hfe
    rw [kts_self F] at q
    cases q
  · exact nm (List.mem_filterMap.mpr ⟨en, he, hfe⟩)
end
end Mine

-- part plain
namespace Mine
theorem and_off (z : Int) : ∀ (k : Nat) (y : Int), 0 ≤ y → y < 2 ^ k → Builtin.bitAnd (z * 2 ^ k) y = 0
  | 0, y, h0, h1 => by
    have e : y = 0 := by
      rw [Int.pow_zero] at h1
      omega
    subst e
    have := bitAnd_range (z * 2 ^ 0) (Int.le_refl 0)
    omega
  | k + 1, y, h0, h1 => by
    rw [kbt_halves]
    have e1 : z * 2 ^ (k + 1) = z * 2 ^ k * 2 := by rw [Int.pow_succ, Int.mul_assoc]
    have e2 : z * 2 ^ (k + 1) / 2 = z * 2 ^ k := by rw [e1]; exact Int.mul_ediv_cancel _ (by decide)
    have e3 : z * 2 ^ (k + 1) % 2 = 0 := by rw [e1]; exact Int.mul_emod_left _ _
    rw [e2, e3, and_off z k (y / 2) (by omega) (by rw [Int.pow_succ] at h1; omega)]
    simp
theorem or_add (z y : Int) (k : Nat) (h0 : 0 ≤ y) (h1 : y < 2 ^ k) : Builtin.bitOr (z * 2 ^ k) y = z * 2 ^ k + y := by
  rw [bitOr_and, and_off z k y h0 h1]
  omega

/-- the number of a row of limbs -/
noncomputable def valE (B : Int) : List Int → Int
  | [] => 0
  | y :: r => y + B * valE B r
/-- a row of limbs as it should be -/
noncomputable def Limbs (B : Int) : List Int → Prop
  | [] => True
  | y :: r => 0 ≤ y ∧ y < B ∧ (r = [] → y ≠ 0) ∧ Limbs B r
theorem valE_lo {B : Int} (hB : 0 < B) : ∀ {l}, Limbs B l → 0 ≤ valE B l
  | [], _ => Int.le_refl _
  | y :: r, ⟨h1, _, _, h4⟩ => by
    have := Int.mul_nonneg (Int.le_of_lt hB) (valE_lo hB h4)
    show 0 ≤ y + B * valE B r
    omega
theorem valE_pos {B : Int} (hB : 0 < B) : ∀ {l}, Limbs B l → l ≠ [] → 0 < valE B l
  | [], _, h => absurd rfl h
  | [y], ⟨h1, _, h3, _⟩, _ => by
    have := h3 rfl
    show 0 < y + B * 0
    omega
  | y :: z :: r, ⟨h1, _, _, h4⟩, _ => by
    have := Int.mul_pos hB (valE_pos hB h4 (List.cons_ne_nil _ _))
    show 0 < y + B * valE B (z :: r)
    omega
theorem valE_inj {B : Int} (hB : 0 < B) : ∀ {l l' : List Int}, Limbs B l → Limbs B l' → valE B l = valE B l' → l = l'
  | [], [], _, _, _ => rfl
  | [], y :: r, _, h, e => by
    have := valE_pos hB h (List.cons_ne_nil _ _)
    rw [← e] at this
    exact absurd this (Int.lt_irrefl _)
  | y :: r, [], h, _, e => by
    have := valE_pos hB h (List.cons_ne_nil _ _)
    rw [e] at this
    exact absurd this (Int.lt_irrefl _)
  | y :: r, y' :: r', ⟨a1, a2, _, a4⟩, ⟨b1, b2, _, b4⟩, e => by
    have e' : y + B * valE B r = y' + B * valE B r' := e
    have m1 : (y + B * valE B r) % B = y := by rw [Int.add_mul_emod_self_left]; exact Int.emod_eq_of_lt a1 a2
    have m2 : (y' + B * valE B r') % B = y' := by rw [Int.add_mul_emod_self_left]; exact Int.emod_eq_of_lt b1 b2
    have ey : y = y' := by rw [← m1, e', m2]
    subst ey
    have e2 : valE B r = valE B r' := Int.eq_of_mul_eq_mul_left (Int.ne_of_gt hB) (by omega)
    rw [valE_inj hB a4 b4 e2]

theorem pow_two_le {b : Int} (hb : 2 ≤ b) : (4 : Int) ≤ 2 ^ b.toNat := by
  obtain ⟨k, hk⟩ : ∃ k, b.toNat = k + 2 := ⟨b.toNat - 2, by omega⟩
  have : (1 : Int) ≤ 2 ^ k := Int.pow_pos (by decide)
  rw [hk, Int.pow_add]
  omega

theorem lim_all {b : Int} (hb : 2 ≤ b) : ∀ (f : Nat) (x : Int), 0 ≤ x → x < 2 ^ f → ∃ r, limE (f + 1) b x = some r ∧ r.length ≤ f ∧ Limbs (2 ^ b.toNat) r ∧ valE (2 ^ b.toNat) r = x
  | 0, x, h0, h1 => by
    have e : x = 0 := by rw [Int.pow_zero] at h1; omega
    subst e
    exact ⟨[], rfl, Nat.le_refl _, trivial, rfl⟩
  | f + 1, x, h0, h1 => by
    have hB := pow_two_le hb
    by_cases hx : 0 < x
    · have hq0 : 0 ≤ x / 2 ^ b.toNat := Int.ediv_nonneg h0 (by omega)
      have hq1 : x / 2 ^ b.toNat < 2 ^ f := by
        refine Int.ediv_lt_of_lt_mul (by omega) (Int.lt_of_lt_of_le h1 ?_)
        rw [Int.pow_succ]
        exact Int.mul_le_mul_of_nonneg_left (by omega) (Int.le_of_lt (Int.pow_pos (by decide)))
      obtain ⟨r, e, hl, hL, hv⟩ := lim_all hb f (x / 2 ^ b.toNat) hq0 hq1
      have e1 : x.fdiv (2 ^ b.toNat) = x / 2 ^ b.toNat := Int.fdiv_eq_ediv_of_nonneg _ (by omega)
      have e2 : x.fmod (2 ^ b.toNat) = x % 2 ^ b.toNat := Int.fmod_eq_emod_of_nonneg _ (by omega)
      refine ⟨x % 2 ^ b.toNat :: r, ?_, by simp; omega, ⟨Int.emod_nonneg _ (by omega), Int.emod_lt_of_pos _ (by omega), fun hr => ?_, hL⟩, ?_⟩
      · unfold limE
        rw [if_pos hx, e1, e2, e]
        rfl
      · subst hr
        have hv' : (0 : Int) = x / 2 ^ b.toNat := hv
        have := Int.mul_ediv_add_emod x (2 ^ b.toNat)
        rw [← hv', Int.mul_zero] at this
        omega
      · show x % 2 ^ b.toNat + 2 ^ b.toNat * valE (2 ^ b.toNat) r = x
        rw [hv]
        exact Int.emod_add_mul_ediv _ _
    · have e : x = 0 := by omega
      subst e
      exact ⟨[], rfl, by simp, trivial, rfl⟩

theorem nat_lim {b : Int} (hb : 2 ≤ b) : ∀ (f : Nat) (x : Int), 0 ≤ x → natE f b x = limE f b x
  | 0, _, _ => rfl
  | f + 1, x, h0 => by
    unfold natE limE
    have hB := pow_two_le hb
    have e1 : x.fdiv (2 ^ b.toNat) = x / 2 ^ b.toNat := Int.fdiv_eq_ediv_of_nonneg _ (by omega)
    rw [nat_lim hb f _ (by rw [e1]; exact Int.ediv_nonneg h0 (by omega)), Int.one_mul, kbt_maskF]

theorem rest_val {b d : Int} (hd : 0 < d) : ∀ {l : List Int}, Limbs (2 ^ b.toNat) l → restE d b l = (valE (2 ^ b.toNat) l).fmod d
  | [], _ => by show (0 : Int) = (0 : Int).fmod d; simp
  | y :: r, ⟨h1, h2, _, h4⟩ => by
    have hd0 : (0 : Int) ≤ d := Int.le_of_lt hd
    show (Builtin.bitOr (restE d b r * 2 ^ b.toNat) y).fmod d = (y + 2 ^ b.toNat * valE (2 ^ b.toNat) r).fmod d
    rw [or_add _ _ _ h1 h2, rest_val hd h4, Int.fmod_eq_emod_of_nonneg _ hd0, Int.fmod_eq_emod_of_nonneg _ hd0, Int.fmod_eq_emod_of_nonneg _ hd0]
    rw [Int.add_comm, Int.add_emod, Int.mul_emod, Int.emod_emod, ← Int.mul_emod, ← Int.add_emod, Int.mul_comm]

/-- the row of a small number -/
theorem row_all {b n : Int} (hb : 2 ≤ b) (hn : 0 ≤ n) (hn2 : n < 1000) : ∃ r, limE 20 b n = some r ∧ r.length ≤ 19 ∧ Limbs (2 ^ b.toNat) r ∧ valE (2 ^ b.toNat) r = n :=
  lim_all hb 19 n hn (Int.lt_trans hn2 (by decide))

theorem row_odd {b n : Int} {r : List Int} (hb : 2 ≤ b) (hL : Limbs (2 ^ b.toNat) r) (hv : valE (2 ^ b.toNat) r = n) : Builtin.bitAnd (r.getD 0 0) 1 = n % 2 := by
  rw [bitAnd_m1, ← hv]
  obtain ⟨k, hk⟩ : ∃ k, b.toNat = k + 1 := ⟨b.toNat - 1, by omega⟩
  cases r with
  | nil => rfl
  | cons y r =>
    show y % 2 = (y + 2 ^ b.toNat * valE (2 ^ b.toNat) r) % 2
    rw [hk, Int.pow_succ, Int.mul_comm (2 ^ k) 2, Int.mul_assoc, Int.add_mul_emod_self_left]
theorem row_eight {b n : Int} {r : List Int} (hb : 3 ≤ b) (hL : Limbs (2 ^ b.toNat) r) (hv : valE (2 ^ b.toNat) r = n) : Builtin.bitAnd (r.getD 0 0) 7 = n % 8 := by
  rw [bitAnd_m3, ← hv]
  obtain ⟨k, hk⟩ : ∃ k, b.toNat = k + 3 := ⟨b.toNat - 3, by omega⟩
  cases r with
  | nil => rfl
  | cons y r =>
    show y % 8 = (y + 2 ^ b.toNat * valE (2 ^ b.toNat) r) % 8
    rw [hk, Int.pow_add, Int.mul_comm (2 ^ k) (2 ^ 3), Int.mul_assoc, show (2 : Int) ^ 3 = 8 from rfl, Int.add_mul_emod_self_left]
theorem rowOf {b n : Int} {r : List Int} (hb : 2 ≤ b) (hn : n.fmod 2 = 1) (hn1 : 1 < n) (hlen : r.length ≤ 19) (hL : Limbs (2 ^ b.toNat) r) (hv : valE (2 ^ b.toNat) r = n) : RowOf n b r where
  len := by omega
  pos := by
    cases r with
    | nil => have hv' : (0 : Int) = n := hv; omega
    | cons y r => simp
  odd := by
    rw [row_odd hb hL hv]
    rw [Int.fmod_eq_emod_of_nonneg _ (by decide)] at hn
    omega
  one := by
    rintro rfl
    have hv' : (1 : Int) + 2 ^ b.toNat * 0 = n := hv
    rw [Int.mul_zero] at hv'
    omega
  eight := by
    by_cases hb3 : b < 3
    · rw [if_pos hb3, rest_val (by decide) hL, hv]
    · rw [if_neg hb3, row_eight (by omega) hL hv, Int.fmod_eq_emod_of_nonneg _ (by decide)]
  rest := fun e he _ => by rw [rest_val he hL, hv]
  nat := fun y hy hy2 => by
    obtain ⟨r', e, _, hL', hv'⟩ := lim_all hb 39 y hy (Int.lt_trans hy2 (by decide))
    refine ⟨r', by rw [nat_lim hb 40 y hy]; exact e, fun h => ?_, fun h => ?_⟩
    · rw [← hv, h, hv']
    · exact valE_inj (by have := pow_two_le hb; omega) hL hL' (by rw [hv, hv', h])
theorem row_even {b n : Int} {r : List Int} (hb : 2 ≤ b) (hn0 : 0 ≤ n) (hn : ¬ (n.fmod 2 = 1 ∧ 1 < n)) (hL : Limbs (2 ^ b.toNat) r) (hv : valE (2 ^ b.toNat) r = n) : r.length = 0 ∨ Builtin.bitAnd (r.getD (Int.toNat 0) 0) 1 = 0 ∨ r = [1] := by
  rw [Int.fmod_eq_emod_of_nonneg _ (by decide)] at hn
  by_cases h1 : n = 1
  · refine .inr (.inr (valE_inj (by have := pow_two_le hb; omega) hL ⟨by decide, by have := pow_two_le hb; omega, fun _ => by decide, trivial⟩ ?_))
    rw [hv, h1]
    show (1 : Int) = 1 + 2 ^ b.toNat * 0
    omega
  · refine .inr (.inl ?_)
    have := row_odd hb hL hv
    show Builtin.bitAnd (r.getD 0 0) 1 = 0
    omega
end Mine

-- part dec
namespace Mine
/-- no square below k is e, told by plain numbers: what the kernel reckons -/
noncomputable def noRootN (p e : Nat) : Nat → Bool
  | 0 => true
  | k + 1 => !(Nat.beq (k * k % p) e) && noRootN p e k
theorem fold_nil (c : Int → Prop) [DecidablePred c] : ∀ (ks l : List Int), (ks.foldl (fun l k => if c k then l ++ [k] else l) l = []) ↔ l = [] ∧ ∀ k ∈ ks, ¬ c k
  | [], l => by simp
  | k :: r, l => by
    rw [List.foldl_cons, fold_nil c r]
    by_cases h : c k
    · simp [h]
    · simp [h]
theorem noRootN_iff (p e : Nat) : ∀ n, noRootN p e n = true ↔ ∀ k, k < n → ¬ k * k % p = e
  | 0 => by simp [noRootN]
  | n + 1 => by
    unfold noRootN
    rw [Bool.and_eq_true, noRootN_iff p e n]
    constructor
    · rintro ⟨h1, h2⟩ k hk
      by_cases e1 : k = n
      · subst e1
        intro hc
        simp [hc] at h1
      · exact h2 k (by omega)
    · intro h
      refine ⟨?_, fun k hk => h k (by omega)⟩
      have := h n (Nat.lt_succ_self n)
      cases hb : Nat.beq (n * n % p) e with
      | false => rfl
      | true => exact absurd (Nat.eq_of_beq_eq_true hb) this
theorem noRoot_eq {d p : Int} (hp : 0 < p) : noRoot d p = noRootN p.toNat (d.fmod p).toNat p.toNat := by
  rw [Bool.eq_iff_iff, noRootN_iff]
  unfold noRoot
  rw [decide_eq_true_eq, fold_nil]
  have hd0 : 0 ≤ d.fmod p := fmod_lo d hp
  have key : ∀ k : Nat, ((((k : Int) * k - d).fmod p = 0) ↔ k * k % p.toNat = (d.fmod p).toNat) := by
    intro k
    have e1 : d.fmod p = d % p := Int.fmod_eq_emod_of_nonneg _ (by omega)
    rw [Int.fmod_eq_emod_of_nonneg _ (by omega), ← Int.emod_eq_emod_iff_emod_sub_eq_zero, ← e1]
    have e2 : ((k : Int) * k) % p = ((k * k % p.toNat : Nat) : Int) := by
      rw [Int.natCast_emod, Int.natCast_mul, Int.toNat_of_nonneg (by omega)]
    rw [e2]
    omega
  constructor
  · rintro ⟨_, h⟩ k hk hc
    refine h (k : Int) (List.mem_map.mpr ⟨k, List.mem_range.mpr (by omega), by omega⟩) ?_
    exact (key k).mpr hc
  · intro h
    refine ⟨rfl, fun k hk hc => ?_⟩
    obtain ⟨i, hi, rfl⟩ := List.mem_map.mp hk
    have hi' := List.mem_range.mp hi
    rw [Int.zero_add] at hc
    exact h i (by omega) ((key i).mp hc)
/-- _law_sign's loop, the roots by plain numbers -/
noncomputable def lsF (d : Int) : Nat → Int → Int → Int → Option Int
  | 0, _, _, _ => none
  | f + 1, n, s, p => if 1 < n ∧ n < 1000 ∧ 3 ≤ p ∧ p < 1000 then (if n.fmod p = 0 then lsF d f (n.fdiv p) (if d.fmod p = 0 then 0 else if noRootN p.toNat (d.fmod p).toNat p.toNat = true then 0 - s else s) p else lsF d f n s (p + 2)) else if n ≤ 1 then some s else none
theorem lsF_eq (d : Int) : ∀ f n s p, lsE d f n s p = lsF d f n s p
  | 0, _, _, _ => rfl
  | f + 1, n, s, p => by
    unfold lsE lsF
    by_cases hc : 1 < n ∧ n < 1000 ∧ 3 ≤ p ∧ p < 1000
    · rw [if_pos hc, if_pos hc, noRoot_eq (by omega), lsF_eq d f, lsF_eq d f]
    · rw [if_neg hc, if_neg hc]
noncomputable def dueF (n : Int) : Nat → Int → Option Int
  | 0, _ => none
  | f + 1, d => match lsF d 400 n 1 3 with
    | none => none
    | some s => if s = 0 - 1 then some d else if s = 0 ∧ ¬ (if d < 0 then -d else d) = n then some 0 else dueF n f (if 0 < d then 0 - d - 2 else 2 - d)
theorem dueF_eq (n : Int) : ∀ f d, dueE n f d = dueF n f d
  | 0, _ => rfl
  | f + 1, d => by
    unfold dueE dueF
    rw [lsF_eq]
    cases lsF d 400 n 1 3 with
    | none => rfl
    | some s => simp only [dueF_eq n f]
noncomputable def chk (n : Int) : Bool := match selE n 30 5, dueF n 60 5 with
  | some a, some b => a == b
  | _, _ => false
theorem chk_ok {n : Int} (h : chk n = true) : ∃ J, selE n 30 5 = some J ∧ dueE n 60 5 = some J := by
  rw [dueF_eq]
  unfold chk at h
  cases h1 : selE n 30 5 with
  | none => rw [h1] at h; cases h
  | some a =>
    cases h2 : dueF n 60 5 with
    | none => rw [h1, h2] at h; cases h
    | some b =>
      rw [h1, h2] at h
      exact ⟨a, rfl, by rw [eq_of_beq h]⟩
noncomputable def chks (o k : Nat) : Bool := (List.range k).all fun i => chk (2 * ((i + o : Nat) : Int) + 3)
theorem dec0 : chks 0 25 = true := by decide +kernel
theorem dec1 : chks 25 25 = true := by decide +kernel
theorem dec2 : chks 50 25 = true := by decide +kernel
theorem dec3 : chks 75 25 = true := by decide +kernel
theorem dec4 : chks 100 25 = true := by decide +kernel
theorem dec5 : chks 125 25 = true := by decide +kernel
theorem dec6 : chks 150 25 = true := by decide +kernel
theorem dec7 : chks 175 24 = true := by decide +kernel
theorem chk_all {n : Int} (h : n.fmod 2 = 1) (h1 : 1 < n) (h2 : n < 400) : chk n = true := by
  rw [Int.fmod_eq_emod_of_nonneg _ (by decide)] at h
  obtain ⟨j, hj, hj2⟩ : ∃ j : Nat, n = 2 * (j : Int) + 3 ∧ j < 199 := ⟨((n - 3) / 2).toNat, by omega, by omega⟩
  have get : ∀ {o k : Nat}, chks o k = true → o ≤ j → j < o + k → chk n = true := by
    intro o k hc ho hk
    have := List.all_eq_true.mp hc (j - o) (List.mem_range.mpr (by omega))
    rw [Nat.sub_add_cancel ho, ← hj] at this
    exact this
  by_cases c0 : j < 25
  · exact get dec0 (by omega) (by omega)
  by_cases c1 : j < 50
  · exact get dec1 (by omega) (by omega)
  by_cases c2 : j < 75
  · exact get dec2 (by omega) (by omega)
  by_cases c3 : j < 100
  · exact get dec3 (by omega) (by omega)
  by_cases c4 : j < 125
  · exact get dec4 (by omega) (by omega)
  by_cases c5 : j < 150
  · exact get dec5 (by omega) (by omega)
  by_cases c6 : j < 175
  · exact get dec6 (by omega) (by omega)
  exact get dec7 (by omega) (by omega)
end Mine

-- part end
namespace Mine
theorem law_end {cl : Str → Option Addr} {mean : ExcName → Option Value} {a : WData} {s₁ s' : Shared} {L : Addr} {m : Str → Option Value} (F : Fr s₁.heap L s'.heap m) (hg : s'.gens = #[]) (hos : s'.os = s₁.os) :
    GoodW PySem.Challenge.rw_rr0053_01.row.claim cl mean [a] s₁ (.ok (.ret (.bool true))) s' :=
  goodW_bool F hg (fun _ => rfl) (postW_of (r := PySem.Challenge.rw_rr0053_01.row.toRowW) rfl (w_eq_bool (w_res rfl) rfl) rfl) hos
end Mine

-- part law
namespace Mine
theorem off_law : True := by
  w_top off
  trivial
theorem menu {prog : Program} {w : World} {A : Around} {E : Value → Shared → Prop} {s : Shared} {value slice : Expr} {l : Addr} {vs : List Value} {k : Int} {u : Tok} {Q : Value → Shared → Prop} (P : Int → Prop)
    (hl : s.heap.IsList l vs.toArray) (h0 : 0 ≤ k) (hk : k < (vs.length : Int)) (hlen : vs.length < 1000) (hP : ∀ v ∈ vs, ∃ i t, v = .int i t ∧ P i) (h : ∀ i t, P i → Q (.int i t) s)
    (hs : subscripted slice false (.ref l) (.int k u) = operate [.ref l, .int k u] (getItem (.ref l) (.int k u))) :
    wpAny (model prog w) A (subscriptTail value slice (.ref l) (.int k u)) Q E s := by
  have hlt : k.toNat < vs.length := by omega
  obtain ⟨i, t, hv, hPi⟩ := hP vs[k.toNat] (List.getElem_mem hlt)
  exact tail_any hl.typeIs slot_list_getitem.lookup (wpAny_getItem_list hl h0 (by omega) (by simp [hlt, hv]) (h i t hPi)) hs
theorem sq_bound {e : Int} (h0 : 0 ≤ e) (h1 : e ≤ 10) : 0 ≤ e ^ Int.toNat 2 ∧ e ^ Int.toNat 2 < 400 := by
  have h : e = 0 ∨ e = 1 ∨ e = 2 ∨ e = 3 ∨ e = 4 ∨ e = 5 ∨ e = 6 ∨ e = 7 ∨ e = 8 ∨ e = 9 ∨ e = 10 := by omega
  rcases h with rfl | rfl | rfl | rfl | rfl | rfl | rfl | rfl | rfl | rfl | rfl <;> decide
local macro_rules | `(tactic| walk_at "own stop") => `(tactic| first | (with_reducible show wpAny _ _ (exec (Stmt.While _ _ _ _) _) _ _ _) | (with_reducible show wpAny _ _ (pyIter _) _ _ _) | (with_reducible show wpAny _ _ (PySem.call (Value.ref 107) _ _) _ _ _) | (with_reducible show wpAny _ _ (PySem.call (Value.ref 114) _ _) _ _ _) | (with_reducible show wpAny _ _ (PySem.call (Value.ref 100) _ _) _ _ _) | (with_reducible show wpAny _ _ (PySem.call (Value.ref 72) _ _) _ _ _) | (with_reducible show wpAny _ _ (PySem.call (Value.ref 126) _ _) _ _ _) | (with_reducible show wpAny _ _ (PySem.call (Value.ref 133) _ _) _ _ _) | (with_reducible show wpAny _ _ (exec (Stmt.If _ _ _ _) _) _ _ _) | (with_reducible show wpAny _ _ (subscriptTail _ _ (Value.ref _) (Value.int _ _)) _ _ _))
local macro_rules | `(tactic| walk_at "own walk") => `(tactic| repeat' (first | (k_unfold; (try dsimp only)) | (k_end; exact absurd rfl (by assumption)) | ((fail_if_success (walk_at "own stop")); walk1) | ((fail_if_success (walk_at "own stop")); dsimp only; walk1) | (leave1; walk_say "STEP leave1"; try dsimp only) | fail "no step"))
local macro_rules | `(tactic| is_list) => `(tactic| exact News.isList (by k_asm) (by k_mem))
local macro_rules | `(tactic| walk_at "leaving ref") => `(tactic| (k_here; (k_dflt (refine' leave_lam ?k1 ?k2 ?k3 ?k4 ?kf ?_; (case k3 => assumption); (case k2 => assumption); (case k1 => assumption); (case k4 => assumption); (case kf => exact rfl); k_whole)); intro h' R' U'; (try dsimp only at R' U' ⊢)))
local macro_rules | `(tactic| walk_at "own tell") => `(tactic| (k_dflt (refine' code_tell ?k1 ?k2 ?k3 ?k4 ?k5 ?kA ?kF ?kK ?k6 ?k7 ?k8 ?k9 ?kB ?_ ?c2 ?c3 ?c4 ?c5; (case kA => exact rfl); (case kF => exact rfl); (case kK => exact rfl); (case k1 => k_asm); (case k2 => k_asm); (case k3 => k_asm); (case k4 => k_asm); (case k5 => k_asm); (case k6 => k_is); (case k7 => k_is); (case k8 => k_room); (case k9 => exact BindsTo.of_eq rfl); (case kB => exact locs rfl); (case c2 => exact rfl); (case c3 => exact rfl); (case c4 => exact rfl); (case c5 => decide); k_whole; intro g' L' h' FG' F' N' B' X' T' D'; (try dsimp only); (try k_fold))))
local macro_rules | `(tactic| walk_at "own stop2") => `(tactic| first | (with_reducible show wpAny _ _ (exec (Stmt.While _ _ _ _) _) _ _ _) | (with_reducible show wpAny _ _ (pyIter _) _ _ _))
local macro_rules | `(tactic| walk_at "own walk2") => `(tactic| repeat' (first | (k_unfold; (try dsimp only)) | (k_end; wrow_close) | ((fail_if_success (walk_at "own stop2")); walk1) | ((fail_if_success (walk_at "own stop2")); dsimp only; walk1) | (leave1; walk_say "STEP leave1"; try dsimp only) | fail "no step"))
local macro_rules | `(tactic| walk_at "callWith ref") => `(tactic| (k_here; k_dflt (refine' callWith_K ?k1 ?k2 ?_; (case k1 => k_asm); (case k2 => k_is); k_whole)))
local macro_rules | `(tactic| walk_at "own walk3") => `(tactic| repeat' (first | (k_unfold; (try dsimp only)) | (k_end; exact absurd rfl (by assumption)) | ((fail_if_success (walk_at "own stop2")); walk1) | ((fail_if_success (walk_at "own stop2")); dsimp only; walk1) | (leave1; walk_say "STEP leave1"; try dsimp only) | fail "no step"))
local macro_rules | `(tactic| walk_at "own news") => `(tactic| exact newsOf (by assumption) (by intro p9 h9; first | exact h9 | exact .tail _ h9 | exact .tail _ (.tail _ h9) | exact .tail _ (.tail _ (.tail _ h9)) | exact .tail _ (.tail _ (.tail _ (.tail _ h9)))))
local macro_rules | `(tactic| walk_at "own all") => `(tactic| first | exact List.forall_mem_nil _ | (refine' List.forall_mem_cons.mpr ⟨?a, ?b⟩; (case a => k_ne); (case b => walk_at "own all")))
local macro_rules | `(tactic| k_all) => `(tactic| walk_at "own all")
local macro_rules | `(tactic| walk_at "own givenU") => `(tactic| ((k_dflt (refine' GivesN.use (givenU _ ?U ?hl ?g1 ?g3 ?g4 ?g5 ?g6 ?g7 ?g8) ?k1 ?k2 ?k3 ?k4 ?k5 ?kK ?kd ?ku ?_)); (case k4 => k_asm); (case k1 => k_asm); (case k2 => k_asm); (case k3 => k_asm); (case k5 => k_asm); (case kK => exact rfl); (case kd => ktr_room); (case ku => ktr_units); (case U => k_updF); (case hl => k_mem); (case g1 => k_ne); (case g3 => assumption); (case g4 => assumption); (case g5 => omega); (case g6 => omega); (case g7 => omega); (case g8 => omega)))
local macro_rules | `(tactic| walk_at "own given") => `(tactic| ((k_dflt (refine' GivesN.use (given _ _ _ _ _ _ _ _ _ _ _ _ ?g1 ?g2 ?g3 ?g4 ?g5 ?g6 ?g7 ?g8) ?k1 ?k2 ?k3 ?k4 ?k5 ?kK ?kd ?ku ?_)); (case k1 => k_asm); (case k2 => k_asm); (case k3 => k_asm); (case k4 => walk_at "own news"); (case k5 => k_asm); (case kK => exact rfl); (case kd => ktr_room); (case ku => ktr_units); (case g1 => k_ne); (case g2 => k_all); (case g3 => assumption); (case g4 => assumption); (case g5 => omega); (case g6 => omega); (case g7 => omega); (case g8 => omega)))

theorem law_holds : PySem.Challenge.rw_rr0053_01.Holds := hd (by
  k_go0
  all_goals try k_fold
  walk_at "own walk"
  rename World => W
  (rename IntsAre _ (List.map _ _) => hI9)
  generalize hms : List.map _ _ = ms at hI9
  have hms9 : ms.length < 1000 := by rw [← hms, List.length_map, List.length_take]; omega
  clear hms
  walk_at "own given"
  rintro _ _ h9 tk9 ⟨i1, t9, t8, rfl, hi1, hj1, rfl⟩ F9 N9
  (try dsimp only)
  (try k_fold)
  walk_at "own walk"
  walk_at "own given"
  rintro _ _ h9 tk9 ⟨i2, t9, t8, rfl, hi2, hj2, rfl⟩ F9 N9
  (try dsimp only)
  (try k_fold)
  walk_at "own walk"
  walk_at "own given"
  rintro _ _ h9 tk9 ⟨i3, t9, t8, rfl, hi3, hj3, rfl⟩ F9 N9
  (try dsimp only)
  (try k_fold)
  walk_at "own walk"
  have hr1 := fmod_lo i3 (show (0 : Int) < 5 by decide)
  have hr2 := fmod_hi i3 (show (0 : Int) < 5 by decide)
  have hr3 := fmod_lo i3 (show (0 : Int) < 10 by decide)
  have hr4 := fmod_hi i3 (show (0 : Int) < 10 by decide)
  refine menu (fun i => 0 ≤ i ∧ i < 400) (News.isList (by k_asm) (by k_mem)) hr1 (by simp only [List.length_cons, List.length_nil]; omega) (by simp only [List.length_cons, List.length_nil]; omega) (by repeat (first | exact List.forall_mem_nil _ | refine List.forall_mem_cons.mpr ⟨⟨_, _, rfl, by first | exact sq_bound (by omega) (by omega) | (constructor <;> omega)⟩, ?_⟩)) ?_ (by with_unfolding_all rfl)
  rintro m1 t7 ⟨hlom1, hhim1⟩
  (try dsimp only)
  (try k_fold)
  walk_at "own walk"
  refine menu (fun i => 0 ≤ i ∧ i < 400) (News.isList (by k_asm) (by k_mem)) hi2 (by simp only [List.length_cons, List.length_nil]; omega) (by simp only [List.length_cons, List.length_nil]; omega) (by repeat (first | exact List.forall_mem_nil _ | refine List.forall_mem_cons.mpr ⟨⟨_, _, rfl, by first | exact sq_bound (by omega) (by omega) | (constructor <;> omega)⟩, ?_⟩)) ?_ (by with_unfolding_all rfl)
  rintro n t7 ⟨hlon, hhin⟩
  (try dsimp only)
  (try k_fold)
  walk_at "own walk"
  obtain ⟨row, hrow, hlenrow, hLrow, hvrow⟩ := row_all (b := 2 + i1) (n := n) (by omega) hlon (by omega)
  have hrl : row.length < 1000 := Nat.lt_of_le_of_lt hlenrow (by decide)
  have C1 := fun (nw : List (Addr × Obj)) (t u : Tok) => limbs W nw n (2 + i1) t u 20 row (by decide) hlon (by omega) (by omega) hrow
  (k_dflt (refine' GivesN.use (C1 _ _ _) ?k1 ?k2 ?k3 ?k4 ?k5 ?kK ?kd ?ku ?_))
  (case k1 => k_asm)
  (case k2 => k_asm)
  (case k3 => k_asm)
  (case k4 => walk_at "own news")
  (case k5 => k_asm)
  (case kK => exact rfl)
  (case kd => ktr_room)
  (case ku => ktr_units)
  rintro _ _ h9 tk9 ⟨lr, vr, nr, rfl, rfl, hir, hlt⟩ F9 N9
  replace hlt := allLt_of hlt
  simp only [AllLt, and_true] at hlt
  clear C1
  (try dsimp only)
  (try k_fold)
  walk_at "own walk"
  refine joinA (fun v => ((n.fmod 2 = 1 ∧ 1 < n) ∧ ∃ J t, dueE n 60 5 = some J ∧ v = .int J t) ∨ (¬ (n.fmod 2 = 1 ∧ 1 < n) ∧ ∃ t, v = .str (Str.ofString "range") t)) (by assumption) (by assumption) ?_ ?_
  · by_cases hodd : n.fmod 2 = 1 ∧ 1 < n
    · obtain ⟨J, hJ, hdue⟩ := chk_ok (chk_all hodd.1 hodd.2 hhin)
      have RO : RowOf n (2 + i1) row := rowOf (by omega) hodd.1 hodd.2 hlenrow hLrow hvrow
      have C2 := fun (nw : List (Addr × Obj)) (u : Tok) (hl : (lr, listOf vr.toArray nr) ∈ nw) => self W nw lr vr row nr n (2 + i1) u 30 J hl hir (by omega) (by omega) RO hJ
      walk1
      walk_at "own walk"
      (k_dflt (refine' Gives.use (C2 _ _ ?hm) ?k1 ?k2 ?k3 ?k4 ?k5 ?kK ?kd ?ku ?_))
      (case k1 => k_asm)
      (case k2 => k_asm)
      (case k3 => k_asm)
      (case k4 => walk_at "own news")
      (case hm => k_mem)
      (case k5 => k_asm)
      (case kK => exact rfl)
      (case kd => ktr_room)
      (case ku => ktr_units)
      rintro _ h9 tk9 ⟨t9, rfl⟩ F9 N9
      (try dsimp only)
      (try k_fold)
      walk_at "own walk"
      exact metA (by assumption) (by walk_at "own news") (Or.inl ⟨hodd, J, _, hdue, rfl⟩)
    · have hrow3 := row_even (by omega) hlon hodd hLrow hvrow
      refine wpAny_call ?_
      walk_at "own tell"
      walk_at "own walk2"
      all_goals first | exact metA (by assumption) (by walk_at "own news") (Or.inr ⟨hodd, _, rfl⟩) | skip
      rcases hrow3 with h | h | h
      · exfalso; omega
      · exact absurd h (by assumption)
      · exact absurd h (by assumption)
  · rintro v h9 tk9 hR F9 N9
    try dsimp only
    try k_fold
    walk_at "own walk"
    refine joinA (fun f => f = Flow.next) (by assumption) (by assumption) ?_ ?_
    · rcases hR with ⟨hodd, J, t8, hdue, rfl⟩ | ⟨hodd, t8, rfl⟩
      · have C3 := fun (nw : List (Addr × Obj)) (u : Tok) => ldue W nw n u J hdue
        walk1
        walk_at "own walk"
        (k_dflt (refine' Gives.use (C3 _ _) ?k1 ?k2 ?k3 ?k4 ?k5 ?kK ?kd ?ku ?_))
        (case k1 => k_asm)
        (case k2 => k_asm)
        (case k3 => k_asm)
        (case k4 => walk_at "own news")
        (case k5 => k_asm)
        (case kK => exact rfl)
        (case kd => ktr_room)
        (case ku => ktr_units)
        rintro _ h9 tk9 ⟨t9, rfl⟩ F9 N9
        (try dsimp only)
        (try k_fold)
        walk_at "own walk"
        all_goals first | exact metA (by assumption) (by walk_at "own news") rfl | (exfalso; omega) | skip
      · walk1
        walk_at "own walk"
        all_goals first | exact metA (by assumption) (by walk_at "own news") rfl | (exfalso; omega) | skip
    · rintro _ h9 tk9 rfl F9 N9
      try dsimp only
      try k_fold
      clear hR
      walk_at "own walk"
      walk_at "own givenU"
      rintro _ _ h9 tk9 ⟨i4, t9, t8, rfl, hi4, hj4, rfl⟩ F9 N9
      (try dsimp only at N9)
      (try dsimp only)
      (try k_fold)
      walk_at "own walk"
      walk_at "own givenU"
      rintro _ _ h9 tk9 ⟨i5, t9, t8, rfl, hi5, hj5, rfl⟩ F9 N9
      (try dsimp only at N9)
      (try dsimp only)
      (try k_fold)
      walk_at "own walk"
      walk_at "own givenU"
      rintro _ _ h9 tk9 ⟨i6, t9, t8, rfl, hi6, hj6, rfl⟩ F9 N9
      (try dsimp only at N9)
      (try dsimp only)
      (try k_fold)
      walk_at "own walk"
      refine menu (fun i => 0 ≤ i ∧ i < 400) (News.isList (by k_asm) (by k_mem)) hi6 (by simp only [List.length_cons, List.length_nil]; omega) (by simp only [List.length_cons, List.length_nil]; omega) (by repeat (first | exact List.forall_mem_nil _ | refine List.forall_mem_cons.mpr ⟨⟨_, _, rfl, by first | exact sq_bound (by omega) (by omega) | (constructor <;> omega)⟩, ?_⟩)) ?_ (by with_unfolding_all rfl)
      rintro d t7 ⟨hlod, hhid⟩
      (try dsimp only)
      (try k_fold)
      walk_at "own walk"
      refine joinA (fun v => (0 < d ∧ ∃ t, v = .int (n.fmod d) t) ∨ (d = 0 ∧ ∃ t, v = .str (Str.ofString "nought") t)) (by assumption) (by assumption) ?_ ?_
      · by_cases hd0 : d = 0
        · subst hd0
          refine wpAny_call ?_
          walk_at "own tell"
          walk_at "own walk2"
          all_goals first | exact metA (by assumption) (by walk_at "own news") (Or.inr ⟨rfl, _, rfl⟩) | (exfalso; omega) | skip
        · have hrest : restE d (2 + i1) row = n.fmod d := by rw [rest_val (by omega) hLrow, hvrow]
          have C4 := fun (nw : List (Addr × Obj)) (t u : Tok) (hl : (lr, listOf vr.toArray nr) ∈ nw) => rest W nw lr vr row nr d (2 + i1) t u hl hir hrl (by omega) (by omega) (by omega) (by omega)
          walk1
          walk_at "own walk"
          (k_dflt (refine' Gives.use (C4 _ _ _ ?hm) ?k1 ?k2 ?k3 ?k4 ?k5 ?kK ?kd ?ku ?_))
          (case k1 => k_asm)
          (case k2 => k_asm)
          (case k3 => k_asm)
          (case k4 => walk_at "own news")
          (case hm => k_mem)
          (case k5 => k_asm)
          (case kK => exact rfl)
          (case kd => ktr_room)
          (case ku => ktr_units)
          rintro _ h9 tk9 ⟨t9, rfl⟩ F9 N9
          (try dsimp only)
          (try k_fold)
          walk_at "own walk"
          all_goals first | exact metA (by assumption) (by walk_at "own news") (Or.inl ⟨by omega, _, by rw [hrest]⟩) | skip
      · rintro v h9 tk9 hR F9 N9
        try dsimp only
        try k_fold
        have C5 := fun (nw : List (Addr × Obj)) (t u : Tok) => limbs W nw n (2 + i1) t u 20 row (by decide) hlon (by omega) (by omega) hrow
        rcases hR with ⟨hd0, t6, rfl⟩ | ⟨rfl, t6, rfl⟩
        · walk_at "own walk"
          (k_dflt (refine' GivesN.use (C5 _ _ _) ?k1 ?k2 ?k3 ?k4 ?k5 ?kK ?kd ?ku ?_))
          (case k1 => k_asm)
          (case k2 => k_asm)
          (case k3 => k_asm)
          (case k4 => walk_at "own news")
          (case k5 => k_asm)
          (case kK => exact rfl)
          (case kd => ktr_room)
          (case ku => ktr_units)
          rintro _ _ h9 tk9 ⟨l2, v2, n2, rfl, rfl, hi2', hlt2⟩ F9 N9
          replace hlt2 := allLt_of hlt2
          simp only [AllLt, and_true] at hlt2
          (try dsimp only)
          (try k_fold)
          walk_at "own walk3"
          exact law_end (by assumption) (by assumption) rfl
        · walk_at "own walk"
          (k_dflt (refine' GivesN.use (C5 _ _ _) ?k1 ?k2 ?k3 ?k4 ?k5 ?kK ?kd ?ku ?_))
          (case k1 => k_asm)
          (case k2 => k_asm)
          (case k3 => k_asm)
          (case k4 => walk_at "own news")
          (case k5 => k_asm)
          (case kK => exact rfl)
          (case kd => ktr_room)
          (case ku => ktr_units)
          rintro _ _ h9 tk9 ⟨l2, v2, n2, rfl, rfl, hi2', hlt2⟩ F9 N9
          replace hlt2 := allLt_of hlt2
          simp only [AllLt, and_true] at hlt2
          (try dsimp only)
          (try k_fold)
          walk_at "own walk3"
          exact law_end (by assumption) (by assumption) rfl)
end Mine

theorem PySem.Challenge.cw_rr0053_01_holds : PySem.Challenge.rw_rr0053_01.Holds :=
  Mine.law_holds
