import PyProof.Rows.All
import Wide.All
import OpenK.AllK
import Wide.FinOn
import Lean
import PySem.Challenge.RW_pb0158_01
open PySem PySem.W PyProof.Rows
set_option Elab.async false
set_option maxRecDepth 100000
set_option maxHeartbeats 8000000
set_option compiler.extract_closed false
namespace Mine
open_top hd for PySem.Challenge.rw_pb0158_01
local macro_rules | `(tactic| k_all) => `(tactic| assumption)
theorem news_sub {h₀ h : Heap} {L : Addr} {l l' : List (Addr × Obj)} (N : News h₀ L h l) (s : ∀ p ∈ l', p ∈ l) : News h₀ L h l' := fun p hp => N p (s p hp)
theorem news_tl {h₀ h : Heap} {L : Addr} {x : Addr × Obj} {l : List (Addr × Obj)} (N : News h₀ L h (x :: l)) : News h₀ L h l := fun p hp => N p (.tail _ hp)
def PenO (q : Addr) (po qo : Obj) : Prop := ∃ (a b : Int) (ta tb : Tok) (n1 n2 : Nat) (vs : List Value) (ns : List Int),
  po = listOf [.ref q, .int a ta, .int b tb].toArray n1 ∧ qo = listOf vs.toArray n2 ∧ IntsAre vs ns ∧ ns.length ≤ 100
theorem size_of_ints {v : Value} {vs : List Value} {n : Int} {ns : List Int} (h : IntsAre vs ns) (hl : (n :: ns).length ≤ 100) : (v :: vs).toArray.toList.length ≤ sizeLine := by
  have := h.length
  rw [PySem.sizeLine_eq]
  simp only [List.length_cons] at *
  omega
theorem pop0_K {prog : Program} {w : World} {A : Around} {E : Value → Shared → Prop} {s : Shared} {h₀ : Heap} {L D : Addr} {m : Str → Option Value} {news news' : List (Addr × Obj)} {n : Nat} {v : Value} {vs : List Value} {u : Tok} {Q : Value → Shared → Prop}
    (F : Fr h₀ L s.heap m) (N : News h₀ L s.heap news) (U : Upd D (listOf (v :: vs).toArray n) (listOf vs.toArray (n + 1)) news news')
    (hz : (v :: vs).toArray.toList.length ≤ sizeLine) (h : ∀ h', Fr h₀ L h' m → News h₀ L h' news' → Q v { s with heap := h' }) : wpAny (model prog w) A (call (.builtin "list.pop") [.ref D, .int 0 u]) Q E s :=
  kl_popAt (i := 0) (k := 0) (p := []) (q := vs) (y := v) F N rfl (by simp [seqIndex?]) rfl U hz h
section
local macro_rules | `(tactic| walk_at "call builtin:list.pop") => `(tactic| (k_here; (with_reducible show wpAny _ _ (call (Value.builtin _) [Value.ref _, Value.int _ _]) _ _ _); k_dflt (refine' pop0_K ?F ?N ?U ?z ?_; (case F => k_asm); (case N => k_asm); (case U => k_upd); (case z => exact size_of_ints (by assumption) (by assumption))); (intro h' F' N'; (try dsimp only [List.nil_append, List.cons_append] at N'))))
def DrawSpec : Prop := ∀ (w : World) (dp un : Nat) (gd : Option (List Code)) (env : Env) (outer : List Env) (A₀ : Around) (base h₀ : Heap) (L : Addr) (m : Str → Option Value) (nx : List (Addr × Obj)) (s : Shared)
  (loose : List Str) (mean : ExcName → Option Value) (mg mb : Str → Option Value)
  (p q : Addr) (po qo : Obj) (many : Int) (tm : Tok) (Q E : Value → Shared → Prop),
  Below A₀ base outer h₀ → Fr h₀ L s.heap m → (hd.heap_39 w.params).In h₀ →
  News h₀ L s.heap ((p, po) :: (q, qo) :: nx) → Top hd.view_39 loose mean mg mb h₀ → env.frame = some L → env.scope.kind = .function → PenO q po qo →
  @Ne Nat p q → (∀ x ∈ nx, x.1 ≠ p) → (∀ x ∈ nx, x.1 ≠ q) →
  dp + 20 < recursionLimit → un + 200 < cLine → 0 < many → many ≤ 1000 →
  (∀ r t po' qo' h' tk', 0 ≤ r → r < many → Fr h₀ L h' m → News h₀ L h' ((p, po') :: (q, qo') :: nx) → PenO q po' qo' →
    Q (.int r t) { s with heap := h', toks := tk' }) →
  wpAny (model (RowW.prog (OpenRow.toRowW (OpenLaw.row Challenge.rw_pb0158_01))) w) { handled := none, depth := dp, frames := some (env :: outer), guards := gd, units := un } (call (.ref 131) [.ref p, .int many tm]) Q E s
theorem draw_end {h₀ h' : Heap} {L p q : Addr} {m : Str → Option Value} {tmp nx : List (Addr × Obj)} {s : Shared} {Q : Value → Shared → Prop} {a b x many : Int} {ta tb : Tok} {n1 n2 : Nat} {vs : List Value} {ns : List Int} {t : Tok} {tk : Nat}
    (hm : 0 < many) (ret : ∀ r t po' qo' h' tk', 0 ≤ r → r < many → Fr h₀ L h' m → News h₀ L h' ((p, po') :: (q, qo') :: nx) → PenO q po' qo' → Q (.int r t) { s with heap := h', toks := tk' })
    (F : Fr h₀ L h' m) (N : News h₀ L h' (tmp ++ (p, listOf [.ref q, .int a ta, .int b tb].toArray n1) :: (q, listOf vs.toArray n2) :: nx)) (hi : IntsAre vs ns) (hl : ns.length ≤ 100) :
    Q (.int (x.fmod many) t) { s with heap := h', toks := tk } :=
  ret _ _ _ _ _ _ (Int.fmod_nonneg_of_pos _ hm) (Int.fmod_lt_of_pos _ hm) F (fun y hy => N y (List.mem_append_right _ hy)) ⟨_, _, _, _, _, _, _, _, rfl, rfl, hi, hl⟩
theorem draw_spec : DrawSpec := by
  unfold DrawSpec
  k_with_none
  w_top off
  k_fill
  intro w dp un gd env outer A₀ base h₀ L m nx s loose mean mg mb p q po qo many tm Q E B F X N T hf hk hpen hpq hp hq hd hu hm hm2 ret
  obtain ⟨a, b, ta, tb, n1, n2, vs, ns, rfl, rfl, hi, hlen⟩ := hpen
  have hm0 : many ≠ 0 := by omega
  cases hi with
  | nil =>
    have hi : IntsAre [] [] := .nil
    refine wpAny_call ?_
    k_dflt (refine' code_def ?k1 ?k2 ?k3 ?k4 ?k5 ?kA ?kF ?kK ?k6 ?k7 ?k8 ?k9 ?kB ?_ ?c2 ?c3 ?c4 ?c5; (case kA => exact rfl); (case kF => assumption); (case kK => assumption); (case k1 => k_asm); (case k2 => k_asm); (case k3 => k_asm); (case k4 => k_asm); (case k5 => k_asm); (case k6 => k_is); (case k7 => k_is); (case k8 => ktr_room); (case k9 => exact BindsTo.of_eq rfl); (case c5 => decide); (case kB => exact locs rfl); (case c2 => exact rfl); (case c3 => exact rfl); (case c4 => exact rfl); k_whole; intro g' L' h' FG' F' N' B' X' T'; (try dsimp only); (try k_fold))
    k_steps
    all_goals first
      | exact draw_end (tmp := []) hm ret (by assumption) (by assumption) hi hlen
      | exact draw_end (tmp := [_]) hm ret (by assumption) (by assumption) hi hlen
      | exact draw_end (tmp := []) hm ret (by assumption) (by assumption) hi' (Nat.le_of_succ_le hlen)
      | exact draw_end (tmp := [_]) hm ret (by assumption) (by assumption) hi' (Nat.le_of_succ_le hlen)
  | cons n t hi' =>
    rename_i vs ns
    have hi : IntsAre (.int n t :: vs) (n :: ns) := .cons n t hi'
    refine wpAny_call ?_
    k_dflt (refine' code_def ?k1 ?k2 ?k3 ?k4 ?k5 ?kA ?kF ?kK ?k6 ?k7 ?k8 ?k9 ?kB ?_ ?c2 ?c3 ?c4 ?c5; (case kA => exact rfl); (case kF => assumption); (case kK => assumption); (case k1 => k_asm); (case k2 => k_asm); (case k3 => k_asm); (case k4 => k_asm); (case k5 => k_asm); (case k6 => k_is); (case k7 => k_is); (case k8 => ktr_room); (case k9 => exact BindsTo.of_eq rfl); (case c5 => decide); (case kB => exact locs rfl); (case c2 => exact rfl); (case c3 => exact rfl); (case c4 => exact rfl); k_whole; intro g' L' h' FG' F' N' B' X' T'; (try dsimp only); (try k_fold))
    k_steps
    all_goals first
      | exact draw_end (tmp := []) hm ret (by assumption) (by assumption) hi hlen
      | exact draw_end (tmp := [_]) hm ret (by assumption) (by assumption) hi hlen
      | exact draw_end (tmp := []) hm ret (by assumption) (by assumption) hi' (Nat.le_of_succ_le hlen)
      | exact draw_end (tmp := [_]) hm ret (by assumption) (by assumption) hi' (Nat.le_of_succ_le hlen)
end
theorem draw_use {w : World} {dp un : Nat} {gd : Option (List Code)} {env : Env} {outer : List Env} {A₀ : Around} {base h₀ : Heap} {L : Addr} {m : Str → Option Value} {pre nx : List (Addr × Obj)} {s : Shared}
  {loose : List Str} {mean : ExcName → Option Value} {mg mb : Str → Option Value}
  {p q : Addr} {po qo : Obj} {many : Int} {tm : Tok} {Q E : Value → Shared → Prop}
  (B : Below A₀ base outer h₀) (F : Fr h₀ L s.heap m) (X : (hd.heap_39 w.params).In h₀)
  (N : News h₀ L s.heap (pre ++ (p, po) :: (q, qo) :: nx)) (T : Top hd.view_39 loose mean mg mb h₀) (hf : env.frame = some L) (hk : env.scope.kind = .function) (P : PenO q po qo)
  (hpq : @Ne Nat p q) (h1 : ∀ x ∈ pre, x.1 ≠ p) (h2 : ∀ x ∈ pre, x.1 ≠ q) (h3 : ∀ x ∈ nx, x.1 ≠ p) (h4 : ∀ x ∈ nx, x.1 ≠ q)
  (hd : dp + 20 < recursionLimit) (hu : un + 200 < cLine) (hm : 0 < many) (hm2 : many ≤ 1000)
  (ret : ∀ r t po' qo' h' tk', 0 ≤ r → r < many → Fr h₀ L h' m → News h₀ L h' (pre ++ (p, po') :: (q, qo') :: nx) → PenO q po' qo' →
    Q (.int r t) { s with heap := h', toks := tk' }) :
  wpAny (model (RowW.prog (OpenRow.toRowW (OpenLaw.row Challenge.rw_pb0158_01))) w) { handled := none, depth := dp, frames := some (env :: outer), guards := gd, units := un } (call (.ref 131) [.ref p, .int many tm]) Q E s := by
  refine draw_spec w dp un gd env outer A₀ base h₀ L m (pre ++ nx) s loose mean mg mb p q po qo many tm Q E B F X (fun y hy => N y ?_) T hf hk P hpq ?_ ?_ hd hu hm hm2 fun r t po' qo' h' tk' a b F' N' P' => ret r t po' qo' h' tk' a b F' (fun y hy => N' y ?_) P'
  · simp only [List.mem_cons, List.mem_append] at hy ⊢; rcases hy with h | h | h | h <;> simp [h]
  · intro x hx; rcases List.mem_append.mp hx with h | h; exact h1 x h; exact h3 x h
  · intro x hx; rcases List.mem_append.mp hx with h | h; exact h2 x h; exact h4 x h
  · simp only [List.mem_cons, List.mem_append] at hy ⊢; rcases hy with h | h | h | h <;> simp [h]
def PickSpec : Prop := ∀ (w : World) (dp un : Nat) (gd : Option (List Code)) (env : Env) (outer : List Env) (A₀ : Around) (base h₀ : Heap) (L : Addr) (m : Str → Option Value) (nx : List (Addr × Obj)) (s : Shared)
  (loose : List Str) (mean : ExcName → Option Value) (mg mb : Str → Option Value)
  (p q l : Addr) (po qo : Obj) (vs : List Value) (n : Nat) (Q E : Value → Shared → Prop),
  Below A₀ base outer h₀ → Fr h₀ L s.heap m → (hd.heap_39 w.params).In h₀ →
  News h₀ L s.heap ((p, po) :: (q, qo) :: nx) → Top hd.view_39 loose mean mg mb h₀ → env.frame = some L → env.scope.kind = .function → PenO q po qo →
  @Ne Nat p q → (∀ x ∈ nx, x.1 ≠ p) → (∀ x ∈ nx, x.1 ≠ q) →
  dp + 50 < recursionLimit → un + 500 < cLine → (l, listOf vs.toArray n) ∈ nx → 0 < vs.length → vs.length ≤ 1000 →
  (∀ v po' qo' h' tk', v ∈ vs → Fr h₀ L h' m → News h₀ L h' ((p, po') :: (q, qo') :: nx) → PenO q po' qo' →
    Q v { s with heap := h', toks := tk' }) →
  wpAny (model (RowW.prog (OpenRow.toRowW (OpenLaw.row Challenge.rw_pb0158_01))) w) { handled := none, depth := dp, frames := some (env :: outer), guards := gd, units := un } (call (.ref 138) [.ref p, .ref l]) Q E s
section
variable {prog : Program} {w : World} {A : Around} {E : Value → Shared → Prop} {s : Shared} {h₀ : Heap} {L l : Addr} {news : List (Addr × Obj)} {n : Nat} {vs : List Value}
theorem len_my {Q : Value → Shared → Prop} (N : News h₀ L s.heap news) (hm : (l, listOf vs.toArray n) ∈ news) (hv : vs.length ≤ 1000)
    (h : Q (.int vs.length (s.toks + 1)) { s with toks := s.toks + 1 + 1 }) : wpAny (model prog w) A (call (.builtin "len") [.ref l]) Q E s :=
  len_list (items := vs.toArray) ⟨_, (N _ hm).1, rfl, n, rfl⟩ (by simp only [List.size_toArray]; omega) (by simpa using h)
theorem item_my {value slice : PySem.Expr} {k : Int} {u : Tok} {Q : Value → Shared → Prop} (N : News h₀ L s.heap news) (hm : (l, listOf vs.toArray n) ∈ news) (h0 : 0 ≤ k) (h1 : k < vs.length) (hv : vs.length ≤ 1000)
    (h : ∀ v, vs[k.toNat]? = some v → Q v s)
    (hs : subscripted slice false (.ref l) (.int k u) = operate [.ref l, .int k u] (getItem (.ref l) (.int k u)) := by with_unfolding_all rfl) :
    wpAny (model prog w) A (subscriptTail value slice (.ref l) (.int k u)) Q E s := by
  have hk : k.toNat < vs.length := by omega
  exact item_litK (v := vs[k.toNat]) ⟨_, (N _ hm).1, rfl, n, rfl⟩ h0 (by omega) (by simp [hk]) (h _ (by simp [hk])) hs
end
local macro_rules | `(tactic| k_mem) => `(tactic| (first | (with_reducible assumption) | (refine' List.mem_cons_of_mem _ ?_; (first | (with_reducible assumption) | (refine' List.mem_cons_of_mem _ ?_; (first | (with_reducible assumption) | (refine' List.mem_cons_of_mem _ ?_; (first | (with_reducible assumption) | (refine' List.mem_cons_of_mem _ ?_; (first | (with_reducible assumption) | (refine' List.mem_cons_of_mem _ ?_; (first | (with_reducible assumption) | (refine' List.mem_cons_of_mem _ ?_; (first | (with_reducible assumption) | (refine' List.mem_cons_of_mem _ ?_; (first | (with_reducible assumption) | (refine' List.mem_cons_of_mem _ ?_; (with_reducible assumption))))))))))))))))))
local macro_rules | `(tactic| walk_at "call builtin:len") => `(tactic| (k_here; (with_reducible show wpAny _ _ (call (Value.builtin "len") [Value.ref _]) _ _ _); k_dflt (refine' len_my ?N ?m ?v ?_; (case N => k_asm); (case m => k_mem); (case v => assumption))))
section
local macro_rules | `(tactic| walk_at "subscriptTail") => `(tactic| (k_here; (with_reducible show wpAny _ _ (subscriptTail _ _ (Value.ref _) (Value.int _ _)) _ _ _); k_dflt (refine' item_my ?N ?m ?h0 ?h1 ?v ?_ ?hs; (case N => k_asm); (case m => k_mem); (case h0 => assumption); (case h1 => assumption); (case v => assumption); (case hs => with_unfolding_all rfl)); intro v' hv'))
local macro_rules | `(tactic| walk_at "call ref") => `(tactic| (k_here; (with_reducible show wpAny _ _ (call (Value.ref 131) _) _ _ _); k_dflt (refine' draw_use (pre := []) ?B ?F ?X ?N ?T ?hf ?hk ?P ?hpq ?h1 ?h2 ?h3 ?h4 ?hd ?hu ?hm ?hm2 ?_; (case B => k_asm); (case F => k_asm); (case X => k_asm); (case N => k_asm); (case T => k_asm); (case hf => exact rfl); (case hk => exact rfl); (case P => assumption); (case hpq => first | assumption | k_ne); (case h1 => k_all); (case h2 => k_all); (case h3 => k_all); (case h4 => k_all); (case hd => ktr_room); (case hu => ktr_units); (case hm => omega); (case hm2 => omega)); intro r' t' po' qo' h' tk' hr1' hr2' F' N' P'; (try dsimp only [List.nil_append, List.cons_append] at N'); (try k_sweep)))
theorem pick_spec : PickSpec := by
  unfold PickSpec
  k_with_none
  w_top off
  k_fill
  intro w dp un gd env outer A₀ base h₀ L m nx s loose mean mg mb p q l po qo vs n Q E B F X N T hf hk hpen hpq hp hq hd hu hl hv hv2 ret
  have hvi : (0:Int) < (vs.length : Int) := by omega
  refine wpAny_call ?_
  k_dflt (refine' code_def ?k1 ?k2 ?k3 ?k4 ?k5 ?kA ?kF ?kK ?k6 ?k7 ?k8 ?k9 ?kB ?_ ?c2 ?c3 ?c4 ?c5; (case kA => exact rfl); (case kF => assumption); (case kK => assumption); (case k1 => k_asm); (case k2 => k_asm); (case k3 => k_asm); (case k4 => k_asm); (case k5 => k_asm); (case k6 => k_is); (case k7 => k_is); (case k8 => ktr_room); (case k9 => exact BindsTo.of_eq rfl); (case c5 => decide); (case kB => exact locs rfl); (case c2 => exact rfl); (case c3 => exact rfl); (case c4 => exact rfl); k_whole; intro g' L' h' FG' F' N' B' X' T'; (try dsimp only); (try k_fold))
  k_steps
  all_goals exact ret _ _ _ _ _ (List.mem_of_getElem? (by assumption)) (by assumption) (by assumption) (by assumption)
end
section
open PySem PySem.W PyProof.Rows PyProof.V
def Stop (P : Prop) : Prop := P
theorem stop {P : Prop} (h : Stop P) : P := h
def GEnd (h₀ : Heap) (L : Addr) (J : (Str → Option Value) → List (Addr × Obj) → Prop) (own : List (Addr × Obj)) (wr : List Addr) (s₁ s₂ : Shared) : Prop :=
  ∃ h' tk m' news' nx, s₂ = { s₁ with heap := h', toks := tk } ∧ Fr h₀ L h' m' ∧ News h₀ L h' news' ∧ (∀ p ∈ nx, p ∈ news') ∧ (∀ p ∈ own, p ∈ news') ∧ (∀ p ∈ nx, p.1 ∉ wr) ∧ J m' nx
def GPost (h₀ : Heap) (L : Addr) (J : (Str → Option Value) → List (Addr × Obj) → Prop) (own : List (Addr × Obj)) (wr : List Addr) (s₁ : Shared) (Q : Flow → Shared → Prop) (f : Flow) (s₂ : Shared) : Prop :=
  match f with
  | .ret v => Q (.ret v) s₂
  | .brk => Q .next s₂
  | _ => GEnd h₀ L J own wr s₁ s₂
section
variable {h₀ : Heap} {L : Addr} {J : (Str → Option Value) → List (Addr × Obj) → Prop} {own own' : List (Addr × Obj)} {wr : List Addr} {s₁ : Shared} {Q : Flow → Shared → Prop}
theorem GEnd.keeps {s₂ : Shared} (e : GEnd h₀ L J own wr s₁ s₂) (up : ∀ m nx, J m nx → ∀ p ∈ own', p ∈ own ∨ p ∈ nx) : LoopStepU h₀ L wr own' J s₁ .next s₂ := by
  obtain ⟨h', tk, m', big, nx, rfl, F', N', inNx, inOwn, off, j⟩ := e
  refine .intro F' (fun p hp => N' p ?_) off j
  rcases List.mem_append.mp hp with a | a
  · exact (up m' nx j p a).elim (inOwn p) (inNx p)
  · exact inNx p a
theorem GPost.step (up : ∀ m nx, J m nx → ∀ p ∈ own', p ∈ own ∨ p ∈ nx) : ∀ (f : Flow) (s₂ : Shared), GPost h₀ L J own wr s₁ Q f s₂ → LoopStepV h₀ L wr own' J s₁ (fun v s' => Q (.ret v) s') (fun s' => Q .next s') f s₂
  | .ret _, _, p => p
  | .brk, _, p => p
  | .next, _, p => GEnd.keeps p up
  | .cont, _, p => GEnd.keeps p up
end
section
variable {prog : Program} {w : World} {A : Around} {E : Value → Shared → Prop} {s : Shared} {env : Env} {h₀ : Heap} {x : Str} {body : List Stmt} {Q : Flow → Shared → Prop}
theorem loop_G {I : Addr} {fp : List Addr} {n : Nat} {P : Nat → Value → Prop} {St : Nat → Heap → Prop} {m₀ : Str → Option Value} {news : List (Addr × Obj)} (J : Nat → (Str → Option Value) → List (Addr × Obj) → Prop)
    (W : Walks prog w A I fp [I] n P St) (hI : ∀ i h, St i h → ∃ o, h.get? I = some o) (Ifp : I ∈ fp) (fpI : ∀ a ∈ fp, a = I ∨ ∃ o, ∀ i m nx, J i m nx → (a, o) ∈ nx)
    (h0I : h₀.get? I = none) (hLf : env.locals ∉ fp) (hnw : ∀ p ∈ news, p.1 ≠ I) (hst : St 0 s.heap) (F : Fr h₀ env.locals s.heap m₀) (N : News h₀ env.locals s.heap news) (hj : J 0 m₀ news)
    (turn : ∀ i v m₁ nx h tk io, i < n → P i v → J i m₁ nx → (∀ p ∈ nx, p.1 ≠ I) → Fr h₀ env.locals h (fun y => if y = x then some v else m₁ y) → News h₀ env.locals h (nx ++ [(I, io)]) →
      wpAny (model prog w) A (execs body env) (GPost h₀ env.locals (J (i + 1)) [(I, io)] [I] { s with heap := h, toks := tk } Q) E { s with heap := h, toks := tk })
    (done : ∀ m₁ nx h tk, J n m₁ nx → Fr h₀ env.locals h m₁ → News h₀ env.locals h nx → Q .next { s with heap := h, toks := tk }) :
    LoopAtV prog w A h₀ env x body Q E (.ref I) s := by
  have one : ∀ {p : Addr × Obj}, p.1 ≠ I → p.1 ∉ [I] := fun h m => h (List.mem_singleton.mp m)
  refine ⟨I, fp, [I], n, P, St, m₀, news, J, rfl, W, hLf, ?_, fun p hp => one (hnw p hp), hst, F, N, hj, ?_, fun h' tk m' nx F' N' _ j => done m' nx h' tk j F' N'⟩
  · intro b hb
    exact List.mem_singleton.mp hb ▸ h0I
  intro i v m₁ nx s₁ own ⟨h, tk, e⟩ hi hP j off inFp at_ all st F₁ N₁
  subst e
  obtain ⟨io, hio⟩ := hI _ _ st
  have mine : (I, io) ∈ own := all I Ifp h0I io hio
  have up : ∀ m nx', J (i + 1) m nx' → ∀ p ∈ own, p ∈ [(I, io)] ∨ p ∈ nx' := by
    rintro m nx' j' ⟨a, o⟩ hp
    have here : h.get? a = some o := at_ _ hp
    rcases fpI a (inFp _ hp) with rfl | ⟨o', ho'⟩
    · rw [hio] at here
      cases here
      exact .inl (.head _)
    · have same := (N₁ _ (List.mem_append_right _ (ho' _ _ _ j))).1
      rw [here] at same
      cases same
      exact .inr (ho' _ _ _ j')
  refine wpAny_mono (turn i v m₁ nx h tk io hi hP j (fun p hp q => off p hp (q ▸ .head _)) F₁ fun p hp => N₁ p ?_) (GPost.step up) fun _ _ => id
  rcases List.mem_append.mp hp with a | a
  · exact List.mem_append_right _ a
  · exact List.mem_append_left _ (List.mem_singleton.mp a ▸ mine)
theorem range_from {r : Addr} {a₀ b₀ : Int} {t₀ u₀ v₀ : Tok} {n : Nat} {m₀ : Str → Option Value} {news : List (Addr × Obj)} (J : Nat → (Str → Option Value) → List (Addr × Obj) → Prop)
    (hh : A.handled = none) (hr : IsRange s.heap r a₀ b₀ 1 t₀ u₀ v₀) (ha : 0 ≤ a₀) (ha' : a₀ ≤ 100) (hb : b₀ = a₀ + (n : Int)) (hn : n ≤ 100) (F : Fr h₀ env.locals s.heap m₀) (N : News h₀ env.locals s.heap news) (hj : J 0 m₀ news)
    (turn : ∀ i t m₁ nx h tk it io, i < n → J i m₁ nx → (∀ p ∈ nx, p.1 ≠ it) → Fr h₀ env.locals h (fun y => if y = x then some (.int (a₀ + (i : Int)) t) else m₁ y) → News h₀ env.locals h (nx ++ [(it, io)]) →
      wpAny (model prog w) A (execs body env) (GPost h₀ env.locals (J (i + 1)) [(it, io)] [it] { s with heap := h, toks := tk } Q) E { s with heap := h, toks := tk })
    (done : ∀ m₁ nx h tk, J n m₁ nx → Fr h₀ env.locals h m₁ → News h₀ env.locals h nx → Q .next { s with heap := h, toks := tk }) :
    wpAny (model prog w) A (pyIter (.ref r)) (fun it s₂ => LoopAtV prog w A h₀ env x body Q E it s₂) E s := by
  subst hb
  have count : Builtin.Range.rangeSize a₀ (a₀ + (n : Int)) 1 = (n : Int) := by rw [rangeSize_nat]; omega
  have below : ∀ p ∈ news, p.1 ≠ s.heap.objs.size := fun p hp => Nat.ne_of_lt (Heap.lt_size (N p hp).1)
  refine wpAny_pyIter_range hr (small_one (by omega) (by omega) (by omega) (by omega)) (loop_G J (Walks.range hh s.heap.objs.size a₀ 1 n).bound (fun _ _ st => ⟨_, st⟩) (.head _) (fun a m => .inl (List.mem_singleton.mp m)) (next_is_new F)
    (fun m => Nat.ne_of_lt F.ns.lt (List.mem_singleton.mp m)) below ?_ (F.push _) (fun p hp => ⟨Heap.get?_push_of_some _ (N p hp).1, (N p hp).2⟩) hj ?_ fun m₁ nx h tk => done m₁ nx h tk)
  · show IsRangeIter _ _ _ _ _
    rw [count]
    simpa using Heap.get?_push_size _ rfl
  · rintro i _ m₁ nx h tk io hi ⟨_, t, rfl⟩ j off F₁ N₁
    exact turn i t m₁ nx h tk _ io hi j off (by simpa only [Int.mul_one] using F₁) N₁
theorem range_G {r : Addr} {b₀ : Int} {t₀ u₀ v₀ : Tok} {n : Nat} {m₀ : Str → Option Value} {news : List (Addr × Obj)} (J : Nat → (Str → Option Value) → List (Addr × Obj) → Prop)
    (hh : A.handled = none) (hr : IsRange s.heap r 0 b₀ 1 t₀ u₀ v₀) (hb : b₀ = (n : Int)) (hn : n ≤ 100) (F : Fr h₀ env.locals s.heap m₀) (N : News h₀ env.locals s.heap news) (hj : J 0 m₀ news)
    (turn : ∀ i t m₁ nx h tk it io, i < n → J i m₁ nx → (∀ p ∈ nx, p.1 ≠ it) → Fr h₀ env.locals h (fun y => if y = x then some (.int (i : Int) t) else m₁ y) → News h₀ env.locals h (nx ++ [(it, io)]) →
      wpAny (model prog w) A (execs body env) (GPost h₀ env.locals (J (i + 1)) [(it, io)] [it] { s with heap := h, toks := tk } Q) E { s with heap := h, toks := tk })
    (done : ∀ m₁ nx h tk, J n m₁ nx → Fr h₀ env.locals h m₁ → News h₀ env.locals h nx → Q .next { s with heap := h, toks := tk }) :
    wpAny (model prog w) A (pyIter (.ref r)) (fun it s₂ => LoopAtV prog w A h₀ env x body Q E it s₂) E s :=
  range_from J hh hr (by decide) (by decide) (by rw [hb, Int.zero_add]) hn F N hj (fun i t m₁ nx h tk it io hi j off F₁ => turn i t m₁ nx h tk it io hi j off (by simpa only [Int.zero_add] using F₁)) done
theorem range_G1 {r : Addr} {b₀ : Int} {t₀ u₀ v₀ : Tok} {n : Nat} {m₀ : Str → Option Value} {news : List (Addr × Obj)} (J : Nat → (Str → Option Value) → List (Addr × Obj) → Prop)
    (hh : A.handled = none) (hr : IsRange s.heap r 1 b₀ 1 t₀ u₀ v₀) (hb : b₀ = 1 + (n : Int)) (hn : n ≤ 100) (F : Fr h₀ env.locals s.heap m₀) (N : News h₀ env.locals s.heap news) (hj : J 0 m₀ news)
    (turn : ∀ i t m₁ nx h tk it io, i < n → J i m₁ nx → (∀ p ∈ nx, p.1 ≠ it) → Fr h₀ env.locals h (fun y => if y = x then some (.int (1 + (i : Int)) t) else m₁ y) → News h₀ env.locals h (nx ++ [(it, io)]) →
      wpAny (model prog w) A (execs body env) (GPost h₀ env.locals (J (i + 1)) [(it, io)] [it] { s with heap := h, toks := tk } Q) E { s with heap := h, toks := tk })
    (done : ∀ m₁ nx h tk, J n m₁ nx → Fr h₀ env.locals h m₁ → News h₀ env.locals h nx → Q .next { s with heap := h, toks := tk }) :
    wpAny (model prog w) A (pyIter (.ref r)) (fun it s₂ => LoopAtV prog w A h₀ env x body Q E it s₂) E s :=
  range_from J hh hr (by decide) (by decide) hb hn F N hj turn done
theorem list_G {l : Addr} {vs : List Value} {nl : Nat} {m₀ : Str → Option Value} {news : List (Addr × Obj)} (J : Nat → (Str → Option Value) → List (Addr × Obj) → Prop)
    (hh : A.handled = none) (F : Fr h₀ env.locals s.heap m₀) (N : News h₀ env.locals s.heap news) (hj : J 0 m₀ news) (hJl : ∀ i m nx, J i m nx → (l, listOf vs.toArray nl) ∈ nx)
    (turn : ∀ i v m₁ nx h tk it io, vs[i]? = some v → J i m₁ nx → (∀ p ∈ nx, p.1 ≠ it) → Fr h₀ env.locals h (fun y => if y = x then some v else m₁ y) → News h₀ env.locals h (nx ++ [(it, io)]) →
      wpAny (model prog w) A (execs body env) (GPost h₀ env.locals (J (i + 1)) [(it, io)] [it] { s with heap := h, toks := tk } Q) E { s with heap := h, toks := tk })
    (done : ∀ m₁ nx h tk, J vs.length m₁ nx → Fr h₀ env.locals h m₁ → News h₀ env.locals h nx → Q .next { s with heap := h, toks := tk }) :
    wpAny (model prog w) A (pyIter (.ref l)) (fun it s₂ => LoopAtV prog w A h₀ env x body Q E it s₂) E s := by
  obtain ⟨here, notL, _⟩ := N _ (hJl _ _ _ hj)
  have list : s.heap.IsList l vs.toArray := ⟨_, here, rfl, nl, rfl⟩
  have below : ∀ p ∈ news, p.1 ≠ s.heap.objs.size := fun p hp => Nat.ne_of_lt (Heap.lt_size (N p hp).1)
  have walks := Walks.list (prog := prog) (w := w) hh s.heap.objs.size l (below _ (hJl _ _ _ hj)) vs.toArray
  rw [List.size_toArray] at walks
  refine wpAny_pyIter_list list (loop_G J walks (fun _ _ st => ⟨_, st.1.choose_spec.1⟩) (.head _) ?_ (next_is_new F) ?_ below ?_ (F.push _) (fun p hp => ⟨Heap.get?_push_of_some _ (N p hp).1, (N p hp).2⟩) hj ?_ fun m₁ nx h tk => done m₁ nx h tk)
  · intro a m
    rcases List.mem_cons.mp m with e | m
    · exact .inl e
    · exact .inr ⟨_, fun i m' nx j => List.mem_singleton.mp m ▸ hJl i m' nx j⟩
  · intro m
    rcases List.mem_cons.mp m with e | m
    · exact Nat.ne_of_lt F.ns.lt e
    · exact notL (List.mem_singleton.mp m).symm
  · exact ⟨⟨_, Heap.get?_push_size _ rfl, rfl, rfl⟩, list.at fun o e => Heap.get?_push_of_some _ e⟩
  · intro i v m₁ nx h tk io _ hP j off F₁ N₁
    exact turn i v m₁ nx h tk _ io (by simpa using hP) j off F₁ N₁
end
end
section
open PySem PySem.W PyProof.Rows PyProof.V
def Off (l : List (Addr × Obj)) (as : List Addr) : Prop := ∀ p ∈ l, p.1 ∉ as
def CEnd (h₀ : Heap) (L : Addr) (m : Str → Option Value) (J : List (Addr × Obj) → Prop) (own : List (Addr × Obj)) (as : List Addr) (s₁ s₂ : Shared) : Prop :=
  ∃ h' tk nx news', s₂ = { s₁ with heap := h', toks := tk } ∧ Fr h₀ L h' m ∧ News h₀ L h' news' ∧ (∀ p ∈ nx, p ∈ news') ∧ (∀ p ∈ own, p ∈ news') ∧ Off nx as ∧ J nx
abbrev testsOf (ifs : List Expr) (cenv : Env) : Sem Bool := forIn ifs true fun c r => if r = true then do let ok ← isTrue c cenv (eval c cenv); pure (ForInStep.yield ok) else pure (ForInStep.yield r)
section
variable {prog : Program} {w : World} {A : Around} {E : Value → Shared → Prop} {R : Result → Shared → Prop} {s : Shared} {h₀ : Heap} {L : Addr} {m : Str → Option Value}
theorem ns_at {h : Heap} {a : Addr} {m : Str → Option Value} (x : h.Ns a m) : ∃ o, h.get? a = some o := ⟨_, x.choose_spec.choose_spec.choose_spec.1⟩
theorem comp_loop_G {elt iter : Expr} {x : Str} {px : Pos} {ifs : List Expr} {scope : Scope} {pos : Pos} {I D : Addr} {cenv : Env} {n : Nat} {P : Nat → Value → Prop} {St : Nat → Heap → Prop} {fp : List Addr} {nx₀ : List (Addr × Obj)} {m₀ : Str → Option Value} {k₀ : Nat}
    (J : Nat → List Value → List (Addr × Obj) → Prop)
    (W : Walks prog w A I fp [I] n P St) (hI : ∀ i h, St i h → ∃ o, h.get? I = some o) (hfp : ∀ b ∈ fp, b = I ∨ ∃ lo, ∀ i ys nx, J i ys nx → (b, lo) ∈ nx)
    (hx : cenv.kindOf x = some .local) (hp : (cenv.scope.kind == .class || (cenv.scope.kind == .module && cenv.locals != cenv.globals)) = false)
    (h0I : h₀.get? I = none) (h0C : h₀.get? cenv.locals = none) (h0D : h₀.get? D = none) (LI : I ≠ L) (LC : cenv.locals ≠ L) (LD : D ≠ L) (DI : D ≠ I) (DC : D ≠ cenv.locals) (IC : I ≠ cenv.locals)
    (F : Fr h₀ L s.heap m) (N : News h₀ L s.heap nx₀) (hD : s.heap.get? D = some (listOf [].toArray k₀)) (hns : s.heap.Ns cenv.locals m₀) (hst : St 0 s.heap) (off : Off nx₀ [D, cenv.locals, I]) (hj : J 0 [] nx₀) (hn : n ≤ 1000)
    (turn : ∀ i v ys nx h tk m₂ dO cO iO E', i < n → P i v → J i ys nx → ys.length ≤ i → Off nx [D, cenv.locals, I] → Fr h₀ L h m → News h₀ L h (nx ++ [(D, dO), (cenv.locals, cO), (I, iO)]) → h.Ns cenv.locals m₂ → m₂ x = some v →
      wpAny (model prog w) A (testsOf ifs cenv) (fun ok s₃ => if ok = true then
          wpAny (model prog w) A (eval elt cenv) (fun y s₄ => CEnd h₀ L m (J (i + 1) (ys ++ [y])) [(D, dO), (cenv.locals, cO), (I, iO)] [D, cenv.locals, I] { s with heap := h, toks := tk } s₄) E' s₃
        else CEnd h₀ L m (J (i + 1) ys) [(D, dO), (cenv.locals, cO), (I, iO)] [D, cenv.locals, I] { s with heap := h, toks := tk } s₃) E' { s with heap := h, toks := tk })
    (hR : ∀ h' tk m' ys nx k, J n ys nx → Off nx [D, cenv.locals, I] → Fr h₀ L h' m → News h₀ L h' ((D, listOf ys.toArray k) :: nx) → h'.Ns cenv.locals m' → R (.ok .next) { s with heap := h', toks := tk }) :
    codeAny (model prog w) A (.compLoop (.ListComp elt [⟨.Name x px, iter, ifs, 0⟩] scope pos) 0 (.ref I) (.ref D) cenv) R s := by
  refine codeAny_compLoop_tests
    (fun q s' => ∃ h' tk m' ys nx i k, s' = { s with heap := h', toks := tk } ∧ i ≤ n ∧ q = n + 1 - i ∧ J i ys nx ∧ ys.length ≤ i ∧ Off nx [D, cenv.locals, I] ∧ Fr h₀ L h' m ∧ News h₀ L h' nx ∧ h'.get? D = some (listOf ys.toArray k) ∧ h'.Ns cenv.locals m' ∧ St i h') ?_ (n + 1)
    ⟨s.heap, s.toks, m₀, [], nx₀, 0, k₀, rfl, Nat.zero_le _, rfl, hj, Nat.le_refl _, off, F, N, hD, hns, hst⟩
  rintro q s' ⟨H, tk, m', ys, nx, i, k, rfl, hi, rfl, hJ, hys, hoff, F', N', hD', hns', hst'⟩
  have offp : ∀ p ∈ nx, p.1 ≠ D ∧ p.1 ≠ cenv.locals ∧ p.1 ≠ I := fun p hp => by
    have := hoff p hp
    simp only [List.mem_cons, List.not_mem_nil, or_false, not_or] at this
    exact this
  have keepF : ∀ {H H' : Heap}, Fr h₀ L H m → (∀ b o, b ∉ [I] → H.get? b = some o → H'.get? b = some o) → Fr h₀ L H' m := fun {H H'} F hk =>
    ⟨by obtain ⟨o, es, ep, ho, r⟩ := F.ns; exact ⟨o, es, ep, hk L o (by simpa using Ne.symm LI) ho, r⟩, fun b o e => hk b o (by simp only [List.mem_singleton]; rintro rfl; rw [h0I] at e; cases e) (F.keep b o e), F.above⟩
  have keepN : ∀ {H H' : Heap}, News h₀ L H nx → (∀ b o, b ∉ [I] → H.get? b = some o → H'.get? b = some o) → News h₀ L H' nx := fun {H H'} N hk p hp =>
    ⟨hk _ _ (by simpa using (offp p hp).2.2) (N p hp).1, (N p hp).2⟩
  have keepNs : ∀ {H H' : Heap} {m'}, H.Ns cenv.locals m' → (∀ b o, b ∉ [I] → H.get? b = some o → H'.get? b = some o) → H'.Ns cenv.locals m' := fun {H H' m'} hn hk => by
    obtain ⟨o, es, ep, ho, r⟩ := hn; exact ⟨o, es, ep, hk _ o (by simpa using Ne.symm IC) ho, r⟩
  by_cases hlt : i < n
  · refine W.item i _ _ _ hlt hst' fun v h₁ tk₁ hP hst₁ hk₁ => ?_
    have F₁ := keepF F' hk₁
    have N₁ := keepN N' hk₁
    have hD₁ := hk₁ D _ (by simpa using DI) hD'
    have hns₁ := keepNs hns' hk₁
    refine wpAny_assign_Name (wpAny_storeName_local hx hns₁ (fun h₂ hn₂ hs₂ => ?_) hp)
    dsimp only at hs₂ ⊢
    obtain ⟨iO, hiO⟩ := hI _ _ hst₁
    have hiO₂ : h₂.get? I = some iO := (hs₂.2 I IC).trans hiO
    have hD₂ : h₂.get? D = some (listOf ys.toArray k) := (hs₂.2 D DC).trans hD₁
    obtain ⟨cO, hcO⟩ := ns_at hn₂
    have F₂ : Fr h₀ L h₂ m := by
      refine ⟨?_, fun b o e => (hs₂.2 b (by rintro rfl; rw [h0C] at e; cases e)).trans (F₁.keep b o e), F₁.above⟩
      obtain ⟨o, es, ep, ho, r⟩ := F₁.ns
      exact ⟨o, es, ep, (hs₂.2 L (Ne.symm LC)).trans ho, r⟩
    have N₂ : News h₀ L h₂ (nx ++ [(D, listOf ys.toArray k), (cenv.locals, cO), (I, iO)]) := by
      intro p hp
      rcases List.mem_append.mp hp with hp | hp
      · exact ⟨(hs₂.2 _ (offp p hp).2.1).trans (N₁ p hp).1, (N₁ p hp).2⟩
      · simp only [List.mem_cons, List.not_mem_nil, or_false] at hp
        rcases hp with rfl | rfl | rfl
        · exact ⟨hD₂, LD, h0D⟩
        · exact ⟨hcO, LC, h0C⟩
        · exact ⟨hiO₂, LI, h0I⟩
    have hst₂ : St (i + 1) h₂ := W.frame _ _ _ hst₁ fun b hb o e => by
      rcases hfp b hb with rfl | ⟨lo, hlo⟩
      · exact (hs₂.2 _ IC).trans e
      · exact (hs₂.2 _ (offp _ (hlo _ _ _ hJ)).2.1).trans e
    have step : ∀ {ys' : List Value} {s₃ : Shared} {R' : Prop}, ys'.length ≤ i + 1 → (∀ h₃ tk₃ nx₃, J (i + 1) ys' nx₃ → Off nx₃ [D, cenv.locals, I] → Fr h₀ L h₃ m → News h₀ L h₃ nx₃ → h₃.get? D = some (listOf ys.toArray k) → h₃.Ns cenv.locals (fun z => if z = x then some v else m' z) → St (i + 1) h₃ → s₃ = { s with heap := h₃, toks := tk₃ } → R') →
        CEnd h₀ L m (J (i + 1) ys') [(D, listOf ys.toArray k), (cenv.locals, cO), (I, iO)] [D, cenv.locals, I] { s with heap := h₂, toks := tk₁ + 1 } s₃ → R' := by
      rintro ys' s₃ R' hl hgo ⟨h₃, tk₃, nx₃, news₃, rfl, F₃, N₃, hsub, hown, hoff₃, hJ₃⟩
      have d3 := (N₃ _ (hown _ (.head _))).1
      have c3 := (N₃ _ (hown _ (.tail _ (.head _)))).1
      have i3 := (N₃ _ (hown _ (.tail _ (.tail _ (.head _))))).1
      refine hgo h₃ tk₃ nx₃ hJ₃ hoff₃ F₃ (fun p hp => N₃ p (hsub p hp)) d3 ?_ ?_ rfl
      · obtain ⟨o, es, ep, ho, r⟩ := hn₂
        rw [hcO] at ho
        cases ho
        exact ⟨_, es, ep, c3, r⟩
      · refine W.frame _ _ _ hst₂ fun b hb o e => ?_
        rcases hfp b hb with rfl | ⟨lo, hlo⟩
        · rw [hiO₂] at e; cases e; exact i3
        · have h1 := (N₂ _ (List.mem_append_left _ (hlo _ _ _ hJ))).1
          have h2 := (N₃ _ (hsub _ (hlo _ _ _ hJ₃))).1
          rw [h1] at e; cases e; exact h2
    refine wpAny_mono (turn i v ys nx h₂ (tk₁ + 1) _ _ cO iO _ hlt hP hJ hys hoff F₂ N₂ hn₂ (by simp)) (fun ok s₃ h₃ => ?_) fun _ _ e => e
    cases ok with
    | false =>
      simp only [Bool.false_eq_true, if_false] at h₃ ⊢
      refine step (ys' := ys) (Nat.le_succ_of_le hys) (fun h₃ tk₃ nx₃ hJ₃ hoff₃ F₃ N₃ hD₃ hns₃ hst₃ e => ?_) h₃
      exact ⟨n + 1 - (i + 1), by omega, h₃, tk₃, _, ys, nx₃, i + 1, k, e, hlt, rfl, hJ₃, Nat.le_succ_of_le hys, hoff₃, F₃, N₃, hD₃, hns₃, hst₃⟩
    | true =>
      simp only [if_true] at h₃ ⊢
      refine wpAny_mono h₃ (fun y s₄ h₄ => ?_) fun _ _ e => e
      refine step (ys' := ys ++ [y]) (by simp; omega) (fun h₃ tk₃ nx₃ hJ₃ hoff₃ F₃ N₃ hD₃ hns₃ hst₃ e => ?_) h₄
      subst e
      refine append_at (hsz := by rw [PySem.sizeLine_eq]; simp only [List.size_toArray]; omega) hD₃ fun h₅ hs₅ hD₅ => ?_
      have offp₃ : ∀ p ∈ nx₃, p.1 ≠ D ∧ p.1 ≠ cenv.locals ∧ p.1 ≠ I := fun p hp => by
        have := hoff₃ p hp
        simp only [List.mem_cons, List.not_mem_nil, or_false, not_or] at this
        exact this
      refine ⟨n + 1 - (i + 1), by omega, h₅, tk₃, fun z => if z = x then some v else m' z, ys ++ [y], nx₃, i + 1, k + 1, rfl, hlt, rfl, hJ₃, (by simp; omega), hoff₃, ?_, ?_, ?_, ?_, ?_⟩
      · refine ⟨?_, fun b o e => (hs₅.2 b (by rintro rfl; rw [h0D] at e; cases e)).trans (F₃.keep b o e), F₃.above⟩
        obtain ⟨o, es, ep, ho, r⟩ := F₃.ns
        exact ⟨o, es, ep, (hs₅.2 L (Ne.symm LD)).trans ho, r⟩
      · exact fun p hp => ⟨(hs₅.2 _ (offp₃ p hp).1).trans (N₃ p hp).1, (N₃ p hp).2⟩
      · rw [hD₅]; simp
      · obtain ⟨o, es, ep, ho, r⟩ := hns₃
        exact ⟨o, es, ep, (hs₅.2 _ (Ne.symm DC)).trans ho, r⟩
      · refine W.frame _ _ _ hst₃ fun b hb o e => ?_
        rcases hfp b hb with rfl | ⟨lo, hlo⟩
        · exact (hs₅.2 _ (Ne.symm DI)).trans e
        · exact (hs₅.2 _ (offp₃ _ (hlo _ _ _ hJ₃)).1).trans e
  · have hin : i = n := by omega
    subst hin
    refine W.done _ _ _ hst' fun h₁ tk₁ hk₁ => ?_
    have N₁ := keepN N' hk₁
    have hD₁ := hk₁ D _ (by simpa using DI) hD'
    refine hR h₁ tk₁ m' ys nx k hJ hoff (keepF F' hk₁) (fun p hp => ?_) (keepNs hns' hk₁)
    rcases List.mem_cons.mp hp with rfl | hp
    · exact ⟨hD₁, LD, h0D⟩
    · exact N₁ p hp
structure Laid (h h₁ : Heap) (o : Obj) : Prop where
  old : ∀ b p, h.get? b = some p → h₁.get? b = some p
  new : h₁.get? h.objs.size = some o
theorem laid {h h₁ : Heap} {o p : Obj} (ho : o.isFreed = false) (x : Heap.SameBut (h.push o).objs.size ((h.push o).push p) h₁) : Laid h h₁ o := by
  have top : (h.push o).objs.size = h.objs.size + 1 := Heap.size_push ..
  constructor
  · intro b q e
    have lt := Heap.lt_size e
    have ne : b ≠ (h.push o).objs.size := by rw [top]; exact Nat.ne_of_lt (Nat.lt_succ_of_lt lt)
    exact (x.2 b ne).trans (Heap.get?_push_of_some _ (Heap.get?_push_of_some _ e))
  · have ne : h.objs.size ≠ (h.push o).objs.size := by rw [top]; exact Nat.ne_of_lt (Nat.lt_succ_self _)
    exact (x.2 _ ne).trans (Heap.get?_push_of_some _ (Heap.get?_push_size _ ho))
theorem Laid.none {h h₁ : Heap} {o : Obj} (ux : Laid h h₁ o) (F : Fr h₀ L h m) {a : Addr} (ha : @LE.le Nat _ h.objs.size a) : h₀.get? a = none := by
  rcases e : h₀.get? a with _ | q
  · rfl
  · exact absurd (Heap.lt_size (F.keep _ _ e)) (Nat.not_lt.mpr ha)
theorem comp_block_G {elt iter : Expr} {x : Str} {px : Pos} {ifs : List Expr} {scope : Scope} {cl : List (Str × Addr)} {pos : Pos} {s₂ : Shared} {I : Addr} {fp : List Addr} {n : Nat} {P : Nat → Value → Prop} {St : Nat → Heap → Prop} {env : Env}
    {nx₀ : List (Addr × Obj)} {RR : Value → Addr → Result → Shared → Prop}
    (J : Nat → List Value → List (Addr × Obj) → Prop)
    (W : Walks prog w A I fp [I] n P St) (hI : ∀ i h, St i h → ∃ o, h.get? I = some o) (hfp : ∀ b ∈ fp, b = I ∨ ∃ lo, ∀ i ys nx, J i ys nx → (b, lo) ∈ nx)
    (hcell : ∀ y ∈ scope.names, y.2 ≠ .cell) (hkind : scope.kind = .function) (hx : scope.names.lookup x = some .local) (hst : St 0 s₂.heap)
    (h0I : h₀.get? I = none) (LI : I ≠ L) (F : Fr h₀ L s₂.heap m) (N : News h₀ L s₂.heap nx₀) (off : ∀ p ∈ nx₀, p.1 ≠ I) (hj : J 0 [] nx₀) (hn : n ≤ 1000)
    (turn : ∀ i v ys nx h tk m₂ C D dO cO iO E', i < n → P i v → J i ys nx → ys.length ≤ i → Off nx [D, C, I] → D ≠ C → D ≠ I → I ≠ C → Fr h₀ L h m → News h₀ L h (nx ++ [(D, dO), (C, cO), (I, iO)]) → h.Ns C m₂ → m₂ x = some v →
      wpAny (model prog w) A (testsOf ifs (compEnvC scope cl C env)) (fun ok s₃ => if ok = true then
          wpAny (model prog w) A (eval elt (compEnvC scope cl C env)) (fun y s₄ => CEnd h₀ L m (J (i + 1) (ys ++ [y])) [(D, dO), (C, cO), (I, iO)] [D, C, I] { s₂ with heap := h, toks := tk } s₄) E' s₃
        else CEnd h₀ L m (J (i + 1) ys) [(D, dO), (C, cO), (I, iO)] [D, C, I] { s₂ with heap := h, toks := tk } s₃) E' { s₂ with heap := h, toks := tk })
    (hRR : ∀ h' tk C D m' ys nx k, J n ys nx → Off nx [D, C] → h₀.get? C = none → C ≠ L → D ≠ C → Fr h₀ L h' m → News h₀ L h' ((D, listOf ys.toArray k) :: nx) → h'.Ns C m' → RR (.ref D) C (.ok .next) { s₂ with heap := h', toks := tk }) :
    wpAny (model prog w) A (newList []) (fun acc s₃ => wpAny (model prog w) A (newFunctionEnv scope env.globals cl [] env.qual none .none (some env)) (fun cenv s₄ =>
      codeAny (model prog w) A (.compStart (.ListComp elt [⟨.Name x px, iter, ifs, 0⟩] scope pos) 0 (.ref I) acc { cenv with scope := relabel scope env }) (RR acc cenv.locals) s₄) E s₃) E s₂ := by
  refine wpAny_newObj_type (wpAny_newFunctionEnv hcell (fun y hy => absurd hy List.not_mem_nil) (fun h₁ nsC but => ?_) hkind)
  obtain ⟨D, eD⟩ : ∃ D, D = s₂.heap.objs.size := ⟨_, rfl⟩
  obtain ⟨C, eC⟩ : ∃ C, C = (s₂.heap.push (listOf [].toArray 0)).objs.size := ⟨_, rfl⟩
  have up : @Eq Nat C (D + 1) := eC.trans ((Heap.size_push ..).trans (by rw [eD]))
  have lay : Laid s₂.heap h₁ (listOf [].toArray 0) := laid rfl but
  replace nsC : h₁.Ns C _ := eC ▸ nsC
  obtain ⟨iO, hiO⟩ := hI _ _ hst
  have hIlt : @LT.lt Nat _ I D := eD ▸ Heap.lt_size hiO
  have hLlt : @LT.lt Nat _ L D := eD ▸ F.ns.lt
  have none₀ : ∀ a, @LE.le Nat _ D a → h₀.get? a = none := fun a ha => lay.none F (eD ▸ ha)
  have D0 := none₀ D (Nat.le_refl _)
  have C0 := none₀ C (by rw [up]; exact Nat.le_succ _)
  have DC : D ≠ C := by rw [up]; exact Nat.ne_of_lt (Nat.lt_succ_self _)
  have under : ∀ {b : Addr}, @LT.lt Nat _ b D → b ≠ C ∧ b ≠ D := fun h => ⟨by rw [up]; exact Nat.ne_of_lt (Nat.lt_succ_of_lt h), Nat.ne_of_lt h⟩
  have offAll : Off nx₀ [D, C, I] := fun p hp hm => by
    have lt : @LT.lt Nat _ p.1 D := eD ▸ Heap.lt_size (N p hp).1
    simp only [List.mem_cons, List.not_mem_nil, or_false] at hm
    rcases hm with e | e | e
    · exact (under lt).2 e
    · exact (under lt).1 e
    · exact off p hp e
  have st₁ : St 0 h₁ := W.frame _ _ _ hst fun b _ o e => lay.old b o e
  show codeAny _ _ (.compStart _ 0 (.ref I) (.ref s₂.heap.objs.size) (compEnvC scope cl (s₂.heap.push (listOf [].toArray 0)).objs.size env)) (RR (.ref s₂.heap.objs.size) (s₂.heap.push (listOf [].toArray 0)).objs.size) { s₂ with heap := h₁, toks := s₂.toks + 0 }
  rw [← eC, ← eD]
  have walk : codeAny (model prog w) A (.compLoop (.ListComp elt [⟨.Name x px, iter, ifs, 0⟩] scope pos) 0 (.ref I) (.ref D) (compEnvC scope cl C env)) (RR (.ref D) C) { s₂ with heap := h₁, toks := s₂.toks + 0 } :=
    comp_loop_G (cenv := compEnvC scope cl C env) J W hI hfp (lookup_relabel_local hx) (by simp [compEnvC, relabel, hkind]) h0I C0 D0 LI (under hLlt).1.symm (Nat.ne_of_gt hLlt) (Nat.ne_of_gt hIlt) DC (under hIlt).1
      ⟨F.ns.at' (lay.old _), fun b o e => lay.old b o (F.keep b o e), F.above⟩ (fun p hp => ⟨lay.old _ _ (N p hp).1, (N p hp).2⟩) (eD ▸ lay.new) nsC st₁ offAll hj hn
      (fun i v ys nx h tk m₂ dO cO iO E' hi hP hJ hl ho F N hns hm => turn i v ys nx h tk m₂ C D dO cO iO E' hi hP hJ hl ho DC (Nat.ne_of_gt hIlt) (under hIlt).1 F N hns hm)
      (fun h' tk m' ys nx k hJ ho F N hns => hRR h' tk C D m' ys nx k hJ (fun p hp hm => ho p hp (by
        simp only [List.mem_cons, List.not_mem_nil, or_false] at hm ⊢
        exact hm.elim .inl fun e => .inr (.inl e))) C0 (under hLlt).1.symm DC F N hns)
  exact codeAny_compStart_list walk (W.self 0 _ _ _ st₁ walk)
theorem drop_ns {h' h'' : Heap} {C : Addr} {l : List (Addr × Obj)} (F : Fr h₀ L h' m) (N : News h₀ L h' l) (hs : Heap.SameBut C h' h'') (h0C : h₀.get? C = none) (LC : C ≠ L) (off : ∀ p ∈ l, p.1 ≠ C) : Fr h₀ L h'' m ∧ News h₀ L h'' l := by
  refine ⟨⟨?_, fun b o e => (hs.2 b (by rintro rfl; rw [h0C] at e; cases e)).trans (F.keep b o e), F.above⟩, fun p hp => ⟨(hs.2 _ (off p hp)).trans (N p hp).1, (N p hp).2⟩⟩
  obtain ⟨o, es, ep, ho, r⟩ := F.ns
  exact ⟨o, es, ep, (hs.2 L (Ne.symm LC)).trans ho, r⟩
def CompAt (prog : Program) (w : World) (A : Around) (h₀ : Heap) (L : Addr) (env : Env) (scope : Scope) (cl : List (Str × Addr)) (x : Str) (ifs : List Expr) (elt : Expr) (Fm : Addr → (Str → Option Value) → Str → Option Value) (Q : Addr → Shared → Prop) (it : Value) (s₂ : Shared) : Prop :=
  ∃ (I : Addr) (fp : List Addr) (n : Nat) (P : Nat → Value → Prop) (St : Nat → Heap → Prop) (m : Str → Option Value) (nx₀ : List (Addr × Obj)) (J : Nat → List Value → List (Addr × Obj) → Prop),
    it = .ref I ∧ Walks prog w A I fp [I] n P St ∧ (∀ i h, St i h → ∃ o, h.get? I = some o) ∧
    (∀ b ∈ fp, b = I ∨ ∃ lo, ∀ i ys nx, J i ys nx → (b, lo) ∈ nx) ∧ St 0 s₂.heap ∧ h₀.get? I = none ∧ I ≠ L ∧ Fr h₀ L s₂.heap m ∧ News h₀ L s₂.heap nx₀ ∧ (∀ p ∈ nx₀, p.1 ≠ I) ∧ J 0 [] nx₀ ∧ n ≤ 1000 ∧
    (∀ i v ys nx h tk m₂ C D dO cO iO E', i < n → P i v → J i ys nx → ys.length ≤ i → Off nx [D, C, I] → D ≠ C → D ≠ I → I ≠ C → Fr h₀ L h m → News h₀ L h (nx ++ [(D, dO), (C, cO), (I, iO)]) → h.Ns C m₂ → m₂ x = some v →
      wpAny (model prog w) A (testsOf ifs (compEnvC scope cl C env)) (fun ok s₃ => if ok = true then
          wpAny (model prog w) A (eval elt (compEnvC scope cl C env)) (fun y s₄ => CEnd h₀ L m (J (i + 1) (ys ++ [y])) [(D, dO), (C, cO), (I, iO)] [D, C, I] { s₂ with heap := h, toks := tk } s₄) E' s₃
        else CEnd h₀ L m (J (i + 1) ys) [(D, dO), (C, cO), (I, iO)] [D, C, I] { s₂ with heap := h, toks := tk } s₃) E' { s₂ with heap := h, toks := tk }) ∧
    (∀ h' tk D ys nx k, J n ys nx → (∀ p ∈ nx, p.1 ≠ D) → Fr h₀ L h' (Fm D m) → News h₀ L h' ((D, listOf ys.toArray k) :: nx) → Q D { s₂ with heap := h', toks := tk })
theorem comp_any {elt iter : Expr} {x : Str} {px : Pos} {ifs : List Expr} {scope : Scope} {cl : List (Str × Addr)} {pos p₂ : Pos} {env : Env} {use : Option (Value → Sem Unit)} {Fm : Addr → (Str → Option Value) → Str → Option Value} {Qd : Addr → Shared → Prop} {Q : Value → Shared → Prop}
    (hclos : closureFor scope env = pure cl) (hcell : ∀ y ∈ scope.names, y.2 ≠ .cell) (hkind : scope.kind = .function)
    (hnames : ∀ y ∈ scope.names, y.2 = .local → scope.names.lookup y.1 = some .local) (hx : scope.names.lookup x = some .local)
    (hs : ∀ x, foldedSetIterable iter env x = pure x)
    (last : ∀ (s₂ : Shared) m (D C : Addr) m' ys nx k h' tk, h₀.get? C = none → C ≠ L → (∀ p ∈ (D, listOf (List.toArray ys) k) :: nx, p.1 ≠ C) → Fr h₀ L h' m → News h₀ L h' ((D, listOf ys.toArray k) :: nx) → h'.Ns C m' →
      (∀ h₂ tk₂, Fr h₀ L h₂ (Fm D m) → News h₀ L h₂ ((D, listOf ys.toArray k) :: nx) → Qd D { s₂ with heap := h₂, toks := tk₂ }) →
      compPost (model prog w) A E use Q (.ref D) C (.ok .next) { s₂ with heap := h', toks := tk })
    (h : wpAny (model prog w) A (eval iter env) (fun xv s₁ => wpAny (model prog w) A (pyIter xv) (fun it s₂ => CompAt prog w A h₀ L env scope cl x ifs elt Fm Qd it s₂) E s₁) E s) :
    wpAny (model prog w) A (comprehension (.ListComp elt [⟨.Name x px, iter, ifs, 0⟩] scope pos) scope env p₂ (newList []) false (eval iter env) use) Q E s := by
  have block : ∀ it s₂, CompAt prog w A h₀ L env scope cl x ifs elt Fm Qd it s₂ → wpAny (model prog w) A (newList []) (fun acc s₃ => wpAny (model prog w) A (newFunctionEnv scope env.globals cl [] env.qual none .none (some env)) (fun cenv s₄ =>
      codeAny (model prog w) A (.compStart (.ListComp elt [⟨.Name x px, iter, ifs, 0⟩] scope pos) 0 it acc { cenv with scope := relabel scope env }) (compPost (model prog w) A E use Q acc cenv.locals) s₄) E s₃) E s₂ := by
    rintro _ s₂ ⟨I, fp, n, P, St, m, nx₀, J, rfl, W, hI, hfp, hst, h0I, LI, F, N, off, hj, hn, turn, done⟩
    refine comp_block_G (RR := compPost (model prog w) A E use Q) J W hI hfp hcell hkind hx hst h0I LI F N off hj hn turn ?_
    intro h' tk C D m' ys nx k hJ ho h0C LC DC F' N' hns
    refine last s₂ m D C m' ys nx k h' tk h0C LC ?_ F' N' hns fun h₂ tk₂ => done h₂ tk₂ D ys nx k hJ fun p hp e => ho p hp (e ▸ .head _)
    intro p hp e
    rcases List.mem_cons.mp hp with rfl | hp
    · exact DC e
    · exact ho p hp (e ▸ .tail _ (.head _))
  have first : wpAny (model prog w) A (eval iter env) (fun xv s₁ => wpAny (model prog w) A (pyIter xv) (fun it s₂ => wpAny (model prog w) A (newList []) (fun acc s₃ => wpAny (model prog w) A (newFunctionEnv scope env.globals cl [] env.qual none .none (some env)) (fun cenv s₄ =>
      codeAny (model prog w) A (.compStart (.ListComp elt [⟨.Name x px, iter, ifs, 0⟩] scope pos) 0 it acc { cenv with scope := relabel scope env }) (compPost (model prog w) A E use Q acc cenv.locals) s₄) E s₃) E s₂) E s₁) E s :=
    wpAny_mono h (fun _ _ g => wpAny_mono g block fun _ _ => id) fun _ _ => id
  exact wpAny_comprehension_free (g := ⟨.Name x px, iter, ifs, 0⟩) (gs := []) rfl hs hclos hkind hnames first
theorem comp_G {elt iter : Expr} {x : Str} {px : Pos} {ifs : List Expr} {scope : Scope} {cl : List (Str × Addr)} {pos : Pos} {env : Env} {Q : Value → Shared → Prop} (uF : Fr h₀ L s.heap m)
    (hclos : closureFor scope env = pure cl) (hcell : ∀ y ∈ scope.names, y.2 ≠ .cell) (hkind : scope.kind = .function)
    (hnames : ∀ y ∈ scope.names, y.2 = .local → scope.names.lookup y.1 = some .local) (hx : scope.names.lookup x = some .local)
    (hs : ∀ x, foldedSetIterable iter env x = pure x)
    (h : wpAny (model prog w) A (eval iter env) (fun xv s₁ => wpAny (model prog w) A (pyIter xv) (fun it s₂ => CompAt prog w A h₀ L env scope cl x ifs elt (fun _ m => m) (fun D => Q (.ref D)) it s₂) E s₁) E s) :
    wpAny (model prog w) A (eval (.ListComp elt [⟨.Name x px, iter, ifs, 0⟩] scope pos) env) Q E s := by
  rw [eval_ListComp]
  refine comp_any hclos hcell hkind hnames hx hs ?_ h
  intro s₂ m D C m' ys nx k h' tk h0C LC off F' N' hns done
  exact ⟨m', hns, fun h₃ but => have both := drop_ns F' N' but h0C LC off; done h₃ tk both.1 both.2⟩
theorem assign_comp_G {elt iter : Expr} {x y : Str} {px py : Pos} {ifs : List Expr} {scope : Scope} {cl : List (Str × Addr)} {pos spos : Pos} {env : Env} {Q : Flow → Shared → Prop} (uF : Fr h₀ env.locals s.heap m)
    (hsw : swapsWith (.ListComp elt [⟨.Name x px, iter, ifs, 0⟩] scope pos) (some (.Name y py)) spos.line env = pure true)
    (hclos : closureFor scope env = pure cl) (hcell : ∀ z ∈ scope.names, z.2 ≠ .cell) (hkind : scope.kind = .function)
    (hnames : ∀ z ∈ scope.names, z.2 = .local → scope.names.lookup z.1 = some .local) (hx : scope.names.lookup x = some .local)
    (hy : env.kindOf y = some .local) (hp : (env.scope.kind == .class || (env.scope.kind == .module && env.locals != env.globals)) = false)
    (hs : ∀ x, foldedSetIterable iter env x = pure x)
    (h : wpAny (model prog w) A (eval iter env) (fun xv s₁ => wpAny (model prog w) A (pyIter xv) (fun it s₂ => CompAt prog w A h₀ env.locals env scope cl x ifs elt (fun D m z => if z = y then some (.ref D) else m z) (fun _ => Q .next) it s₂) E s₁) E s) :
    wpAny (model prog w) A (exec (.Assign [.Name y py] (.ListComp elt [⟨.Name x px, iter, ifs, 0⟩] scope pos) spos) env) Q E s := by
  have inner : ∀ at₀, wpAny (model prog w) A (comprehension (.ListComp elt [⟨.Name x px, iter, ifs, 0⟩] scope pos) scope env at₀ (newList []) false (eval iter env) (some (assign (.Name y py) env))) (fun _ s' => Q .next s') E s := by
    refine fun _ => comp_any hclos hcell hkind hnames hx hs ?_ h
    intro s₂ m D C m' ys nx k h' tk h0C LC off F' N' hns done
    refine wpAny_assign_Name (wpAny_storeName_local hy F'.ns (fun h₂ hn₂ but₂ => ⟨m', hns.sameBut but₂ LC, fun h₃ but₃ => ?_⟩) hp)
    have both := drop_ns (F'.set hn₂ but₂) (N'.set but₂) but₃ h0C LC off
    exact done h₃ _ both.1 both.2
  rw [exec_Assign_Name_used _ _ _ _ hsw]
  exact wpAny_bind (wpAny_standAt (wpAny_bind (wpAny_bind (wpAny_mono (inner _) (fun _ _ q => wpAny_pure (wpAny_pure q)) fun _ _ => id))))
theorem comp_list_at {env : Env} {scope : Scope} {cl : List (Str × Addr)} {x : Str} {ifs : List Expr} {elt : Expr} {Fm : Addr → (Str → Option Value) → Str → Option Value} {Q : Addr → Shared → Prop} {l : Addr} {vs : List Value} {nl : Nat} {news : List (Addr × Obj)}
    (J : Nat → List Value → List (Addr × Obj) → Prop)
    (hh : A.handled = none) (F : Fr h₀ L s.heap m) (N : News h₀ L s.heap news) (hj : J 0 [] news) (hJl : ∀ i ys nx, J i ys nx → (l, listOf vs.toArray nl) ∈ nx) (hn : vs.length ≤ 1000)
    (turn : ∀ i v ys nx s₁ m₂ C D I dO cO iO E', (∃ h tk, s₁ = { s with heap := h, toks := tk }) → vs[i]? = some v → J i ys nx → ys.length ≤ i → Off nx [D, C, I] → D ≠ C → D ≠ I → I ≠ C → Fr h₀ L s₁.heap m → News h₀ L s₁.heap (nx ++ [(D, dO), (C, cO), (I, iO)]) → s₁.heap.Ns C m₂ → m₂ x = some v →
      wpAny (model prog w) A (testsOf ifs (compEnvC scope cl C env)) (fun ok s₃ => if ok = true then
          wpAny (model prog w) A (eval elt (compEnvC scope cl C env)) (fun y s₄ => CEnd h₀ L m (J (i + 1) (ys ++ [y])) [(D, dO), (C, cO), (I, iO)] [D, C, I] s₁ s₄) E' s₃
        else CEnd h₀ L m (J (i + 1) ys) [(D, dO), (C, cO), (I, iO)] [D, C, I] s₁ s₃) E' s₁)
    (done : ∀ h' tk D ys nx k, J vs.length ys nx → (∀ p ∈ nx, p.1 ≠ D) → Fr h₀ L h' (Fm D m) → News h₀ L h' ((D, listOf ys.toArray k) :: nx) → Q D { s with heap := h', toks := tk }) :
    wpAny (model prog w) A (pyIter (.ref l)) (fun it s₂ => CompAt prog w A h₀ L env scope cl x ifs elt Fm Q it s₂) E s := by
  have hl := hJl _ _ _ hj
  have hls : s.heap.IsList l vs.toArray := ⟨_, (N _ hl).1, rfl, nl, rfl⟩
  have hlt : l < s.heap.objs.size := Heap.lt_size (N _ hl).1
  have hne : l ≠ s.heap.objs.size := Nat.ne_of_lt hlt
  refine wpAny_pyIter_list hls ?_
  have W := Walks.list (prog := prog) (w := w) hh s.heap.objs.size l hne vs.toArray
  have hlen : vs.toArray.size = vs.length := by simp
  rw [hlen] at W
  refine ⟨s.heap.objs.size, _, vs.length, _, _, m, news, J, rfl, W, ?_, ?_, ⟨⟨_, Heap.get?_push_size _ rfl, rfl, rfl⟩, hls.at fun o e => Heap.get?_push_of_some _ e⟩, next_is_new F, Nat.ne_of_gt F.ns.lt, F.push _, (fun p hp => ⟨Heap.get?_push_of_some _ (N p hp).1, (N p hp).2⟩), (fun p hp e => Nat.ne_of_lt (Heap.lt_size (N p hp).1) e), hj, hn, ?_, ?_⟩
  · intro i h hst
    obtain ⟨⟨oi, hoi, _⟩, _⟩ := hst
    exact ⟨oi, hoi⟩
  · intro b hb
    rcases List.mem_cons.mp hb with h | h
    · exact .inl h
    · exact .inr ⟨_, fun i ys nx hJ => (List.mem_singleton.mp h) ▸ hJl i ys nx hJ⟩
  · intro i v ys nx h tk m₂ C D dO cO iO E' hi hP hJ hl hoff h1 h2 h3 F N hns hm
    exact turn i v ys nx _ m₂ C D _ dO cO iO E' ⟨h, tk, rfl⟩ (by simpa using hP) hJ hl hoff h1 h2 h3 F N hns hm
  · exact done
theorem comp_range_at {env : Env} {scope : Scope} {cl : List (Str × Addr)} {x : Str} {ifs : List Expr} {elt : Expr} {Fm : Addr → (Str → Option Value) → Str → Option Value} {Q : Addr → Shared → Prop} {r : Addr} {b₀ : Int} {t₀ u₀ v₀ : Tok} {n : Nat} {news : List (Addr × Obj)}
    (J : Nat → List Value → List (Addr × Obj) → Prop)
    (hh : A.handled = none) (hr : IsRange s.heap r 0 b₀ 1 t₀ u₀ v₀) (hb : b₀ = (n : Int)) (hn : n ≤ 100) (F : Fr h₀ L s.heap m) (N : News h₀ L s.heap news) (hj : J 0 [] news)
    (turn : ∀ i t ys nx s₁ m₂ C D I dO cO iO E', (∃ h tk, s₁ = { s with heap := h, toks := tk }) → i < n → J i ys nx → ys.length ≤ i → Off nx [D, C, I] → D ≠ C → D ≠ I → I ≠ C → Fr h₀ L s₁.heap m → News h₀ L s₁.heap (nx ++ [(D, dO), (C, cO), (I, iO)]) → s₁.heap.Ns C m₂ → m₂ x = some (.int (i : Int) t) →
      wpAny (model prog w) A (testsOf ifs (compEnvC scope cl C env)) (fun ok s₃ => if ok = true then
          wpAny (model prog w) A (eval elt (compEnvC scope cl C env)) (fun y s₄ => CEnd h₀ L m (J (i + 1) (ys ++ [y])) [(D, dO), (C, cO), (I, iO)] [D, C, I] s₁ s₄) E' s₃
        else CEnd h₀ L m (J (i + 1) ys) [(D, dO), (C, cO), (I, iO)] [D, C, I] s₁ s₃) E' s₁)
    (done : ∀ h' tk D ys nx k, J n ys nx → (∀ p ∈ nx, p.1 ≠ D) → Fr h₀ L h' (Fm D m) → News h₀ L h' ((D, listOf ys.toArray k) :: nx) → Q D { s with heap := h', toks := tk }) :
    wpAny (model prog w) A (pyIter (.ref r)) (fun it s₂ => CompAt prog w A h₀ L env scope cl x ifs elt Fm Q it s₂) E s := by
  subst hb
  have hsz : Builtin.Range.rangeSize 0 (n : Int) 1 = (n : Int) := by
    have := rangeSize_nat 0 n
    simpa using this
  refine wpAny_pyIter_range hr (small_one (by omega) (by omega) (by omega) (by omega)) ?_
  have W : Walks prog w A s.heap.objs.size [s.heap.objs.size] [s.heap.objs.size] n (fun i v => i < n ∧ ∃ t, v = .int (0 + i * 1) t)
      (fun i h => IsRangeIter h s.heap.objs.size (0 + (i : Nat) * 1) ((n : Int) - (i : Nat)) 1) := (Walks.range hh _ 0 1 n).bound
  refine ⟨s.heap.objs.size, _, n, _, _, m, news, J, rfl, W, ?_, ?_, (by show IsRangeIter _ _ _ _ _; rw [hsz]; simpa using Heap.get?_push_size _ rfl), next_is_new F, Nat.ne_of_gt F.ns.lt, F.push _, (fun p hp => ⟨Heap.get?_push_of_some _ (N p hp).1, (N p hp).2⟩), (fun p hp e => Nat.ne_of_lt (Heap.lt_size (N p hp).1) e), hj, by omega, ?_, ?_⟩
  · intro i h hst
    exact ⟨_, hst⟩
  · intro b hb
    exact .inl (List.mem_singleton.mp hb)
  · rintro i v ys nx h tk m₂ C D dO cO iO E' hi ⟨_, t, rfl⟩ hJ hl hoff h1 h2 h3 F N hns hm
    simp only [Int.mul_one, Int.zero_add] at hm
    exact turn i t ys nx _ m₂ C D _ dO cO iO E' ⟨h, tk, rfl⟩ hi hJ hl hoff h1 h2 h3 F N hns hm
  · exact done
end
end
theorem pick_use {w : World} {dp un : Nat} {gd : Option (List Code)} {env : Env} {outer : List Env} {A₀ : Around} {base h₀ : Heap} {L : Addr} {m : Str → Option Value} {pre nx : List (Addr × Obj)} {s : Shared}
  {loose : List Str} {mean : ExcName → Option Value} {mg mb : Str → Option Value}
  {p q l : Addr} {po qo : Obj} {vs : List Value} {n : Nat} {Q E : Value → Shared → Prop}
  (B : Below A₀ base outer h₀) (F : Fr h₀ L s.heap m) (X : (hd.heap_39 w.params).In h₀)
  (N : News h₀ L s.heap (pre ++ (p, po) :: (q, qo) :: nx)) (T : Top hd.view_39 loose mean mg mb h₀) (hf : env.frame = some L) (hk : env.scope.kind = .function) (P : PenO q po qo)
  (hpq : @Ne Nat p q) (h1 : ∀ x ∈ pre, x.1 ≠ p) (h2 : ∀ x ∈ pre, x.1 ≠ q) (h3 : ∀ x ∈ nx, x.1 ≠ p) (h4 : ∀ x ∈ nx, x.1 ≠ q)
  (hd : dp + 50 < recursionLimit) (hu : un + 500 < cLine) (hl : (l, listOf vs.toArray n) ∈ pre) (hv : 0 < vs.length) (hv2 : vs.length ≤ 1000)
  (ret : ∀ v po' qo' h' tk', v ∈ vs → Fr h₀ L h' m → News h₀ L h' (pre ++ (p, po') :: (q, qo') :: nx) → PenO q po' qo' →
    Q v { s with heap := h', toks := tk' }) :
  wpAny (model (RowW.prog (OpenRow.toRowW (OpenLaw.row Challenge.rw_pb0158_01))) w) { handled := none, depth := dp, frames := some (env :: outer), guards := gd, units := un } (call (.ref 138) [.ref p, .ref l]) Q E s := by
  refine pick_spec w dp un gd env outer A₀ base h₀ L m (pre ++ nx) s loose mean mg mb p q l po qo vs n Q E B F X (fun y hy => N y ?_) T hf hk P hpq ?_ ?_ hd hu (List.mem_append_left _ hl) hv hv2 fun r po' qo' h' tk' a F' N' P' => ret r po' qo' h' tk' a F' (fun y hy => N' y ?_) P'
  · simp only [List.mem_cons, List.mem_append] at hy ⊢; rcases hy with h | h | h | h <;> simp [h]
  · intro x hx; rcases List.mem_append.mp hx with h | h; exact h1 x h; exact h3 x h
  · intro x hx; rcases List.mem_append.mp hx with h | h; exact h2 x h; exact h4 x h
  · simp only [List.mem_cons, List.mem_append] at hy ⊢; rcases hy with h | h | h | h <;> simp [h]
def known (x : Str) : Bool := decide (x = Str.ofString "") || decide (x = Str.ofString "zwj") || decide (x = Str.ofString "mark") || decide (x = Str.ofString "cursive")
theorem known_ok {x : Str} (h : known x = true) : PyData.strOk x = true := by
  simp only [known, Bool.or_eq_true, decide_eq_true_eq] at h
  rcases h with ((rfl | rfl) | rfl) | rfl <;> decide +kernel
theorem ok_empty : PyData.strOk (Str.ofString "") = true := by decide +kernel
def isStrs (vs : List Value) : Bool := vs.all fun v => match v with | .str x _ => known x | _ => false
def isInts (vs : List Value) : Bool := vs.all fun v => match v with | .int _ _ => true | _ => false
theorem pick_str_all {vs : List Value} (h : isStrs vs = true) : ∀ v ∈ vs, ∃ x t, v = .str x t ∧ PyData.strOk x = true := by
  intro v hv
  have := List.all_eq_true.mp h v hv
  cases v <;> simp at this
  exact ⟨_, _, rfl, known_ok this⟩
theorem pick_int_all {vs : List Value} (h : isInts vs = true) : ∀ v ∈ vs, ∃ x t, v = .int x t := by
  intro v hv
  have := List.all_eq_true.mp h v hv
  cases v <;> simp at this
  exact ⟨_, _, rfl⟩
theorem pick_str {w : World} {dp un : Nat} {gd : Option (List Code)} {env : Env} {outer : List Env} {A₀ : Around} {base h₀ : Heap} {L : Addr} {m : Str → Option Value} {pre nx : List (Addr × Obj)} {s : Shared}
  {loose : List Str} {mean : ExcName → Option Value} {mg mb : Str → Option Value}
  {p q l : Addr} {po qo : Obj} {vs : List Value} {n : Nat} {Q E : Value → Shared → Prop}
  (B : Below A₀ base outer h₀) (F : Fr h₀ L s.heap m) (X : (hd.heap_39 w.params).In h₀)
  (N : News h₀ L s.heap (pre ++ (p, po) :: (q, qo) :: nx)) (T : Top hd.view_39 loose mean mg mb h₀) (hf : env.frame = some L) (hk : env.scope.kind = .function) (P : PenO q po qo)
  (hpq : @Ne Nat p q) (h1 : ∀ x ∈ pre, x.1 ≠ p) (h2 : ∀ x ∈ pre, x.1 ≠ q) (h3 : ∀ x ∈ nx, x.1 ≠ p) (h4 : ∀ x ∈ nx, x.1 ≠ q)
  (hd : dp + 50 < recursionLimit) (hu : un + 500 < cLine) (hl : (l, listOf vs.toArray n) ∈ pre) (hv : 0 < vs.length) (hv2 : vs.length ≤ 1000) (hvs : ∀ v ∈ vs, ∃ x t, v = .str x t ∧ PyData.strOk x = true)
  (ret : ∀ x t po' qo' h' tk', PyData.strOk x = true → Fr h₀ L h' m → News h₀ L h' (pre ++ (p, po') :: (q, qo') :: nx) → PenO q po' qo' →
    Q (.str x t) { s with heap := h', toks := tk' }) :
  wpAny (model (RowW.prog (OpenRow.toRowW (OpenLaw.row Challenge.rw_pb0158_01))) w) { handled := none, depth := dp, frames := some (env :: outer), guards := gd, units := un } (call (.ref 138) [.ref p, .ref l]) Q E s :=
  pick_use B F X N T hf hk P hpq h1 h2 h3 h4 hd hu hl hv hv2 fun v po' qo' h' tk' hm F' N' P' => by
    obtain ⟨x, t, rfl, hok⟩ := hvs v hm
    exact ret x t po' qo' h' tk' hok F' N' P'
theorem pick_int {w : World} {dp un : Nat} {gd : Option (List Code)} {env : Env} {outer : List Env} {A₀ : Around} {base h₀ : Heap} {L : Addr} {m : Str → Option Value} {pre nx : List (Addr × Obj)} {s : Shared}
  {loose : List Str} {mean : ExcName → Option Value} {mg mb : Str → Option Value}
  {p q l : Addr} {po qo : Obj} {vs : List Value} {n : Nat} {Q E : Value → Shared → Prop}
  (B : Below A₀ base outer h₀) (F : Fr h₀ L s.heap m) (X : (hd.heap_39 w.params).In h₀)
  (N : News h₀ L s.heap (pre ++ (p, po) :: (q, qo) :: nx)) (T : Top hd.view_39 loose mean mg mb h₀) (hf : env.frame = some L) (hk : env.scope.kind = .function) (P : PenO q po qo)
  (hpq : @Ne Nat p q) (h1 : ∀ x ∈ pre, x.1 ≠ p) (h2 : ∀ x ∈ pre, x.1 ≠ q) (h3 : ∀ x ∈ nx, x.1 ≠ p) (h4 : ∀ x ∈ nx, x.1 ≠ q)
  (hd : dp + 50 < recursionLimit) (hu : un + 500 < cLine) (hl : (l, listOf vs.toArray n) ∈ pre) (hv : 0 < vs.length) (hv2 : vs.length ≤ 1000) (hvs : ∀ v ∈ vs, ∃ x t, v = .int x t)
  (ret : ∀ x t po' qo' h' tk', Fr h₀ L h' m → News h₀ L h' (pre ++ (p, po') :: (q, qo') :: nx) → PenO q po' qo' →
    Q (.int x t) { s with heap := h', toks := tk' }) :
  wpAny (model (RowW.prog (OpenRow.toRowW (OpenLaw.row Challenge.rw_pb0158_01))) w) { handled := none, depth := dp, frames := some (env :: outer), guards := gd, units := un } (call (.ref 138) [.ref p, .ref l]) Q E s :=
  pick_use B F X N T hf hk P hpq h1 h2 h3 h4 hd hu hl hv hv2 fun v po' qo' h' tk' hm F' N' P' => by
    obtain ⟨x, t, rfl⟩ := hvs v hm
    exact ret x t po' qo' h' tk' F' N' P'
structure Inf where
  code : Int
  glyph : Int
  cluster : Int
  mask : Int
  uns : Bool
  kind : Str
  xa : Int
  xo : Int
  yo : Int
  parent : Int
  bond : Str
def InfObj (P : Params) (i : Inf) (o : Obj) : Prop := (∃ (k0 k1 k2 k3 k4 k5 k6 k7 k8 k9 k10 k11 k12 k13 k14 k15 t0 t1 t2 t3 t5 t6 t7 t8 t9 t10 t11 t12 t13 t14 t15 : Tok), o = dictOf [⟨PyData.keyHash P (Str.ofString "code"), Value.str (Str.ofString "code") k0, Value.int i.code t0⟩,
  ⟨PyData.keyHash P (Str.ofString "glyph"), Value.str (Str.ofString "glyph") k1, Value.int i.glyph t1⟩,
  ⟨PyData.keyHash P (Str.ofString "cluster"), Value.str (Str.ofString "cluster") k2, Value.int i.cluster t2⟩,
  ⟨PyData.keyHash P (Str.ofString "mask"), Value.str (Str.ofString "mask") k3, Value.int i.mask t3⟩,
  ⟨PyData.keyHash P (Str.ofString "is_unsafe"), Value.str (Str.ofString "is_unsafe") k4, Value.bool i.uns⟩,
  ⟨PyData.keyHash P (Str.ofString "lig_id"), Value.str (Str.ofString "lig_id") k5, Value.int 0 t5⟩,
  ⟨PyData.keyHash P (Str.ofString "lig_part"), Value.str (Str.ofString "lig_part") k6, Value.int 0 t6⟩,
  ⟨PyData.keyHash P (Str.ofString "lig_count"), Value.str (Str.ofString "lig_count") k7, Value.int 0 t7⟩,
  ⟨PyData.keyHash P (Str.ofString "split_id"), Value.str (Str.ofString "split_id") k8, Value.int 0 t8⟩,
  ⟨PyData.keyHash P (Str.ofString "kind"), Value.str (Str.ofString "kind") k9, Value.str i.kind t9⟩,
  ⟨PyData.keyHash P (Str.ofString "x_advance"), Value.str (Str.ofString "x_advance") k10, Value.int i.xa t10⟩,
  ⟨PyData.keyHash P (Str.ofString "y_advance"), Value.str (Str.ofString "y_advance") k11, Value.int 0 t11⟩,
  ⟨PyData.keyHash P (Str.ofString "x_offset"), Value.str (Str.ofString "x_offset") k12, Value.int i.xo t12⟩,
  ⟨PyData.keyHash P (Str.ofString "y_offset"), Value.str (Str.ofString "y_offset") k13, Value.int i.yo t13⟩,
  ⟨PyData.keyHash P (Str.ofString "parent"), Value.str (Str.ofString "parent") k14, Value.int i.parent t14⟩,
  ⟨PyData.keyHash P (Str.ofString "bond"), Value.str (Str.ofString "bond") k15, Value.str i.bond t15⟩] 16) ∧ PyData.strOk i.kind = true ∧ PyData.strOk i.bond = true
structure Cell where
  x : Addr
  d : Addr
  i : Inf
  o : Obj
def led : List Cell → List (Addr × Obj)
  | [] => []
  | c :: r => (c.x, instObj 52 c.d) :: (c.d, c.o) :: led r
theorem led_append : ∀ a b : List Cell, led (a ++ b) = led a ++ led b
  | [], _ => rfl
  | c :: r, b => by simp [led, led_append r b]
def refs (l : List Cell) : List Value := l.map fun c => .ref c.x
theorem canon4 {m : Str → Option Value} {a b c d : Str} {va vb vc vd : Option Value} (ha : m a = va) (hb : m b = vb) (hc : m c = vc) (hd : m d = vd) :
    ∃ u : Str → Option Value, m = fun y => if y = a then va else if y = b then vb else if y = c then vc else if y = d then vd else u y := by
  refine ⟨m, ?_⟩
  funext y
  by_cases h1 : y = a
  · simp [h1, ha]
  by_cases h2 : y = b
  · simp [h2, hb]; intro h; rw [← h] at ha; exact hb.symm.trans ha
  by_cases h3 : y = c
  · subst h3; simp [h1, h2, hc]
  by_cases h4 : y = d
  · subst h4; simp [h1, h2, h3, hd]
  simp [h1, h2, h3, h4]
def RowJ (P : Params) (p q r : Addr) (n : Nat) (t : Tok) (nx0 : List (Addr × Obj)) (k : Nat) (m : Str → Option Value) (nx : List (Addr × Obj)) : Prop :=
  m "row" = some (.ref r) ∧ m "pen" = some (.ref p) ∧ m "many" = some (.int n t) ∧ (∃ c tc, m "cluster" = some (.int c tc)) ∧
  ∃ po qo cells nr, PenO q po qo ∧ (∀ c ∈ cells, InfObj P c.i c.o) ∧ (∀ (k : Nat) c, cells[k]? = some c → Inf.code c.i = (97 + (k : Int) : Int)) ∧ cells.length = k ∧
    (nx.map (·.1)).Nodup ∧ nx = (p, po) :: (q, qo) :: (r, listOf (refs cells).toArray nr) :: (led cells ++ nx0)
theorem append_my {prog : Program} {w : World} {A : Around} {E : Value → Shared → Prop} {s : Shared} {h₀ : Heap} {L D : Addr} {m : Str → Option Value} {news news' : List (Addr × Obj)} {n : Nat} {vs : List Value} {x : Value} {Q : Value → Shared → Prop}
    (F : Fr h₀ L s.heap m) (N : News h₀ L s.heap news) (U : Upd D (listOf vs.toArray n) (listOf (vs ++ [x]).toArray (n + 1)) news news') (hz : vs.length ≤ 1000)
    (h : ∀ h', Fr h₀ L h' m → News h₀ L h' news' → Q .none { s with heap := h' }) : wpAny (model prog w) A (call (.builtin "list.append") [.ref D, x]) Q E s := by
  have e : (vs ++ [x]).toArray = vs.toArray.push x := by simp
  rw [e] at U
  exact append_K F N U h (by rw [PySem.sizeLine_eq]; simp only [List.size_toArray]; omega)
theorem ne_of_allLt {a : Addr} : ∀ {l : List (Addr × Obj)}, AllLt a l → ∀ x ∈ l, x.1 ≠ a
  | [], _, _, h => nomatch h
  | y :: r, h, x, hx => by
    rcases List.mem_cons.mp hx with rfl | hx
    · exact Nat.ne_of_lt h.1
    · exact ne_of_allLt h.2 x hx
theorem not_in {a : Addr} {l : List (Addr × Obj)} (h : ∀ x ∈ l, x.1 ≠ a) : a ∉ l.map (·.1) := fun hm => by
  obtain ⟨x, hx, e⟩ := List.mem_map.mp hm
  exact h x hx e
theorem nodup_tail {l : List (Addr × Obj)} {x : Addr × Obj} (h : ((x :: l).map (·.1)).Nodup) : (l.map (·.1)).Nodup := (List.nodup_cons.mp h).2
theorem nodup_off {l : List (Addr × Obj)} {x : Addr × Obj} (h : ((x :: l).map (·.1)).Nodup) : ∀ y ∈ l, y.1 ≠ x.1 := fun y hy e => (List.nodup_cons.mp h).1 (List.mem_map.mpr ⟨y, hy, e⟩)
theorem allLt_ne {a : Addr} {l : List (Addr × Obj)} (h : AllLt a l) : a ∉ l.map (·.1) := not_in (ne_of_allLt h)
theorem lt_allLt {a b : Addr} (h : @LT.lt Nat _ a b) : ∀ {l : List (Addr × Obj)}, AllLt a l → AllLt b l
  | [], _ => trivial
  | _ :: _, ⟨h1, h2⟩ => ⟨Nat.lt_trans h1 h, lt_allLt h h2⟩
theorem allLt_app {a : Addr} : ∀ {l l' : List (Addr × Obj)}, AllLt a (l ++ l') → AllLt a l ∧ AllLt a l'
  | [], _, h => ⟨trivial, h⟩
  | _ :: _, _, ⟨h1, h2⟩ => ⟨⟨h1, (allLt_app h2).1⟩, (allLt_app h2).2⟩
theorem row_end {h₀ h' : Heap} {L p q r it x d : Addr} {io : Obj} {P : Params} {n i nr nr' : Nat} {t : Tok} {nx T₁ news' : List (Addr × Obj)} {m' : Str → Option Value} {s₁ : Shared} {tk : Nat} {po₁ qo₁ po' qo' o : Obj} {cells : List Cell}
    (F : Fr h₀ L h' m') (N : News h₀ L h' news') (m1 : m' "row" = some (.ref r)) (m2 : m' "pen" = some (.ref p)) (m3 : m' "many" = some (.int n t)) (m4 : ∃ c tc, m' "cluster" = some (.int c tc)) (P' : PenO q po' qo')
    (hx : (x, instObj 52 d) ∈ news') (hd : (d, o) ∈ news') (hp : (p, po') ∈ news') (hq : (q, qo') ∈ news') (hr : (r, listOf (refs cells ++ [Value.ref x]).toArray nr') ∈ news') (hT' : ∀ y ∈ T₁, y ∈ news')
    (l1 : @LT.lt Nat _ p d ∧ @LT.lt Nat _ q d ∧ @LT.lt Nat _ r d ∧ AllLt d T₁) (l2 : @LT.lt Nat _ d x) (ho : ∃ inf, InfObj P inf o ∧ inf.code = 97 + (i : Int))
    (hc1 : ∀ c ∈ cells, InfObj P c.i c.o) (hc2 : ∀ (k : Nat) c, cells[k]? = some c → Inf.code c.i = (97 + (k : Int) : Int)) (hc3 : cells.length = i)
    (hn : (((p, po₁) :: (q, qo₁) :: (r, listOf (refs cells).toArray nr) :: (led cells ++ nx)).map (·.1)).Nodup)
    (hit : ∀ y ∈ (p, po₁) :: (q, qo₁) :: (r, listOf (refs cells).toArray nr) :: (led cells ++ nx), y.1 ≠ it) (hT : T₁ = led cells ++ nx ++ [(it, io)]) :
    GEnd h₀ L (RowJ P p q r n t nx (i + 1)) [(it, io)] [it] s₁ { s₁ with heap := h', toks := tk } := by
  obtain ⟨inf, ho, hcode⟩ := ho
  obtain ⟨a1, a2, a3, a4⟩ := l1
  have b4 := lt_allLt l2 a4
  rw [hT] at a4 b4
  obtain ⟨a4, a5⟩ := allLt_app a4
  obtain ⟨b4, b5⟩ := allLt_app b4
  obtain ⟨a4, a6⟩ := allLt_app a4
  obtain ⟨b4, b6⟩ := allLt_app b4
  have a5 : @LT.lt Nat _ it d := a5.1
  have b5 : @LT.lt Nat _ it x := b5.1
  have hmT : ∀ y ∈ led cells ++ nx, y ∈ news' := fun y hy => hT' y (hT ▸ List.mem_append_left _ hy)
  refine ⟨h', tk, m', news', (p, po') :: (q, qo') :: (r, listOf (refs (cells ++ [⟨x, d, inf, o⟩])).toArray nr') :: (led (cells ++ [⟨x, d, inf, o⟩]) ++ nx), rfl, F, N, ?_, ?_, ?_, m1, m2, m3, m4, po', qo', cells ++ [⟨x, d, inf, o⟩], nr', P', ?_, ?_, ?_, ?_, rfl⟩
  · intro y hy
    simp only [led_append, led, List.mem_cons, List.mem_append, List.not_mem_nil, or_false] at hy
    rcases hy with h | h | h | (h | h | h) | h
    · exact h ▸ hp
    · exact h ▸ hq
    · rw [h]; simpa [refs] using hr
    · exact hmT y (List.mem_append_left _ h)
    · exact h ▸ hx
    · exact h ▸ hd
    · exact hmT y (List.mem_append_right _ h)
  · intro y hy
    exact hT' y (hT ▸ List.mem_append_right _ hy)
  · intro y hy
    simp only [led_append, led, List.mem_cons, List.mem_append, List.not_mem_nil, or_false] at hy ⊢
    rcases hy with h | h | h | (h | h | h) | h
    · rw [h]; exact hit (p, po₁) (.head _)
    · rw [h]; exact hit (q, qo₁) (.tail _ (.head _))
    · rw [h]; exact hit (r, listOf (refs cells).toArray nr) (.tail _ (.tail _ (.head _)))
    · exact hit _ (.tail _ (.tail _ (.tail _ (List.mem_append_left _ h))))
    · rw [h]; exact Nat.ne_of_gt b5
    · rw [h]; exact Nat.ne_of_gt a5
    · exact hit _ (.tail _ (.tail _ (.tail _ (List.mem_append_right _ h))))
  · intro c hc
    rcases List.mem_append.mp hc with h | h
    · exact hc1 c h
    · rw [List.mem_singleton.mp h]; exact ho
  · intro k c hk
    rw [List.getElem?_append] at hk
    split at hk
    · exact hc2 k c hk
    · rename_i hlt
      have : k = i := by
        have := (List.getElem?_eq_some_iff.mp hk).1
        simp at this; omega
      subst this
      simp [hc3] at hk
      rw [← hk]; exact hcode
  · simp [hc3]
  · have da := allLt_ne a4
    have xa := allLt_ne b4
    have db := allLt_ne a6
    have xb := allLt_ne b6
    have hpd : @Ne Nat p d := Nat.ne_of_lt a1
    have hqd : @Ne Nat q d := Nat.ne_of_lt a2
    have hrd : @Ne Nat r d := Nat.ne_of_lt a3
    have hpx : @Ne Nat p x := Nat.ne_of_lt (Nat.lt_trans a1 l2)
    have hqx : @Ne Nat q x := Nat.ne_of_lt (Nat.lt_trans a2 l2)
    have hrx : @Ne Nat r x := Nat.ne_of_lt (Nat.lt_trans a3 l2)
    have hdx : @Ne Nat d x := Nat.ne_of_lt l2
    have per : List.Perm (((p, po') :: (q, qo') :: (r, listOf (refs (cells ++ [⟨x, d, inf, o⟩])).toArray nr') :: (led (cells ++ [⟨x, d, inf, o⟩]) ++ nx)).map (·.1)) (x :: d :: (((p, po₁) :: (q, qo₁) :: (r, listOf (refs cells).toArray nr) :: (led cells ++ nx)).map (·.1))) := by
      simp only [led_append, led, List.map_cons, List.map_append, List.map_nil]
      refine List.Perm.symm ?_
      rw [show x :: d :: p :: q :: r :: ((led cells).map (·.1) ++ nx.map (·.1)) = [x, d] ++ ([p, q, r] ++ (led cells).map (·.1)) ++ nx.map (·.1) by simp]
      rw [show p :: q :: r :: ((led cells).map (·.1) ++ [x, d] ++ nx.map (·.1)) = ([p, q, r] ++ (led cells).map (·.1)) ++ [x, d] ++ nx.map (·.1) by simp]
      exact (List.perm_append_comm).append_right _
    refine (per.nodup_iff).mpr ?_
    refine List.nodup_cons.mpr ⟨?_, List.nodup_cons.mpr ⟨?_, hn⟩⟩
    · simp only [List.map_cons, List.map_append, List.mem_cons, List.mem_append, not_or]
      exact ⟨hdx.symm, hpx.symm, hqx.symm, hrx.symm, xa, xb⟩
    · simp only [List.map_cons, List.map_append, List.mem_cons, List.mem_append, not_or]
      exact ⟨hpd.symm, hqd.symm, hrd.symm, da, db⟩
def RowSpec : Prop := ∀ (w : World) (dp un : Nat) (gd : Option (List Code)) (env : Env) (outer : List Env) (A₀ : Around) (base h₀ : Heap) (L : Addr) (m : Str → Option Value) (nx : List (Addr × Obj)) (s : Shared)
  (loose : List Str) (mean : ExcName → Option Value) (mg mb : Str → Option Value)
  (p q : Addr) (po qo : Obj) (Q E : Value → Shared → Prop),
  Below A₀ base outer h₀ → Fr h₀ L s.heap m → (hd.heap_39 w.params).In h₀ →
  News h₀ L s.heap ((p, po) :: (q, qo) :: nx) → Top hd.view_39 loose mean mg mb h₀ → env.frame = some L → env.scope.kind = .function → PenO q po qo →
  @Ne Nat p q → (∀ x ∈ nx, x.1 ≠ p) → (∀ x ∈ nx, x.1 ≠ q) → (nx.map (·.1)).Nodup →
  dp + 100 < recursionLimit → un + 1000 < cLine →
  (∀ (r : Addr) (n : Nat) (cells : List Cell) h' tk', (∀ c ∈ cells, InfObj w.params c.i c.o) → (∀ (k : Nat) c, cells[k]? = some c → Inf.code c.i = (97 + (k : Int) : Int)) → cells.length ≤ 9 →
     (((r, listOf (refs cells).toArray n) :: (led cells ++ nx)).map (·.1)).Nodup →
     Fr h₀ L h' m → News h₀ L h' ((r, listOf (refs cells).toArray n) :: (led cells ++ nx)) →
    Q (.ref r) { s with heap := h', toks := tk' }) →
  wpAny (model (RowW.prog (OpenRow.toRowW (OpenLaw.row Challenge.rw_pb0158_01))) w) { handled := none, depth := dp, frames := some (env :: outer), guards := gd, units := un } (call (.ref 145) [.ref p]) Q E s
local macro_rules | `(tactic| walk_at "exec For") => `(tactic| (k_here; (rename Fr _ _ _ _ => lF'); (with_unfolding_all refine' For_invVF lF' ?k1 ?k2 ?_; (case k1 => exact rfl); (case k2 => exact rfl); k_whole)))
local macro_rules | `(tactic| walk_at "call type:range") => `(tactic| (k_here; (rename Fr _ _ _ _ => F'); (rename News _ _ _ _ => N'); (with_unfolding_all refine range1_rows F' N' ?_; intro _ _ _ _ _ _ _ _ _)))
local macro_rules | `(tactic| walk_at "pyIter ref") => `(tactic| (k_here; (with_reducible show wpAny _ _ (pyIter (Value.ref _)) (fun it s₂ => LoopAtV _ _ _ _ _ _ _ _ _ it s₂) _ _); refine stop ?_))
local macro_rules | `(tactic| walk_at $s:str) => `(tactic| k_extra $s)
section
local macro_rules | `(tactic| k_enter) => `(tactic| (refine' code_def ?k1 ?k2 ?k3 ?k4 ?k5 ?kA ?kF ?kK ?k6 ?k7 ?k8 ?k9 ?kB ?_ ?c2 ?c3 ?c4 ?c5; (case kA => exact rfl); (case kF => exact rfl); (case kK => exact rfl); (case k1 => k_asm); (case k2 => k_asm); (case k3 => k_asm); (case k4 => k_asm); (case k5 => k_asm); (case k6 => k_is); (case k7 => k_is); (case k8 => ktr_room); (case k9 => first | exact BindsTo.of_eq rfl | exact binds_K (by k_in) rfl (by k_is) rfl rfl rfl); (case c5 => decide); (case kB => exact locs rfl); (case c2 => exact rfl); (case c3 => exact rfl); (case c4 => exact rfl); k_whole; intro g' L' h' FG' F' N' B' X' T'; (try dsimp only); (try k_fold)))
section
local macro_rules | `(tactic| walk_at "call builtin:list.append") => `(tactic| (k_here; (with_reducible show wpAny _ _ (call (Value.builtin _) [Value.ref _, _]) _ _ _); k_dflt (refine' append_my ?k1 ?k2 ?k3 ?z ?_; (case k1 => k_asm); (case k2 => k_asm); (case k3 => k_upd); (case z => assumption); k_whole); intro h' F' N'; (try k_sweep)))
theorem row_spec : RowSpec := by
  unfold RowSpec
  k_with_none
  k_with "call ref" => (k_here; (with_reducible show wpAny _ _ (call (Value.ref 131) _) _ _ _); k_dflt (first | (refine' draw_use (pre := []) ?zqB ?zqF ?zqX ?zqN ?zqT ?zqhf ?zqhk ?zqP ?zqhpq ?zqh1 ?zqh2 ?zqh3 ?zqh4 ?zqhd ?zqhu ?zqhm ?zqhm2 ?_; (case zqB => k_asm); (case zqF => k_asm); (case zqX => k_asm); (case zqN => k_asm); (case zqT => k_asm); (case zqhf => exact rfl); (case zqhk => exact rfl); (case zqP => assumption); (case zqhpq => first | assumption | k_ne); (case zqh1 => k_all); (case zqh2 => k_all); (case zqh3 => k_all); (case zqh4 => k_all); (case zqhd => ktr_room); (case zqhu => ktr_units); (case zqhm => omega); (case zqhm2 => omega)) | (refine' draw_use (pre := [_]) ?zqB ?zqF ?zqX ?zqN ?zqT ?zqhf ?zqhk ?zqP ?zqhpq ?zqh1 ?zqh2 ?zqh3 ?zqh4 ?zqhd ?zqhu ?zqhm ?zqhm2 ?_; (case zqB => k_asm); (case zqF => k_asm); (case zqX => k_asm); (case zqN => k_asm); (case zqT => k_asm); (case zqhf => exact rfl); (case zqhk => exact rfl); (case zqP => assumption); (case zqhpq => first | assumption | k_ne); (case zqh1 => k_all); (case zqh2 => k_all); (case zqh3 => k_all); (case zqh4 => k_all); (case zqhd => ktr_room); (case zqhu => ktr_units); (case zqhm => omega); (case zqhm2 => omega)) | (refine' draw_use (pre := [_, _]) ?zqB ?zqF ?zqX ?zqN ?zqT ?zqhf ?zqhk ?zqP ?zqhpq ?zqh1 ?zqh2 ?zqh3 ?zqh4 ?zqhd ?zqhu ?zqhm ?zqhm2 ?_; (case zqB => k_asm); (case zqF => k_asm); (case zqX => k_asm); (case zqN => k_asm); (case zqT => k_asm); (case zqhf => exact rfl); (case zqhk => exact rfl); (case zqP => assumption); (case zqhpq => first | assumption | k_ne); (case zqh1 => k_all); (case zqh2 => k_all); (case zqh3 => k_all); (case zqh4 => k_all); (case zqhd => ktr_room); (case zqhu => ktr_units); (case zqhm => omega); (case zqhm2 => omega)) | (refine' draw_use (pre := [_, _, _]) ?zqB ?zqF ?zqX ?zqN ?zqT ?zqhf ?zqhk ?zqP ?zqhpq ?zqh1 ?zqh2 ?zqh3 ?zqh4 ?zqhd ?zqhu ?zqhm ?zqhm2 ?_; (case zqB => k_asm); (case zqF => k_asm); (case zqX => k_asm); (case zqN => k_asm); (case zqT => k_asm); (case zqhf => exact rfl); (case zqhk => exact rfl); (case zqP => assumption); (case zqhpq => first | assumption | k_ne); (case zqh1 => k_all); (case zqh2 => k_all); (case zqh3 => k_all); (case zqh4 => k_all); (case zqhd => ktr_room); (case zqhu => ktr_units); (case zqhm => omega); (case zqhm2 => omega)) | (refine' draw_use (pre := [_, _, _, _]) ?zqB ?zqF ?zqX ?zqN ?zqT ?zqhf ?zqhk ?zqP ?zqhpq ?zqh1 ?zqh2 ?zqh3 ?zqh4 ?zqhd ?zqhu ?zqhm ?zqhm2 ?_; (case zqB => k_asm); (case zqF => k_asm); (case zqX => k_asm); (case zqN => k_asm); (case zqT => k_asm); (case zqhf => exact rfl); (case zqhk => exact rfl); (case zqP => assumption); (case zqhpq => first | assumption | k_ne); (case zqh1 => k_all); (case zqh2 => k_all); (case zqh3 => k_all); (case zqh4 => k_all); (case zqhd => ktr_room); (case zqhu => ktr_units); (case zqhm => omega); (case zqhm2 => omega)) | (refine' draw_use (pre := [_, _, _, _, _]) ?zqB ?zqF ?zqX ?zqN ?zqT ?zqhf ?zqhk ?zqP ?zqhpq ?zqh1 ?zqh2 ?zqh3 ?zqh4 ?zqhd ?zqhu ?zqhm ?zqhm2 ?_; (case zqB => k_asm); (case zqF => k_asm); (case zqX => k_asm); (case zqN => k_asm); (case zqT => k_asm); (case zqhf => exact rfl); (case zqhk => exact rfl); (case zqP => assumption); (case zqhpq => first | assumption | k_ne); (case zqh1 => k_all); (case zqh2 => k_all); (case zqh3 => k_all); (case zqh4 => k_all); (case zqhd => ktr_room); (case zqhu => ktr_units); (case zqhm => omega); (case zqhm2 => omega)) | (refine' draw_use (pre := [_, _, _, _, _, _]) ?zqB ?zqF ?zqX ?zqN ?zqT ?zqhf ?zqhk ?zqP ?zqhpq ?zqh1 ?zqh2 ?zqh3 ?zqh4 ?zqhd ?zqhu ?zqhm ?zqhm2 ?_; (case zqB => k_asm); (case zqF => k_asm); (case zqX => k_asm); (case zqN => k_asm); (case zqT => k_asm); (case zqhf => exact rfl); (case zqhk => exact rfl); (case zqP => assumption); (case zqhpq => first | assumption | k_ne); (case zqh1 => k_all); (case zqh2 => k_all); (case zqh3 => k_all); (case zqh4 => k_all); (case zqhd => ktr_room); (case zqhu => ktr_units); (case zqhm => omega); (case zqhm2 => omega)) | (refine' draw_use (pre := [_, _, _, _, _, _, _]) ?zqB ?zqF ?zqX ?zqN ?zqT ?zqhf ?zqhk ?zqP ?zqhpq ?zqh1 ?zqh2 ?zqh3 ?zqh4 ?zqhd ?zqhu ?zqhm ?zqhm2 ?_; (case zqB => k_asm); (case zqF => k_asm); (case zqX => k_asm); (case zqN => k_asm); (case zqT => k_asm); (case zqhf => exact rfl); (case zqhk => exact rfl); (case zqP => assumption); (case zqhpq => first | assumption | k_ne); (case zqh1 => k_all); (case zqh2 => k_all); (case zqh3 => k_all); (case zqh4 => k_all); (case zqhd => ktr_room); (case zqhu => ktr_units); (case zqhm => omega); (case zqhm2 => omega)) | (refine' draw_use (pre := [_, _, _, _, _, _, _, _]) ?zqB ?zqF ?zqX ?zqN ?zqT ?zqhf ?zqhk ?zqP ?zqhpq ?zqh1 ?zqh2 ?zqh3 ?zqh4 ?zqhd ?zqhu ?zqhm ?zqhm2 ?_; (case zqB => k_asm); (case zqF => k_asm); (case zqX => k_asm); (case zqN => k_asm); (case zqT => k_asm); (case zqhf => exact rfl); (case zqhk => exact rfl); (case zqP => assumption); (case zqhpq => first | assumption | k_ne); (case zqh1 => k_all); (case zqh2 => k_all); (case zqh3 => k_all); (case zqh4 => k_all); (case zqhd => ktr_room); (case zqhu => ktr_units); (case zqhm => omega); (case zqhm2 => omega))); intro r' t' po' qo' h' tk' hr1' hr2' F' N' P'; (try dsimp only [List.nil_append, List.cons_append] at N'); (try k_sweep))
  k_with "call ref" => (k_here; (with_reducible show wpAny _ _ (call (Value.ref 138) _) _ _ _); k_dflt (first | (refine' pick_str (pre := [_]) ?zqB ?zqF ?zqX ?zqN ?zqT ?zqhf ?zqhk ?zqP ?zqhpq ?zqh1 ?zqh2 ?zqh3 ?zqh4 ?zqhd ?zqhu ?zql ?zqv1 ?zqv2 ?zqvs ?_; (case zqB => k_asm); (case zqF => k_asm); (case zqX => k_asm); (case zqN => k_asm); (case zqT => k_asm); (case zqhf => exact rfl); (case zqhk => exact rfl); (case zqP => assumption); (case zqhpq => first | assumption | k_ne); (case zqh1 => k_all); (case zqh2 => k_all); (case zqh3 => k_all); (case zqh4 => k_all); (case zqhd => ktr_room); (case zqhu => ktr_units); (case zql => exact List.Mem.head _); (case zqv1 => exact Nat.le_of_ble_eq_true rfl); (case zqv2 => exact Nat.le_of_ble_eq_true rfl); (case zqvs => exact pick_str_all rfl)) | (refine' pick_str (pre := [_, _]) ?zqB ?zqF ?zqX ?zqN ?zqT ?zqhf ?zqhk ?zqP ?zqhpq ?zqh1 ?zqh2 ?zqh3 ?zqh4 ?zqhd ?zqhu ?zql ?zqv1 ?zqv2 ?zqvs ?_; (case zqB => k_asm); (case zqF => k_asm); (case zqX => k_asm); (case zqN => k_asm); (case zqT => k_asm); (case zqhf => exact rfl); (case zqhk => exact rfl); (case zqP => assumption); (case zqhpq => first | assumption | k_ne); (case zqh1 => k_all); (case zqh2 => k_all); (case zqh3 => k_all); (case zqh4 => k_all); (case zqhd => ktr_room); (case zqhu => ktr_units); (case zql => exact List.Mem.head _); (case zqv1 => exact Nat.le_of_ble_eq_true rfl); (case zqv2 => exact Nat.le_of_ble_eq_true rfl); (case zqvs => exact pick_str_all rfl)) | (refine' pick_str (pre := [_, _, _]) ?zqB ?zqF ?zqX ?zqN ?zqT ?zqhf ?zqhk ?zqP ?zqhpq ?zqh1 ?zqh2 ?zqh3 ?zqh4 ?zqhd ?zqhu ?zql ?zqv1 ?zqv2 ?zqvs ?_; (case zqB => k_asm); (case zqF => k_asm); (case zqX => k_asm); (case zqN => k_asm); (case zqT => k_asm); (case zqhf => exact rfl); (case zqhk => exact rfl); (case zqP => assumption); (case zqhpq => first | assumption | k_ne); (case zqh1 => k_all); (case zqh2 => k_all); (case zqh3 => k_all); (case zqh4 => k_all); (case zqhd => ktr_room); (case zqhu => ktr_units); (case zql => exact List.Mem.head _); (case zqv1 => exact Nat.le_of_ble_eq_true rfl); (case zqv2 => exact Nat.le_of_ble_eq_true rfl); (case zqvs => exact pick_str_all rfl)) | (refine' pick_str (pre := [_, _, _, _]) ?zqB ?zqF ?zqX ?zqN ?zqT ?zqhf ?zqhk ?zqP ?zqhpq ?zqh1 ?zqh2 ?zqh3 ?zqh4 ?zqhd ?zqhu ?zql ?zqv1 ?zqv2 ?zqvs ?_; (case zqB => k_asm); (case zqF => k_asm); (case zqX => k_asm); (case zqN => k_asm); (case zqT => k_asm); (case zqhf => exact rfl); (case zqhk => exact rfl); (case zqP => assumption); (case zqhpq => first | assumption | k_ne); (case zqh1 => k_all); (case zqh2 => k_all); (case zqh3 => k_all); (case zqh4 => k_all); (case zqhd => ktr_room); (case zqhu => ktr_units); (case zql => exact List.Mem.head _); (case zqv1 => exact Nat.le_of_ble_eq_true rfl); (case zqv2 => exact Nat.le_of_ble_eq_true rfl); (case zqvs => exact pick_str_all rfl)) | (refine' pick_str (pre := [_, _, _, _, _]) ?zqB ?zqF ?zqX ?zqN ?zqT ?zqhf ?zqhk ?zqP ?zqhpq ?zqh1 ?zqh2 ?zqh3 ?zqh4 ?zqhd ?zqhu ?zql ?zqv1 ?zqv2 ?zqvs ?_; (case zqB => k_asm); (case zqF => k_asm); (case zqX => k_asm); (case zqN => k_asm); (case zqT => k_asm); (case zqhf => exact rfl); (case zqhk => exact rfl); (case zqP => assumption); (case zqhpq => first | assumption | k_ne); (case zqh1 => k_all); (case zqh2 => k_all); (case zqh3 => k_all); (case zqh4 => k_all); (case zqhd => ktr_room); (case zqhu => ktr_units); (case zql => exact List.Mem.head _); (case zqv1 => exact Nat.le_of_ble_eq_true rfl); (case zqv2 => exact Nat.le_of_ble_eq_true rfl); (case zqvs => exact pick_str_all rfl)) | (refine' pick_str (pre := [_, _, _, _, _, _]) ?zqB ?zqF ?zqX ?zqN ?zqT ?zqhf ?zqhk ?zqP ?zqhpq ?zqh1 ?zqh2 ?zqh3 ?zqh4 ?zqhd ?zqhu ?zql ?zqv1 ?zqv2 ?zqvs ?_; (case zqB => k_asm); (case zqF => k_asm); (case zqX => k_asm); (case zqN => k_asm); (case zqT => k_asm); (case zqhf => exact rfl); (case zqhk => exact rfl); (case zqP => assumption); (case zqhpq => first | assumption | k_ne); (case zqh1 => k_all); (case zqh2 => k_all); (case zqh3 => k_all); (case zqh4 => k_all); (case zqhd => ktr_room); (case zqhu => ktr_units); (case zql => exact List.Mem.head _); (case zqv1 => exact Nat.le_of_ble_eq_true rfl); (case zqv2 => exact Nat.le_of_ble_eq_true rfl); (case zqvs => exact pick_str_all rfl)) | (refine' pick_str (pre := [_, _, _, _, _, _, _]) ?zqB ?zqF ?zqX ?zqN ?zqT ?zqhf ?zqhk ?zqP ?zqhpq ?zqh1 ?zqh2 ?zqh3 ?zqh4 ?zqhd ?zqhu ?zql ?zqv1 ?zqv2 ?zqvs ?_; (case zqB => k_asm); (case zqF => k_asm); (case zqX => k_asm); (case zqN => k_asm); (case zqT => k_asm); (case zqhf => exact rfl); (case zqhk => exact rfl); (case zqP => assumption); (case zqhpq => first | assumption | k_ne); (case zqh1 => k_all); (case zqh2 => k_all); (case zqh3 => k_all); (case zqh4 => k_all); (case zqhd => ktr_room); (case zqhu => ktr_units); (case zql => exact List.Mem.head _); (case zqv1 => exact Nat.le_of_ble_eq_true rfl); (case zqv2 => exact Nat.le_of_ble_eq_true rfl); (case zqvs => exact pick_str_all rfl)) | (refine' pick_str (pre := [_, _, _, _, _, _, _, _]) ?zqB ?zqF ?zqX ?zqN ?zqT ?zqhf ?zqhk ?zqP ?zqhpq ?zqh1 ?zqh2 ?zqh3 ?zqh4 ?zqhd ?zqhu ?zql ?zqv1 ?zqv2 ?zqvs ?_; (case zqB => k_asm); (case zqF => k_asm); (case zqX => k_asm); (case zqN => k_asm); (case zqT => k_asm); (case zqhf => exact rfl); (case zqhk => exact rfl); (case zqP => assumption); (case zqhpq => first | assumption | k_ne); (case zqh1 => k_all); (case zqh2 => k_all); (case zqh3 => k_all); (case zqh4 => k_all); (case zqhd => ktr_room); (case zqhu => ktr_units); (case zql => exact List.Mem.head _); (case zqv1 => exact Nat.le_of_ble_eq_true rfl); (case zqv2 => exact Nat.le_of_ble_eq_true rfl); (case zqvs => exact pick_str_all rfl))); intro r' t' po' qo' h' tk' hok' F' N' P'; (try dsimp only [List.nil_append, List.cons_append] at N'); (try k_sweep))
  k_with "call ref" => (k_here; (with_reducible show wpAny _ _ (call (Value.ref 138) _) _ _ _); k_dflt (first | (refine' pick_int (pre := [_]) ?zqB ?zqF ?zqX ?zqN ?zqT ?zqhf ?zqhk ?zqP ?zqhpq ?zqh1 ?zqh2 ?zqh3 ?zqh4 ?zqhd ?zqhu ?zql ?zqv1 ?zqv2 ?zqvs ?_; (case zqB => k_asm); (case zqF => k_asm); (case zqX => k_asm); (case zqN => k_asm); (case zqT => k_asm); (case zqhf => exact rfl); (case zqhk => exact rfl); (case zqP => assumption); (case zqhpq => first | assumption | k_ne); (case zqh1 => k_all); (case zqh2 => k_all); (case zqh3 => k_all); (case zqh4 => k_all); (case zqhd => ktr_room); (case zqhu => ktr_units); (case zql => exact List.Mem.head _); (case zqv1 => exact Nat.le_of_ble_eq_true rfl); (case zqv2 => exact Nat.le_of_ble_eq_true rfl); (case zqvs => exact pick_int_all rfl)) | (refine' pick_int (pre := [_, _]) ?zqB ?zqF ?zqX ?zqN ?zqT ?zqhf ?zqhk ?zqP ?zqhpq ?zqh1 ?zqh2 ?zqh3 ?zqh4 ?zqhd ?zqhu ?zql ?zqv1 ?zqv2 ?zqvs ?_; (case zqB => k_asm); (case zqF => k_asm); (case zqX => k_asm); (case zqN => k_asm); (case zqT => k_asm); (case zqhf => exact rfl); (case zqhk => exact rfl); (case zqP => assumption); (case zqhpq => first | assumption | k_ne); (case zqh1 => k_all); (case zqh2 => k_all); (case zqh3 => k_all); (case zqh4 => k_all); (case zqhd => ktr_room); (case zqhu => ktr_units); (case zql => exact List.Mem.head _); (case zqv1 => exact Nat.le_of_ble_eq_true rfl); (case zqv2 => exact Nat.le_of_ble_eq_true rfl); (case zqvs => exact pick_int_all rfl)) | (refine' pick_int (pre := [_, _, _]) ?zqB ?zqF ?zqX ?zqN ?zqT ?zqhf ?zqhk ?zqP ?zqhpq ?zqh1 ?zqh2 ?zqh3 ?zqh4 ?zqhd ?zqhu ?zql ?zqv1 ?zqv2 ?zqvs ?_; (case zqB => k_asm); (case zqF => k_asm); (case zqX => k_asm); (case zqN => k_asm); (case zqT => k_asm); (case zqhf => exact rfl); (case zqhk => exact rfl); (case zqP => assumption); (case zqhpq => first | assumption | k_ne); (case zqh1 => k_all); (case zqh2 => k_all); (case zqh3 => k_all); (case zqh4 => k_all); (case zqhd => ktr_room); (case zqhu => ktr_units); (case zql => exact List.Mem.head _); (case zqv1 => exact Nat.le_of_ble_eq_true rfl); (case zqv2 => exact Nat.le_of_ble_eq_true rfl); (case zqvs => exact pick_int_all rfl)) | (refine' pick_int (pre := [_, _, _, _]) ?zqB ?zqF ?zqX ?zqN ?zqT ?zqhf ?zqhk ?zqP ?zqhpq ?zqh1 ?zqh2 ?zqh3 ?zqh4 ?zqhd ?zqhu ?zql ?zqv1 ?zqv2 ?zqvs ?_; (case zqB => k_asm); (case zqF => k_asm); (case zqX => k_asm); (case zqN => k_asm); (case zqT => k_asm); (case zqhf => exact rfl); (case zqhk => exact rfl); (case zqP => assumption); (case zqhpq => first | assumption | k_ne); (case zqh1 => k_all); (case zqh2 => k_all); (case zqh3 => k_all); (case zqh4 => k_all); (case zqhd => ktr_room); (case zqhu => ktr_units); (case zql => exact List.Mem.head _); (case zqv1 => exact Nat.le_of_ble_eq_true rfl); (case zqv2 => exact Nat.le_of_ble_eq_true rfl); (case zqvs => exact pick_int_all rfl)) | (refine' pick_int (pre := [_, _, _, _, _]) ?zqB ?zqF ?zqX ?zqN ?zqT ?zqhf ?zqhk ?zqP ?zqhpq ?zqh1 ?zqh2 ?zqh3 ?zqh4 ?zqhd ?zqhu ?zql ?zqv1 ?zqv2 ?zqvs ?_; (case zqB => k_asm); (case zqF => k_asm); (case zqX => k_asm); (case zqN => k_asm); (case zqT => k_asm); (case zqhf => exact rfl); (case zqhk => exact rfl); (case zqP => assumption); (case zqhpq => first | assumption | k_ne); (case zqh1 => k_all); (case zqh2 => k_all); (case zqh3 => k_all); (case zqh4 => k_all); (case zqhd => ktr_room); (case zqhu => ktr_units); (case zql => exact List.Mem.head _); (case zqv1 => exact Nat.le_of_ble_eq_true rfl); (case zqv2 => exact Nat.le_of_ble_eq_true rfl); (case zqvs => exact pick_int_all rfl)) | (refine' pick_int (pre := [_, _, _, _, _, _]) ?zqB ?zqF ?zqX ?zqN ?zqT ?zqhf ?zqhk ?zqP ?zqhpq ?zqh1 ?zqh2 ?zqh3 ?zqh4 ?zqhd ?zqhu ?zql ?zqv1 ?zqv2 ?zqvs ?_; (case zqB => k_asm); (case zqF => k_asm); (case zqX => k_asm); (case zqN => k_asm); (case zqT => k_asm); (case zqhf => exact rfl); (case zqhk => exact rfl); (case zqP => assumption); (case zqhpq => first | assumption | k_ne); (case zqh1 => k_all); (case zqh2 => k_all); (case zqh3 => k_all); (case zqh4 => k_all); (case zqhd => ktr_room); (case zqhu => ktr_units); (case zql => exact List.Mem.head _); (case zqv1 => exact Nat.le_of_ble_eq_true rfl); (case zqv2 => exact Nat.le_of_ble_eq_true rfl); (case zqvs => exact pick_int_all rfl)) | (refine' pick_int (pre := [_, _, _, _, _, _, _]) ?zqB ?zqF ?zqX ?zqN ?zqT ?zqhf ?zqhk ?zqP ?zqhpq ?zqh1 ?zqh2 ?zqh3 ?zqh4 ?zqhd ?zqhu ?zql ?zqv1 ?zqv2 ?zqvs ?_; (case zqB => k_asm); (case zqF => k_asm); (case zqX => k_asm); (case zqN => k_asm); (case zqT => k_asm); (case zqhf => exact rfl); (case zqhk => exact rfl); (case zqP => assumption); (case zqhpq => first | assumption | k_ne); (case zqh1 => k_all); (case zqh2 => k_all); (case zqh3 => k_all); (case zqh4 => k_all); (case zqhd => ktr_room); (case zqhu => ktr_units); (case zql => exact List.Mem.head _); (case zqv1 => exact Nat.le_of_ble_eq_true rfl); (case zqv2 => exact Nat.le_of_ble_eq_true rfl); (case zqvs => exact pick_int_all rfl)) | (refine' pick_int (pre := [_, _, _, _, _, _, _, _]) ?zqB ?zqF ?zqX ?zqN ?zqT ?zqhf ?zqhk ?zqP ?zqhpq ?zqh1 ?zqh2 ?zqh3 ?zqh4 ?zqhd ?zqhu ?zql ?zqv1 ?zqv2 ?zqvs ?_; (case zqB => k_asm); (case zqF => k_asm); (case zqX => k_asm); (case zqN => k_asm); (case zqT => k_asm); (case zqhf => exact rfl); (case zqhk => exact rfl); (case zqP => assumption); (case zqhpq => first | assumption | k_ne); (case zqh1 => k_all); (case zqh2 => k_all); (case zqh3 => k_all); (case zqh4 => k_all); (case zqhd => ktr_room); (case zqhu => ktr_units); (case zql => exact List.Mem.head _); (case zqv1 => exact Nat.le_of_ble_eq_true rfl); (case zqv2 => exact Nat.le_of_ble_eq_true rfl); (case zqvs => exact pick_int_all rfl))); intro r' t' po' qo' h' tk' F' N' P'; (try dsimp only [List.nil_append, List.cons_append] at N'); (try k_sweep))
  w_top off
  k_fill
  intro w dp un gd env outer A₀ base h₀ L m nx s loose mean mg mb p q po qo Q E B F X N T hf hk hpen hpq hp hq hnd hd hu ret
  refine wpAny_call ?_
  k_dflt (refine' code_def ?k1 ?k2 ?k3 ?k4 ?k5 ?kA ?kF ?kK ?k6 ?k7 ?k8 ?k9 ?kB ?_ ?c2 ?c3 ?c4 ?c5; (case kA => exact rfl); (case kF => assumption); (case kK => assumption); (case k1 => k_asm); (case k2 => k_asm); (case k3 => k_asm); (case k4 => k_asm); (case k5 => k_asm); (case k6 => k_is); (case k7 => k_is); (case k8 => ktr_room); (case k9 => first | exact BindsTo.of_eq rfl | exact binds_K (by k_in) rfl (by k_is) rfl rfl rfl); (case c5 => decide); (case kB => exact locs rfl); (case c2 => exact rfl); (case c3 => exact rfl); (case c4 => exact rfl); k_whole; intro g' L' h' FG' F' N' B' X' T'; (try dsimp only); (try k_fold))
  k_steps
  rename_i l9 _ ll1 D9 _ ll2 _ _ _ _ _ _ _ _ _ _ _ _ hR hF hN hKeep
  obtain ⟨n, rfl⟩ : ∃ n : Nat, r' = n := ⟨r'.toNat, by omega⟩
  unfold Stop
  obtain ⟨lp, lq, lx⟩ := ll1
  have lp : @Ne Nat p l9 := Nat.ne_of_lt lp
  have lq : @Ne Nat q l9 := Nat.ne_of_lt lq
  have lx := ne_of_allLt lx
  refine range_G (n := n) (RowJ w.params p q l9 n t' nx) rfl hR rfl (by omega) hF (news_sub (l' := (p, po') :: (q, qo') :: (l9, listOf (refs []).toArray 0) :: (led [] ++ nx)) hN ?_) ⟨rfl, rfl, rfl, ⟨_, _, rfl⟩, po', qo', [], 0, P', (fun _ h => nomatch h), (fun _ _ h => by simp at h), rfl, ?_, rfl⟩ ?_ ?_
  · intro x hx
    simp only [List.mem_cons, led, List.nil_append] at hx ⊢
    rcases hx with h | h | h | h <;> simp [h, refs]
  · simp only [led, List.nil_append, List.map_cons, List.nodup_cons, List.mem_cons, not_or]
    exact ⟨⟨hpq, lp, not_in hp⟩, ⟨lq, not_in hq⟩, not_in lx, hnd⟩
  · clear hF hN hR hKeep ret
    rintro i t m₁ nx₁ h tk it io hi ⟨m1, m2, m3, ⟨c, tc, m4⟩, po₁, qo₁, cells, nr, hP₁, hc1, hc2, hc3, hn1, rfl⟩ hit F₁ N₁
    obtain ⟨u, rfl⟩ := canon4 m1 m2 m3 m4
    obtain ⟨T₁, hT⟩ : ∃ T₁, T₁ = led cells ++ nx ++ [(it, io)] := ⟨_, rfl⟩
    have N₂ : News g' L' h ((p, po₁) :: (q, qo₁) :: (l9, listOf (refs cells).toArray nr) :: T₁) := by
      intro x hx; rw [hT] at hx; exact N₁ x (by simpa using hx)
    clear N₁
    change Fr g' L' h _ at F₁
    dsimp only at F₁
    have hip : @Ne Nat p it := hit _ (.head _)
    have hiq : @Ne Nat q it := hit _ (.tail _ (.head _))
    have hil : @Ne Nat l9 it := hit _ (.tail _ (.tail _ (.head _)))
    have o1 := nodup_off hn1
    have n2 := nodup_tail hn1
    have o2 := nodup_off n2
    have n3 := nodup_tail n2
    have o3 := nodup_off n3
    have Tp : ∀ x ∈ T₁, x.1 ≠ p := by
      rw [hT]; intro x hx
      rcases List.mem_append.mp hx with hx | hx
      · exact o1 x (.tail _ (.tail _ hx))
      · rw [List.mem_singleton.mp hx]; exact hip.symm
    have Tq : ∀ x ∈ T₁, x.1 ≠ q := by
      rw [hT]; intro x hx
      rcases List.mem_append.mp hx with hx | hx
      · exact o2 x (.tail _ hx)
      · rw [List.mem_singleton.mp hx]; exact hiq.symm
    have Tl : ∀ x ∈ T₁, x.1 ≠ l9 := by
      rw [hT]; intro x hx
      rcases List.mem_append.mp hx with hx | hx
      · exact o3 x hx
      · rw [List.mem_singleton.mp hx]; exact hil.symm
    have lpq : @Ne Nat p l9 := lp
    have hlen : (refs cells).length ≤ 1000 := by simp only [refs, List.length_map]; omega
    k_steps
    all_goals (dsimp only [GPost]; refine' row_end ?F ?N ?m1 ?m2 ?m3 ?m4 ?P ?hx ?hd ?hp ?hq ?hr ?hT' ?l1 ?l2 ?ho hc1 hc2 hc3 hn1 hit hT; (case F => assumption); (case N => assumption); (case m1 => exact rfl); (case m2 => exact rfl); (case m3 => exact rfl); (case m4 => exact ⟨_, _, rfl⟩); (case hx => k_mem); (case hd => k_mem); (case hp => k_mem); (case hq => k_mem); (case hr => k_mem); (case P => assumption); (case l1 => assumption); (case l2 => assumption); (case hT' => exact fun y hy => by repeat (first | exact hy | refine List.mem_cons_of_mem _ ?_)); (case ho => exact ⟨⟨_, _, _, _, _, _, _, _, _, _, _⟩, ⟨⟨_, _, _, _, _, _, _, _, _, _, _, _, _, _, _, _, _, _, _, _, _, _, _, _, _, _, _, _, _, _, _, rfl⟩, (by first | assumption | exact ok_empty), (by first | assumption | exact ok_empty)⟩, rfl⟩))
  · intro m₁ nx₁ h tk ⟨m1, m2, m3, ⟨c, tc, m4⟩, po₁, qo₁, cells, nr, hP₁, hc1, hc2, hc3, hn1, hnx⟩ F₁ N₁
    subst hnx
    obtain ⟨u, rfl⟩ := canon4 m1 m2 m3 m4
    change Fr g' L' h _ at F₁
    change News g' L' h _ at N₁
    clear hF hN hR hKeep
    k_steps
    refine ret l9 nr cells _ _ hc1 hc2 (by omega) (nodup_tail (nodup_tail hn1)) (by assumption) (news_sub (by assumption) ?_)
    intro x hx
    exact .tail _ (.tail _ hx)
end
def ToldObj (i : Inf) (o : Obj) : Prop := ∃ (t0 t1 t2 t3 t4 t5 : Tok), o = { cls := .type "tuple", data := .seq [Value.int i.glyph t0, .int i.cluster t1, .int i.xa t2, .int 0 t3, .int i.xo t4, .int i.yo t5].toArray }
def FieldsObj (i : Inf) (o : Obj) : Prop := ∃ (t0 t1 t2 t3 t4 t5 t6 t7 t8 t10 t11 t12 t13 : Tok), o = { cls := .type "tuple", data := .seq [Value.int i.glyph t0, .int i.cluster t1, .int i.xa t2, .int 0 t3, .int i.xo t4, .int i.yo t5, .int i.code t6, .int i.mask t7, .str i.kind t8, .bool i.uns, .str i.bond t10, .int 0 t11, .int 0 t12, .int 0 t13].toArray }
section
def FieldsSpec : Prop := ∀ (w : World) (dp un : Nat) (gd : Option (List Code)) (env : Env) (outer : List Env) (A₀ : Around) (base h₀ : Heap) (L : Addr) (m : Str → Option Value) (nx : List (Addr × Obj)) (s : Shared)
  (loose : List Str) (mean : ExcName → Option Value) (mg mb : Str → Option Value)
  (x d : Addr) (o : Obj) (i : Inf) (Q E : Value → Shared → Prop),
  Below A₀ base outer h₀ → Fr h₀ L s.heap m → (hd.heap_39 w.params).In h₀ →
  News h₀ L s.heap nx → Top hd.view_39 loose mean mg mb h₀ → env.frame = some L → env.scope.kind = .function →
  (x, instObj 52 d) ∈ nx → (d, o) ∈ nx → InfObj w.params i o →
  dp + 20 < recursionLimit → un + 200 < cLine →
  (∀ a o' h' tk', FieldsObj i o' → (∀ y ∈ nx, y.1 < a) → Fr h₀ L h' m → News h₀ L h' ((a, o') :: nx) →
    Q (.ref a) { s with heap := h', toks := tk' }) →
  wpAny (model (RowW.prog (OpenRow.toRowW (OpenLaw.row Challenge.rw_pb0158_01))) w) { handled := none, depth := dp, frames := some (env :: outer), guards := gd, units := un } (call (.ref 152) [.ref x]) Q E s
theorem all_succ {L : Addr} {l : List (Addr × Obj)} (h : ∀ p ∈ l, p.1 < L) : ∀ p ∈ l, p.1 ≠ @HAdd.hAdd Nat Nat Nat _ L 1 := fun p hp => Nat.ne_of_lt (Nat.lt_succ_of_lt (h p hp))
theorem all_succ2 {L : Addr} {l : List (Addr × Obj)} (h : ∀ p ∈ l, p.1 < L) : ∀ p ∈ l, p.1 ≠ @HAdd.hAdd Nat Nat Nat _ (@HAdd.hAdd Nat Nat Nat _ L 1) 1 := fun p hp => Nat.ne_of_lt (Nat.lt_succ_of_lt (Nat.lt_succ_of_lt (h p hp)))
theorem allLt_mem {a : Addr} : ∀ {l : List (Addr × Obj)}, AllLt a l → ∀ y ∈ l, y.1 < a
  | [], _, _, h => nomatch h
  | y :: r, h, x, hx => by
    rcases List.mem_cons.mp hx with rfl | hx
    · exact h.1
    · exact allLt_mem h.2 x hx
theorem fields_end {h₀ h' : Heap} {L a : Addr} {m : Str → Option Value} {nx : List (Addr × Obj)} {b c : Addr × Obj} {s : Shared} {Q : Value → Shared → Prop} {i : Inf} {o' : Obj} {tk : Nat}
    (ret : ∀ a o' h' tk', FieldsObj i o' → (∀ y ∈ nx, y.1 < a) → Fr h₀ L h' m → News h₀ L h' ((a, o') :: nx) → Q (.ref a) { s with heap := h', toks := tk' })
    (ho : FieldsObj i o') (F : Fr h₀ L h' m) (N : News h₀ L h' ((a, o') :: b :: c :: nx)) (l1 : @LT.lt Nat _ b.1 a ∧ @LT.lt Nat _ c.1 a ∧ AllLt a nx) : Q (.ref a) { s with heap := h', toks := tk } :=
  ret a o' h' tk ho (allLt_mem l1.2.2) F (fun p hp => N p (by rcases List.mem_cons.mp hp with h | h <;> simp [h]))
theorem told_end {h₀ h' : Heap} {L a : Addr} {m : Str → Option Value} {nx : List (Addr × Obj)} {s : Shared} {Q : Value → Shared → Prop} {i : Inf} {o' : Obj} {tk : Nat}
    (ret : ∀ a o' h' tk', ToldObj i o' → (∀ y ∈ nx, y.1 < a) → Fr h₀ L h' m → News h₀ L h' ((a, o') :: nx) → Q (.ref a) { s with heap := h', toks := tk' })
    (ho : ToldObj i o') (F : Fr h₀ L h' m) (N : News h₀ L h' ((a, o') :: nx)) (l1 : ∀ y ∈ nx, y.1 < a) : Q (.ref a) { s with heap := h', toks := tk } :=
  ret a o' h' tk ho l1 F N
theorem fields_spec : FieldsSpec := by
  unfold FieldsSpec
  k_with_none
  w_top off
  k_fill
  intro w dp un gd env outer A₀ base h₀ L m nx s loose mean mg mb x d o i Q E B F X N T hf hk hx hdo hio hd hu ret
  obtain ⟨k0, k1, k2, k3, k4, k5, k6, k7, k8, k9, k10, k11, k12, k13, k14, k15, t0, t1, t2, t3, t5, t6, t7, t8, t9, t10, t11, t12, t13, t14, t15, rfl⟩ := hio.1
  refine wpAny_call ?_
  k_dflt (refine' code_def ?k1 ?k2 ?k3 ?k4 ?k5 ?kA ?kF ?kK ?k6 ?k7 ?k8 ?k9 ?kB ?_ ?c2 ?c3 ?c4 ?c5; (case kA => exact rfl); (case kF => assumption); (case kK => assumption); (case k1 => k_asm); (case k2 => k_asm); (case k3 => k_asm); (case k4 => k_asm); (case k5 => k_asm); (case k6 => k_is); (case k7 => k_is); (case k8 => ktr_room); (case k9 => first | exact BindsTo.of_eq rfl | exact binds_K (by k_in) rfl (by k_is) rfl rfl rfl); (case c5 => decide); (case kB => exact locs rfl); (case c2 => exact rfl); (case c3 => exact rfl); (case c4 => exact rfl); k_whole; intro g' L' h' FG' F' N' B' X' T'; (try dsimp only); (try k_fold))
  k_steps
  exact fields_end ret ⟨_, _, _, _, _, _, _, _, _, _, _, _, _, rfl⟩ (by assumption) (by assumption) (by assumption)
def ToldSpec : Prop := ∀ (w : World) (dp un : Nat) (gd : Option (List Code)) (env : Env) (outer : List Env) (A₀ : Around) (base h₀ : Heap) (L : Addr) (m : Str → Option Value) (nx : List (Addr × Obj)) (s : Shared)
  (loose : List Str) (mean : ExcName → Option Value) (mg mb : Str → Option Value)
  (x d : Addr) (o : Obj) (i : Inf) (Q E : Value → Shared → Prop),
  Below A₀ base outer h₀ → Fr h₀ L s.heap m → (hd.heap_39 w.params).In h₀ →
  News h₀ L s.heap nx → Top hd.view_39 loose mean mg mb h₀ → env.frame = some L → env.scope.kind = .function →
  (x, instObj 52 d) ∈ nx → (d, o) ∈ nx → InfObj w.params i o →
  dp + 20 < recursionLimit → un + 200 < cLine →
  (∀ a o' h' tk', ToldObj i o' → (∀ y ∈ nx, y.1 < a) → Fr h₀ L h' m → News h₀ L h' ((a, o') :: nx) →
    Q (.ref a) { s with heap := h', toks := tk' }) →
  wpAny (model (RowW.prog (OpenRow.toRowW (OpenLaw.row Challenge.rw_pb0158_01))) w) { handled := none, depth := dp, frames := some (env :: outer), guards := gd, units := un } (call (.ref 49) [.ref x]) Q E s
theorem told_spec : ToldSpec := by
  unfold ToldSpec
  k_with_none
  w_top off
  k_fill
  intro w dp un gd env outer A₀ base h₀ L m nx s loose mean mg mb x d o i Q E B F X N T hf hk hx hdo hio hd hu ret
  obtain ⟨k0, k1, k2, k3, k4, k5, k6, k7, k8, k9, k10, k11, k12, k13, k14, k15, t0, t1, t2, t3, t5, t6, t7, t8, t9, t10, t11, t12, t13, t14, t15, rfl⟩ := hio.1
  refine wpAny_call ?_
  k_dflt (refine' code_def ?k1 ?k2 ?k3 ?k4 ?k5 ?kA ?kF ?kK ?k6 ?k7 ?k8 ?k9 ?kB ?_ ?c2 ?c3 ?c4 ?c5; (case kA => exact rfl); (case kF => assumption); (case kK => assumption); (case k1 => k_asm); (case k2 => k_asm); (case k3 => k_asm); (case k4 => k_asm); (case k5 => k_asm); (case k6 => k_is); (case k7 => k_is); (case k8 => ktr_room); (case k9 => first | exact BindsTo.of_eq rfl | exact binds_K (by k_in) rfl (by k_is) rfl rfl rfl); (case c5 => decide); (case kB => exact locs rfl); (case c2 => exact rfl); (case c3 => exact rfl); (case c4 => exact rfl); k_whole; intro g' L' h' FG' F' N' B' X' T'; (try dsimp only); (try k_fold))
  k_steps
  exact told_end ret ⟨_, _, _, _, _, _, rfl⟩ (by assumption) (by assumption) (by assumption)
end
end
local macro_rules | `(tactic| k_all) => `(tactic| first | assumption | exact all_succ (by assumption) | exact all_succ2 (by assumption))
def BufO (P : Params) (l : Addr) (o : Obj) : Prop := ∃ (k0 k1 k2 k3 t2 t3 : Tok) (n : Nat), o = dictOf [⟨PyData.keyHash P (Str.ofString "row"), Value.str (Str.ofString "row") k0, Value.ref l⟩,
  ⟨PyData.keyHash P (Str.ofString "is_backward"), Value.str (Str.ofString "is_backward") k1, Value.bool false⟩,
  ⟨PyData.keyHash P (Str.ofString "last_lig"), Value.str (Str.ofString "last_lig") k2, Value.int 0 t2⟩,
  ⟨PyData.keyHash P (Str.ofString "last_split"), Value.str (Str.ofString "last_split") k3, Value.int 0 t3⟩] n
def RowIn (P : Params) (nx : List (Addr × Obj)) (cells : List Cell) : Prop := ∀ c ∈ cells, (c.x, instObj 52 c.d) ∈ nx ∧ (c.d, c.o) ∈ nx ∧ InfObj P c.i c.o
def endsP (cs : List Int) (a : Nat) : Bool := decide (a + 1 = cs.length) || decide (cs.getD (a + 1) 0 ≠ cs.getD a 0)
def endsTo (cs : List Int) (n : Nat) : List Int := ((List.range n).filter (endsP cs)).map fun (a : Nat) => ((a : Int) + 1)
theorem endsTo_succ (cs : List Int) (i : Nat) : endsTo cs (i + 1) = endsTo cs i ++ (if endsP cs i then [((i : Nat) : Int) + 1] else []) := by
  unfold endsTo
  rw [List.range_succ, List.filter_append, List.map_append]
  congr 1
  by_cases h : endsP cs i = true <;> simp [h]
theorem ints_snoc {ys : List Value} {ns : List Int} {k : Int} {t : Tok} (h : IntsAre ys ns) : IntsAre (ys ++ [.int k t]) (ns ++ [k]) := by
  induction h with
  | nil => exact .cons _ _ .nil
  | cons n t r ih => exact .cons _ _ ih
section
variable {prog : Program} {w : World} {A : Around} {E : Value → Shared → Prop} {s : Shared} {h₀ : Heap} {L x d : Addr} {m : Str → Option Value} {news : List (Addr × Obj)} {i : Inf} {o : Obj}
theorem item_row {cells : List Cell} {l : Addr} {n : Nat} {value slice : PySem.Expr} {k : Int} {u : Tok} {Q : Value → Shared → Prop} {P : Params} (N : News h₀ L s.heap news) (hm : (l, listOf (refs cells).toArray n) ∈ news) (h0 : 0 ≤ k) (h1 : k < cells.length) (hv : cells.length ≤ 9) {T : List (Addr × Obj)} (R : RowIn P T cells)
    (h : ∀ c, cells[k.toNat]? = some c → c ∈ cells → (c.x, instObj 52 c.d) ∈ T → (c.d, c.o) ∈ T → InfObj P c.i c.o → Q (.ref c.x) s)
    (hs : subscripted slice false (.ref l) (.int k u) = operate [.ref l, .int k u] (getItem (.ref l) (.int k u))) :
    wpAny (model prog w) A (subscriptTail value slice (.ref l) (.int k u)) Q E s := by
  refine item_my N hm h0 (by simpa [refs] using h1) (by simp [refs]; omega) (fun v hv => ?_) hs
  simp only [refs, List.getElem?_map, Option.map_eq_some_iff] at hv
  obtain ⟨c, hc, rfl⟩ := hv
  have := R c (List.mem_of_getElem? hc)
  exact h c hc (List.mem_of_getElem? hc) this.1 this.2.1 this.2.2
theorem attr_cluster {expr : Bool} {Q : Value → Shared → Prop} (F : Fr h₀ L s.heap m) (X : (hd.heap_39 w.params).In h₀) (N : News h₀ L s.heap news) (hx : (x, instObj 52 d) ∈ news) (hdo : (d, o) ∈ news) (ho : InfObj w.params i o)
    (h : ∀ t, Q (.int i.cluster t) { s with toks := s.toks + 1 }) : wpAny (model (RowW.prog (OpenRow.toRowW (OpenLaw.row Challenge.rw_pb0158_01))) w) A (getAttr (.ref x) (Str.ofString "cluster") expr) Q E s := by
  revert F X N hx hdo ho h
  k_with_none
  w_top off
  k_fill
  intro F X N hx hdo ho h
  obtain ⟨k0, k1, k2, k3, k4, k5, k6, k7, k8, k9, k10, k11, k12, k13, k14, k15, t0, t1, t2, t3, t5, t6, t7, t8, t9, t10, t11, t12, t13, t14, t15, rfl⟩ := ho.1
  k_steps
  exact h _
theorem attr_parent {expr : Bool} {Q : Value → Shared → Prop} (F : Fr h₀ L s.heap m) (X : (hd.heap_39 w.params).In h₀) (N : News h₀ L s.heap news) (hx : (x, instObj 52 d) ∈ news) (hdo : (d, o) ∈ news) (ho : InfObj w.params i o)
    (h : ∀ t, Q (.int i.parent t) { s with toks := s.toks + 1 }) : wpAny (model (RowW.prog (OpenRow.toRowW (OpenLaw.row Challenge.rw_pb0158_01))) w) A (getAttr (.ref x) (Str.ofString "parent") expr) Q E s := by
  revert F X N hx hdo ho h
  k_with_none
  w_top off
  k_fill
  intro F X N hx hdo ho h
  obtain ⟨k0, k1, k2, k3, k4, k5, k6, k7, k8, k9, k10, k11, k12, k13, k14, k15, t0, t1, t2, t3, t5, t6, t7, t8, t9, t10, t11, t12, t13, t14, t15, rfl⟩ := ho.1
  k_steps
  exact h _
theorem attr_code {expr : Bool} {Q : Value → Shared → Prop} (F : Fr h₀ L s.heap m) (X : (hd.heap_39 w.params).In h₀) (N : News h₀ L s.heap news) (hx : (x, instObj 52 d) ∈ news) (hdo : (d, o) ∈ news) (ho : InfObj w.params i o)
    (h : ∀ t, Q (.int i.code t) { s with toks := s.toks + 1 }) : wpAny (model (RowW.prog (OpenRow.toRowW (OpenLaw.row Challenge.rw_pb0158_01))) w) A (getAttr (.ref x) (Str.ofString "code") expr) Q E s := by
  revert F X N hx hdo ho h
  k_with_none
  w_top off
  k_fill
  intro F X N hx hdo ho h
  obtain ⟨k0, k1, k2, k3, k4, k5, k6, k7, k8, k9, k10, k11, k12, k13, k14, k15, t0, t1, t2, t3, t5, t6, t7, t8, t9, t10, t11, t12, t13, t14, t15, rfl⟩ := ho.1
  k_steps
  exact h _
theorem attr_glyph {expr : Bool} {Q : Value → Shared → Prop} (F : Fr h₀ L s.heap m) (X : (hd.heap_39 w.params).In h₀) (N : News h₀ L s.heap news) (hx : (x, instObj 52 d) ∈ news) (hdo : (d, o) ∈ news) (ho : InfObj w.params i o)
    (h : ∀ t, Q (.int i.glyph t) { s with toks := s.toks + 1 }) : wpAny (model (RowW.prog (OpenRow.toRowW (OpenLaw.row Challenge.rw_pb0158_01))) w) A (getAttr (.ref x) (Str.ofString "glyph") expr) Q E s := by
  revert F X N hx hdo ho h
  k_with_none
  w_top off
  k_fill
  intro F X N hx hdo ho h
  obtain ⟨k0, k1, k2, k3, k4, k5, k6, k7, k8, k9, k10, k11, k12, k13, k14, k15, t0, t1, t2, t3, t5, t6, t7, t8, t9, t10, t11, t12, t13, t14, t15, rfl⟩ := ho.1
  k_steps
  exact h _
end
theorem cend_same {h₀ h' : Heap} {L : Addr} {m : Str → Option Value} {J : List (Addr × Obj) → Prop} {own nx pre T₁ : List (Addr × Obj)} {as : List Addr} {s₁ : Shared} {tk : Nat}
    (F : Fr h₀ L h' m) (N : News h₀ L h' (pre ++ T₁)) (hT : T₁ = nx ++ own) (hoff : Off (pre ++ nx) as) (hJ : J (pre ++ nx)) : CEnd h₀ L m J own as s₁ { s₁ with heap := h', toks := tk } := by
  refine ⟨h', tk, _, _, rfl, F, N, fun p hp => ?_, fun p hp => ?_, hoff, hJ⟩
  · rcases List.mem_append.mp hp with h | h
    · exact List.mem_append_left _ h
    · exact List.mem_append_right _ (hT ▸ List.mem_append_left _ h)
  · exact List.mem_append_right _ (hT ▸ List.mem_append_right _ hp)
theorem endsP_last {cells : List Cell} {i : Nat} (h : ((i : Nat) : Int) + 1 = ((refs cells).length : Int)) : endsP (cells.map fun c => c.i.cluster) i = true := by
  simp only [refs, List.length_map] at h
  simp only [endsP, Bool.or_eq_true, decide_eq_true_eq, List.length_map]
  exact .inl (by omega)
theorem cl_at {cells : List Cell} {i : Nat} {c : Cell} (h : cells[i]? = some c) : (cells.map fun c => c.i.cluster).getD i 0 = c.i.cluster := by
  simp [List.getD, h]
theorem endsP_ne {cells : List Cell} {i : Nat} {c1 c2 : Cell} (h1 : cells[(((i : Nat) : Int) + 1).toNat]? = some c1) (h2 : cells[((i : Nat) : Int).toNat]? = some c2) (h : c1.i.cluster ≠ c2.i.cluster) : endsP (cells.map fun c => c.i.cluster) i = true := by
  have e1 : (((i : Nat) : Int) + 1).toNat = i + 1 := by omega
  have e2 : (((i : Nat) : Int)).toNat = i := by omega
  rw [e1] at h1; rw [e2] at h2
  simp only [endsP, Bool.or_eq_true, decide_eq_true_eq]
  right
  rw [cl_at h1, cl_at h2]; exact h
theorem endsP_eq {cells : List Cell} {i : Nat} {c1 c2 : Cell} (hl : ((i : Nat) : Int) + 1 ≠ ((refs cells).length : Int)) (h1 : cells[(((i : Nat) : Int) + 1).toNat]? = some c1) (h2 : cells[((i : Nat) : Int).toNat]? = some c2) (h : c1.i.cluster = c2.i.cluster) : endsP (cells.map fun c => c.i.cluster) i = false := by
  have e1 : (((i : Nat) : Int) + 1).toNat = i + 1 := by omega
  have e2 : (((i : Nat) : Int)).toNat = i := by omega
  rw [e1] at h1; rw [e2] at h2
  simp only [refs, List.length_map] at hl
  simp only [endsP, Bool.or_eq_false_iff, decide_eq_false_iff_not, List.length_map]
  refine ⟨by omega, ?_⟩
  rw [cl_at h1, cl_at h2]; simp [h]
theorem ends_yes {cs : List Int} {ys : List Value} {i : Nat} {t : Tok} (h : IntsAre ys (endsTo cs i)) (e : endsP cs i = true) : IntsAre (ys ++ [.int ((i : Nat) + 1 : Int) t]) (endsTo cs (i + 1)) := by
  rw [endsTo_succ, if_pos e]; exact ints_snoc h
theorem ends_no {cs : List Int} {ys : List Value} {i : Nat} (h : IntsAre ys (endsTo cs i)) (e : endsP cs i = false) : IntsAre ys (endsTo cs (i + 1)) := by
  rw [endsTo_succ, if_neg (by simp [e]), List.append_nil]; exact h
local macro_rules | `(tactic| walk_at "eval ListComp") => `(tactic| (k_here; (first | (with_reducible show wpAny _ _ (eval (PySem.Expr.ListComp (PySem.Expr.Call _ _ _ _) _ _ _) _) _ _ _) | (with_reducible show wpAny _ _ (eval (PySem.Expr.ListComp (PySem.Expr.BinOp (PySem.Expr.Name _ _) _ _ _) _ _ _) _) _ _ _) | (with_reducible show wpAny _ _ (eval (PySem.Expr.ListComp (PySem.Expr.Subscript _ _ _) _ _ _) _) _ _ _) | (with_reducible show wpAny _ _ (eval (PySem.Expr.ListComp (PySem.Expr.Attribute _ _ _) _ _ _) _) _ _ _)); (rename Fr _ _ _ _ => lF'); (with_reducible refine' comp_G lF' ?hclos ?hcell ?hkind ?hnames ?hx ?hs ?_; (case hclos => with_unfolding_all rfl); (case hcell => decide); (case hkind => with_unfolding_all rfl); (case hnames => decide); (case hx => with_unfolding_all rfl); (case hs => intro _; with_unfolding_all rfl); k_whole)))
local macro_rules | `(tactic| walk_at "pyIter ref") => `(tactic| (k_here; (with_reducible show wpAny _ _ (pyIter (Value.ref _)) (fun it s₂ => CompAt _ _ _ _ _ _ _ _ _ _ _ _ _ it s₂) _ _); refine stop ?_))
local macro_rules | `(tactic| walk_at "subscriptTail") => `(tactic| (k_here; (with_reducible show wpAny _ _ (subscriptTail _ _ (Value.ref _) (Value.int _ _)) _ _ _); k_dflt (refine' item_row ?N ?m ?h0 ?h1 ?v ?R ?_ ?hs; (case N => k_asm); (case m => k_mem); (case h0 => omega); (case h1 => omega); (case v => assumption); (case R => assumption); (case hs => with_unfolding_all rfl)); intro c' hc1' hc2' hc3' hc4' hc5'))
local macro_rules | `(tactic| walk_at "getAttr ref") => `(tactic| (k_here; (with_reducible show wpAny _ _ (getAttr (Value.ref _) (Str.ofString "cluster") _) _ _ _); k_dflt (refine' attr_cluster ?F ?X ?N ?hx ?hd ?ho ?_; (case F => k_asm); (case X => k_asm); (case N => k_asm); (case hx => k_mem); (case hd => k_mem); (case ho => assumption)); intro t'))
local macro_rules | `(tactic| walk_at "getAttr ref") => `(tactic| (k_here; (with_reducible show wpAny _ _ (getAttr (Value.ref _) (Str.ofString "parent") _) _ _ _); k_dflt (refine' attr_parent ?F ?X ?N ?hx ?hd ?ho ?_; (case F => k_asm); (case X => k_asm); (case N => k_asm); (case hx => k_mem); (case hd => k_mem); (case ho => assumption)); intro t'))
local macro_rules | `(tactic| walk_at "getAttr ref") => `(tactic| (k_here; (with_reducible show wpAny _ _ (getAttr (Value.ref _) (Str.ofString "code") _) _ _ _); k_dflt (refine' attr_code ?F ?X ?N ?hx ?hd ?ho ?_; (case F => k_asm); (case X => k_asm); (case N => k_asm); (case hx => k_mem); (case hd => k_mem); (case ho => assumption)); intro t'))
local macro_rules | `(tactic| walk_at "getAttr ref") => `(tactic| (k_here; (with_reducible show wpAny _ _ (getAttr (Value.ref _) (Str.ofString "glyph") _) _ _ _); k_dflt (refine' attr_glyph ?F ?X ?N ?hx ?hd ?ho ?_; (case F => k_asm); (case X => k_asm); (case N => k_asm); (case hx => k_mem); (case hd => k_mem); (case ho => assumption)); intro t'))
section
def EndsSpec : Prop := ∀ (w : World) (dp un : Nat) (gd : Option (List Code)) (env : Env) (outer : List Env) (A₀ : Around) (base h₀ : Heap) (L : Addr) (m : Str → Option Value) (nx : List (Addr × Obj)) (s : Shared)
  (loose : List Str) (mean : ExcName → Option Value) (mg mb : Str → Option Value)
  (bx bd l : Addr) (bo : Obj) (nl : Nat) (cells : List Cell) (Q E : Value → Shared → Prop),
  Below A₀ base outer h₀ → Fr h₀ L s.heap m → (hd.heap_39 w.params).In h₀ →
  News h₀ L s.heap nx → Top hd.view_39 loose mean mg mb h₀ → env.frame = some L → env.scope.kind = .function →
  (bx, instObj 103 bd) ∈ nx → (bd, bo) ∈ nx → BufO w.params l bo → (l, listOf (refs cells).toArray nl) ∈ nx → RowIn w.params nx cells → cells.length ≤ 9 →
  dp + 20 < recursionLimit → un + 200 < cLine →
  (∀ D ys k h' tk', IntsAre ys (endsTo (cells.map fun c => c.i.cluster) cells.length) → (∀ y ∈ nx, y.1 ≠ D) → Fr h₀ L h' m → News h₀ L h' ((D, listOf ys.toArray k) :: nx) →
    Q (.ref D) { s with heap := h', toks := tk' }) →
  wpAny (model (RowW.prog (OpenRow.toRowW (OpenLaw.row Challenge.rw_pb0158_01))) w) { handled := none, depth := dp, frames := some (env :: outer), guards := gd, units := un } (call (.ref 112) [.ref bx]) Q E s
theorem ends_spec : EndsSpec := by
  unfold EndsSpec
  k_with_none
  w_top off
  k_fill
  intro w dp un gd env outer A₀ base h₀ L m nx s loose mean mg mb bx bd l bo nl cells Q E B F X N T hf hk hbx hbd hbo hl hrow hlen hd hu ret
  obtain ⟨k0, k1, k2, k3, t2, t3, n, rfl⟩ := hbo
  have hlen2 : (refs cells).length ≤ 1000 := by simp only [refs, List.length_map]; omega
  refine wpAny_call ?_
  k_dflt (refine' code_defC ?k1 ?k2 ?k3 ?k4 ?k5 ?kA ?kF ?kK ?k6 ?k7 ?k8 ?k9 ?kB ?kD ?_ ?c2 ?c3 ?c4; (case kA => exact rfl); (case kF => assumption); (case kK => assumption); (case k1 => k_asm); (case k2 => k_asm); (case k3 => k_asm); (case k4 => k_asm); (case k5 => k_asm); (case k6 => k_is); (case k7 => k_is); (case k8 => ktr_room); (case k9 => first | exact BindsTo.of_eq rfl | exact binds_K (by k_in) rfl (by k_is) rfl rfl rfl | fail "no rule for these arguments"); (case kB => exact rfl); (case kD => decide +kernel); (case c2 => exact rfl); (case c3 => exact rfl); (case c4 => exact rfl); k_whole; intro g' L' h' tk' cells' FG' F' N' Y' B' X' T' l1; k_cells Y'; (try simp only [List.cons_append, List.nil_append] at N'); (try dsimp only); (try k_fold))
  k_steps
  unfold Stop
  rename_i oC _ _ hoC _ _ _ _ _ hR hF hN hKeep
  have hlr : (refs cells).length = cells.length := by simp [refs]
  refine comp_range_at (n := cells.length) (fun i ys nx' => nx' = (L' + 1, oC) :: nx ∧ IntsAre ys (endsTo (cells.map fun c => c.i.cluster) i)) rfl hR (by rw [hlr]) (by omega) hF hN ⟨rfl, .nil⟩ ?_ ?_
  · clear hF hN hR hKeep
    rintro i t ys nx' s₁ m₂ C D I dO cO iO E' ⟨h, tk, rfl⟩ hi ⟨rfl, hys⟩ hyl hoff hDC hDI hIC F₁ N₁ hns hm
    obtain ⟨T₁, hT⟩ : ∃ T₁, T₁ = nx ++ [(D, dO), (C, cO), (I, iO)] := ⟨_, rfl⟩
    have N₂ : News g' L' h ((L' + 1, oC) :: T₁) := by
      intro x hx; rw [hT] at hx; exact N₁ x (by simpa using hx)
    clear N₁
    have hTs : ∀ y ∈ nx, y ∈ T₁ := fun y hy => hT ▸ List.mem_append_left _ hy
    have hl₁ := hTs _ hl
    have hR₁ : RowIn w.params T₁ cells := fun c hc => ⟨hTs _ (hrow c hc).1, hTs _ (hrow c hc).2.1, (hrow c hc).2.2⟩
    dsimp only at hns hm
    refine wpAny_tests_one ?_
    k_steps
    · exact cend_same (pre := [_]) (by assumption) (by assumption) hT hoff ⟨rfl, ends_yes hys (endsP_last (by assumption))⟩
    · exact cend_same (pre := [_]) (by assumption) (by assumption) hT hoff ⟨rfl, ends_yes hys (endsP_ne (by assumption) (by assumption) (by assumption))⟩
    · exact cend_same (pre := [_]) (by assumption) (by assumption) hT hoff ⟨rfl, ends_no hys (endsP_eq (by assumption) (by assumption) (by assumption) (by assumption))⟩
  · rintro h' tk D ys nx' k ⟨rfl, hys⟩ hoff F₁ N₁
    clear hF hN hR hKeep
    change Fr g' L' h' _ at F₁
    k_steps
    refine ret D ys k _ _ hys (fun y hy => hoff y (.tail _ hy)) (by assumption) (news_sub (by assumption) ?_)
    intro y hy
    rcases List.mem_cons.mp hy with h | h
    · exact h ▸ .head _
    · exact .tail _ (.tail _ h)
end
def key (c : Cell) : Addr × Addr × Inf := (c.x, c.d, c.i)
def nkey (c : Cell) : Addr × Addr × Inf := (c.x, c.d, { c.i with parent := -c.i.parent })
def Turned (cells cells' : List Cell) : Prop := cells'.map key = cells.reverse.map nkey
theorem led_mem_x {cells : List Cell} {c : Cell} (h : c ∈ cells) : (c.x, instObj 52 c.d) ∈ led cells := by
  induction cells with
  | nil => cases h
  | cons a r ih =>
    rcases List.mem_cons.mp h with rfl | h
    · exact .head _
    · exact .tail _ (.tail _ (ih h))
theorem led_mem_d {cells : List Cell} {c : Cell} (h : c ∈ cells) : (c.d, c.o) ∈ led cells := by
  induction cells with
  | nil => cases h
  | cons a r ih =>
    rcases List.mem_cons.mp h with rfl | h
    · exact .tail _ (.head _)
    · exact .tail _ (.tail _ (ih h))
theorem led_keys {a b : List Cell} (h : a.map (fun c => (c.x, c.d)) = b.map (fun c => (c.x, c.d))) : (led a).map (·.1) = (led b).map (·.1) := by
  induction a generalizing b with
  | nil => cases b with | nil => rfl | cons _ _ => cases h
  | cons c r ih =>
    cases b with
    | nil => cases h
    | cons c' r' =>
      simp only [List.map_cons, List.cons.injEq, Prod.mk.injEq] at h
      simp only [led, List.map_cons, h.1.1, h.1.2, ih h.2]
theorem led_perm {a b : List Cell} (h : a.Perm b) : (led a).Perm (led b) := by
  induction h with
  | nil => exact .nil
  | cons c _ ih => exact (ih.cons _).cons _
  | swap c c' l =>
    simp only [led]
    have : ∀ (p q r s : Addr × Obj) (l : List (Addr × Obj)), (p :: q :: r :: s :: l).Perm (r :: s :: p :: q :: l) := fun p q r s l => by
      have := (List.perm_append_comm (l₁ := [p, q]) (l₂ := [r, s])).append_right l
      simpa using this
    exact this _ _ _ _ _
  | trans _ _ ih1 ih2 => exact ih1.trans ih2
theorem rev_refs {prog : Program} {w : World} {A : Around} {E : Value → Shared → Prop} {s : Shared} {h₀ : Heap} {L D : Addr} {m : Str → Option Value} {news news' : List (Addr × Obj)} {n : Nat} {cells : List Cell} {Q : Value → Shared → Prop}
    (F : Fr h₀ L s.heap m) (N : News h₀ L s.heap news) (U : Upd D (listOf (refs cells).toArray n) (listOf (refs cells.reverse).toArray n) news news') (hz : cells.length ≤ 9)
    (h : ∀ h', Fr h₀ L h' m → News h₀ L h' news' → Q .none { s with heap := h' }) : wpAny (model prog w) A (call (.builtin "list.reverse") [.ref D]) Q E s :=
  kl_reverse F N (l := refs cells.reverse) (by simp [refs]) U (by rw [PySem.sizeLine_eq]; simp [refs]; omega) h
def TurnJ (P : Params) (l : Addr) (nl : Nat) (rc : List Cell) (nx : List (Addr × Obj)) (k : Nat) (um : Str → Option Value) (nx' : List (Addr × Obj)) : Prop :=
  ∃ dn, dn.length = k ∧ k ≤ rc.length ∧ dn.map key = (rc.take k).map nkey ∧ (∀ c ∈ dn, InfObj P c.i c.o) ∧ nx' = (l, listOf (refs rc).toArray nl) :: (led (dn ++ rc.drop k) ++ nx)
theorem xd_of_key {a b : List Cell} (h : a.map key = b.map nkey) : a.map (fun c => (c.x, c.d)) = b.map (fun c => (c.x, c.d)) := by
  have := congrArg (List.map fun (k : Addr × Addr × Inf) => (k.1, k.2.1)) h
  simpa [key, nkey, Function.comp_def] using this
theorem refs_of_key {a b : List Cell} (h : a.map key = b.map nkey) : refs a = refs b := by
  have := congrArg (List.map fun (k : Addr × Addr × Inf) => Value.ref k.1) h
  simpa [key, nkey, Function.comp_def, refs] using this
theorem turn_nodup {l : Addr} {lo lo' : Obj} {rc dn : List Cell} {nx : List (Addr × Obj)} {i : Nat} (h : (((l, lo) :: (led rc ++ nx)).map (·.1)).Nodup) (hk : dn.map key = (rc.take i).map nkey) : (((l, lo') :: (led (dn ++ rc.drop i) ++ nx)).map (·.1)).Nodup := by
  have e : (led (dn ++ rc.drop i)).map (·.1) = (led rc).map (·.1) := by
    refine led_keys ?_
    rw [List.map_append, xd_of_key hk, ← List.map_append, List.take_append_drop]
  simpa [e] using h
theorem drop_cons {rc : List Cell} {i : Nat} {c : Cell} (h : rc[i]? = some c) : rc.drop i = c :: rc.drop (i + 1) := by
  obtain ⟨hi, rfl⟩ := List.getElem?_eq_some_iff.mp h
  exact List.drop_eq_getElem_cons hi
theorem turn_apart {l : Addr} {lo : Obj} {dn dr : List Cell} {c : Cell} {nx : List (Addr × Obj)} (h : (((l, lo) :: (led (dn ++ c :: dr) ++ nx)).map (·.1)).Nodup) :
    @Ne Nat c.x c.d ∧ (∀ y ∈ (l, lo) :: (led dn ++ led dr ++ nx), y.1 ≠ c.x) ∧ (∀ y ∈ (l, lo) :: (led dn ++ led dr ++ nx), y.1 ≠ c.d) := by
  have p : List.Perm (((l, lo) :: (led (dn ++ c :: dr) ++ nx))) ((c.x, instObj 52 c.d) :: (c.d, c.o) :: ((l, lo) :: (led dn ++ led dr ++ nx))) := by
    rw [led_append]
    simp only [led]
    have := ((List.perm_append_comm (l₁ := (l, lo) :: led dn) (l₂ := [(c.x, instObj 52 c.d), (c.d, c.o)])).append_right (led dr ++ nx))
    simpa using this
  have n := ((p.map (·.1)).nodup_iff).mp h
  have n2 := nodup_tail n
  have o1 := nodup_off n
  have o2 := nodup_off n2
  exact ⟨(o1 _ (.head _)).symm, fun y hy => o1 y (.tail _ hy), fun y hy => o2 y hy⟩
theorem turn_end {h₀ h' : Heap} {L l it : Addr} {io o' : Obj} {P : Params} {nl i : Nat} {rc dn : List Cell} {c : Cell} {nx T₂ : List (Addr × Obj)} {m₁ m' : Str → Option Value} {s₁ : Shared} {tk : Nat}
    (F : Fr h₀ L h' m') (N : News h₀ L h' ((c.x, instObj 52 c.d) :: (c.d, o') :: T₂)) (ho : InfObj P { c.i with parent := -c.i.parent } o')
    (hT : T₂ = (l, listOf (refs rc).toArray nl) :: (led dn ++ led (rc.drop (i + 1)) ++ nx) ++ [(it, io)]) (hc : rc[i]? = some c) (hl : dn.length = i) (hk : dn.map key = (rc.take i).map nkey) (hd : ∀ c ∈ dn, InfObj P c.i c.o)
    (hit : ∀ p ∈ (l, listOf (refs rc).toArray nl) :: (led (dn ++ rc.drop i) ++ nx), p.1 ≠ it) :
    GEnd h₀ L (TurnJ P l nl rc nx (i + 1)) [(it, io)] [it] s₁ { s₁ with heap := h', toks := tk } := by
  have hlt := (List.getElem?_eq_some_iff.mp hc).1
  rw [drop_cons hc] at hit
  refine ⟨h', tk, m', _, (l, listOf (refs rc).toArray nl) :: (led (dn ++ [⟨c.x, c.d, { c.i with parent := -c.i.parent }, o'⟩] ++ rc.drop (i + 1)) ++ nx), rfl, F, N, ?_, ?_, ?_, dn ++ [⟨c.x, c.d, { c.i with parent := -c.i.parent }, o'⟩], ?_, hlt, ?_, ?_, rfl⟩
  · intro y hy
    rw [hT]
    simp only [led_append, led, List.mem_cons, List.mem_append, List.not_mem_nil, or_false] at hy ⊢
    rcases hy with h | ((h | h | h) | h) | h <;> simp [h]
  · intro y hy
    exact .tail _ (.tail _ (hT ▸ List.mem_append_right _ hy))
  · intro y hy
    simp only [List.mem_singleton]
    simp only [led_append, led, List.mem_cons, List.mem_append, List.not_mem_nil, or_false] at hy hit
    rcases hy with h | ((h | h | h) | h) | h
    · exact hit y (by simp [h])
    · exact hit y (by simp [h])
    · exact hit y (by simp [h])
    · rw [h]; exact hit (c.d, c.o) (by simp)
    · exact hit y (by simp [h])
    · exact hit y (by simp [h])
  · simp [hl]
  · rw [List.map_append, hk, List.take_add_one, hc, List.map_append]; rfl
  · intro c' hc'
    rcases List.mem_append.mp hc' with h | h
    · exact hd c' h
    · rw [List.mem_singleton.mp h]; exact ho
section
local macro_rules | `(tactic| walk_at "call builtin:list.reverse") => `(tactic| (k_here; (with_reducible show wpAny _ _ (call (Value.builtin _) [Value.ref _]) _ _ _); k_dflt (refine' rev_refs ?F ?N ?U ?z ?_; (case F => k_asm); (case N => k_asm); (case U => k_upd); (case z => assumption)); (intro h' F' N')))
def TurnSpec : Prop := ∀ (w : World) (dp un : Nat) (gd : Option (List Code)) (env : Env) (outer : List Env) (A₀ : Around) (base h₀ : Heap) (L : Addr) (m : Str → Option Value) (nx : List (Addr × Obj)) (s : Shared)
  (loose : List Str) (mean : ExcName → Option Value) (mg mb : Str → Option Value)
  (bx bd l : Addr) (bo : Obj) (nl : Nat) (cells : List Cell) (Q E : Value → Shared → Prop),
  Below A₀ base outer h₀ → Fr h₀ L s.heap m → (hd.heap_39 w.params).In h₀ →
  News h₀ L s.heap ((l, listOf (refs cells).toArray nl) :: (led cells ++ nx)) → Top hd.view_39 loose mean mg mb h₀ → env.frame = some L → env.scope.kind = .function →
  (bx, instObj 103 bd) ∈ nx → (bd, bo) ∈ nx → BufO w.params l bo → (∀ c ∈ cells, InfObj w.params c.i c.o) → (((l, listOf (refs cells).toArray nl) :: (led cells ++ nx)).map (·.1)).Nodup → cells.length ≤ 9 →
  dp + 20 < recursionLimit → un + 200 < cLine →
  (∀ cells' nl' h' tk', Turned cells cells' → (∀ c ∈ cells', InfObj w.params c.i c.o) → (((l, listOf (refs cells').toArray nl') :: (led cells' ++ nx)).map (·.1)).Nodup → Fr h₀ L h' m → News h₀ L h' ((l, listOf (refs cells').toArray nl') :: (led cells' ++ nx)) →
    Q .none { s with heap := h', toks := tk' }) →
  wpAny (model (RowW.prog (OpenRow.toRowW (OpenLaw.row Challenge.rw_pb0158_01))) w) { handled := none, depth := dp, frames := some (env :: outer), guards := gd, units := un } (call (.ref 119) [.ref bx]) Q E s
theorem turn_spec : TurnSpec := by
  unfold TurnSpec
  k_with_none
  w_top off
  k_fill
  intro w dp un gd env outer A₀ base h₀ L m nx s loose mean mg mb bx bd l bo nl cells Q E B F X N T hf hk hbx hbd hbo hio hnd hlen hd hu ret
  obtain ⟨k0, k1, k2, k3, t2, t3, n, rfl⟩ := hbo
  have hoffl := nodup_off hnd
  have hndT := nodup_tail hnd
  obtain ⟨T₁, hT⟩ : ∃ T₁, T₁ = led cells ++ nx := ⟨_, rfl⟩
  rw [← hT] at N hoffl
  dsimp only at hoffl
  have hbxT := List.mem_append_right (led cells) hbx
  have hbdT := List.mem_append_right (led cells) hbd
  rw [← hT] at hbxT hbdT
  refine wpAny_call ?_
  k_dflt (refine' code_def ?k1 ?k2 ?k3 ?k4 ?k5 ?kA ?kF ?kK ?k6 ?k7 ?k8 ?k9 ?kB ?_ ?c2 ?c3 ?c4 ?c5; (case kA => exact rfl); (case kF => assumption); (case kK => assumption); (case k1 => k_asm); (case k2 => k_asm); (case k3 => k_asm); (case k4 => k_asm); (case k5 => k_asm); (case k6 => k_is); (case k7 => k_is); (case k8 => ktr_room); (case k9 => first | exact BindsTo.of_eq rfl | exact binds_K (by k_in) rfl (by k_is) rfl rfl rfl); (case c5 => decide); (case kB => exact locs rfl); (case c2 => exact rfl); (case c3 => exact rfl); (case c4 => exact rfl); k_whole; intro g' L' h' FG' F' N' B' X' T'; (try dsimp only); (try k_fold))
  k_steps
  unfold Stop
  rename_i lF hN
  have hndR : (((l, listOf (refs cells).toArray nl) :: (led cells.reverse ++ nx)).map (·.1)).Nodup :=
    (((((led_perm (List.reverse_perm cells)).append_right nx).cons (l, listOf (refs cells).toArray nl)).map (·.1)).nodup_iff).mpr hnd
  have hir : ∀ c ∈ cells.reverse, InfObj w.params c.i c.o := fun c hc => hio c (List.mem_reverse.mp hc)
  refine list_G (nl := nl) (vs := refs cells.reverse) (TurnJ w.params l nl cells.reverse nx) rfl lF (news_sub (l' := (l, listOf (refs cells.reverse).toArray nl) :: (led cells.reverse ++ nx)) hN ?_) ⟨[], rfl, Nat.zero_le _, rfl, (fun _ h => nomatch h), rfl⟩ ?_ ?_ ?_
  · intro y hy
    rcases List.mem_cons.mp hy with h | h
    · exact h ▸ .head _
    · refine .tail _ (hT ▸ ?_)
      exact (((led_perm (List.reverse_perm cells)).append_right nx).mem_iff).mp h
  · rintro i m nx' ⟨dn, _, _, _, _, rfl⟩
    exact .head _
  · clear lF hN
    rintro i v m₁ nx₁ h tk it io hv ⟨dn, hl, hle, hk, hdn, rfl⟩ hit F₁ N₁
    simp only [refs, List.getElem?_map, Option.map_eq_some_iff] at hv
    obtain ⟨c, hc, rfl⟩ := hv
    have hnd₁ := turn_nodup (lo' := listOf (refs cells.reverse).toArray nl) hndR hk
    rw [drop_cons hc] at hnd₁
    obtain ⟨hxd, hx, hdd⟩ := turn_apart hnd₁
    have hci := hir c (List.mem_of_getElem? hc)
    obtain ⟨k0, k1, k2, k3, k4, k5, k6, k7, k8, k9, k10, k11, k12, k13, k14, k15, t0, t1, t2, t3, t5, t6, t7, t8, t9, t10, t11, t12, t13, t14, t15, hco⟩ := hci.1
    obtain ⟨T₂, hT₂⟩ : ∃ T₂, T₂ = (l, listOf (refs cells.reverse).toArray nl) :: (led dn ++ led (cells.reverse.drop (i + 1)) ++ nx) ++ [(it, io)] := ⟨_, rfl⟩
    have N₂ : News g' L' h ((c.x, instObj 52 c.d) :: (c.d, c.o) :: T₂) := by
      intro y hy
      refine N₁ y ?_
      rw [hT₂] at hy
      rw [drop_cons hc, led_append]
      simp only [led, List.mem_cons, List.mem_append, List.not_mem_nil, or_false] at hy ⊢
      rcases hy with h | h | (h | (h | h) | h) | h <;> simp [h]
    clear N₁
    change Fr g' L' h _ at F₁
    rw [hco] at N₂
    have hitx : it ≠ c.x := fun e => hit (c.x, instObj 52 c.d) (.tail _ (List.mem_append_left _ (led_mem_x (List.mem_append_right _ (by rw [drop_cons hc]; exact .head _))))) e.symm
    have hitd : it ≠ c.d := fun e => hit (c.d, c.o) (.tail _ (List.mem_append_left _ (led_mem_d (List.mem_append_right _ (by rw [drop_cons hc]; exact .head _))))) e.symm
    have Tx : ∀ y ∈ T₂, y.1 ≠ c.x := by
      rw [hT₂]; intro y hy
      rcases List.mem_append.mp hy with hy | hy
      · exact hx y hy
      · rw [List.mem_singleton.mp hy]; exact hitx
    have Td : ∀ y ∈ T₂, y.1 ≠ c.d := by
      rw [hT₂]; intro y hy
      rcases List.mem_append.mp hy with hy | hy
      · exact hdd y hy
      · rw [List.mem_singleton.mp hy]; exact hitd
    try dsimp only at F₁
    k_steps
    dsimp only [GPost]
    exact turn_end (m₁ := m₁) (by assumption) (by assumption) ⟨⟨_, _, _, _, _, _, _, _, _, _, _, _, _, _, _, _, _, _, _, _, _, _, _, _, _, _, _, _, _, _, _, rfl⟩, (hir c (List.mem_of_getElem? hc)).2⟩ hT₂ hc hl hk hdn hit
  · rintro m₁ nx₁ h tk ⟨dn, hl, hle, hk, hdn, rfl⟩ F₁ N₁
    clear lF hN
    change Fr g' L' h _ at F₁
    change News g' L' h _ at N₁
    have hrl : (refs cells.reverse).length = cells.reverse.length := by simp [refs]
    have hnd₁ := turn_nodup (lo' := listOf (refs cells.reverse).toArray nl) hndR hk
    rw [hrl] at hk hnd₁ N₁
    rw [List.take_length] at hk
    rw [List.drop_length, List.append_nil] at hnd₁ N₁
    rw [← refs_of_key hk] at hnd₁ N₁
    k_steps
    exact ret dn nl _ _ hk hdn hnd₁ (by assumption) (by assumption)
end
section
open PyProof.V
def codeOf (cells : List Cell) (j : Nat) : Int := ((cells[j]?).map fun c => c.i.code).getD 0
def parOf (cells : List Cell) (j : Nat) : Int := ((cells[j]?).map fun c => c.i.parent).getD 0
def tieAt (cells : List Cell) (k : Nat) : Option Int :=
  if (k : Int) + parOf cells k = (k : Int) then none
  else if 0 ≤ (k : Int) + parOf cells k ∧ (k : Int) + parOf cells k < (cells.length : Int) then some (codeOf cells ((k : Int) + parOf cells k).toNat) else some 0
def tiesTo (cells : List Cell) (n : Nat) : List (Int × Option Int) := (List.range n).map fun k => (codeOf cells k, tieAt cells k)
def TieV (v : Value) (t : Option Int) : Prop := match t with
  | none => v = .none
  | some n => ∃ tk, v = .int n tk
inductive TV : List (Int × Value) → List (Int × Option Int) → Prop
  | nil : TV [] []
  | cons {c : Int} {v : Value} {t : Option Int} {r : List (Int × Value)} {q : List (Int × Option Int)} : TieV v t → TV r q → TV ((c, v) :: r) ((c, t) :: q)
theorem TV.snoc {c : Int} {v : Value} {t : Option Int} {r : List (Int × Value)} {q : List (Int × Option Int)} (h : TV r q) (hv : TieV v t) : TV (r ++ [(c, v)]) (q ++ [(c, t)]) := by
  induction h with
  | nil => exact .cons hv .nil
  | cons a _ ih => exact .cons a ih
theorem TV.keys {r : List (Int × Value)} {q : List (Int × Option Int)} (h : TV r q) : r.map (·.1) = q.map (·.1) := by
  induction h with
  | nil => rfl
  | cons a _ ih => simp [ih]
theorem TV.length {r : List (Int × Value)} {q : List (Int × Option Int)} (h : TV r q) : r.length = q.length := by
  have := congrArg List.length h.keys
  simpa using this
theorem valueAt_none {r : List (Int × Value)} {c : Int} (h : c ∉ r.map (·.1)) : valueAt r c = none := by
  unfold valueAt
  simp only [Option.map_eq_none_iff, List.find?_eq_none, decide_eq_true_eq]
  intro x hx e
  exact h (List.mem_map.mpr ⟨x, hx, e⟩)
theorem tiesTo_succ (cells : List Cell) (k : Nat) : tiesTo cells (k + 1) = tiesTo cells k ++ [(codeOf cells k, tieAt cells k)] := by
  unfold tiesTo; rw [List.range_succ, List.map_append]; rfl
def CodesApart (cells : List Cell) : Prop := ∀ (i j : Nat) (ci cj : Cell), cells[i]? = some ci → cells[j]? = some cj → Inf.code ci.i = Inf.code cj.i → i = j
theorem codeOf_at {cells : List Cell} {k : Nat} {c : Cell} (h : cells[k]? = some c) : codeOf cells k = c.i.code := by simp [codeOf, h]
theorem parOf_at {cells : List Cell} {k : Nat} {c : Cell} (h : cells[k]? = some c) : parOf cells k = c.i.parent := by simp [parOf, h]
theorem code_fresh {cells : List Cell} {k : Nat} {c : Cell} (hc : CodesApart cells) (h : cells[k]? = some c) : c.i.code ∉ (tiesTo cells k).map (·.1) := by
  intro hm
  simp only [tiesTo, List.map_map, List.mem_map, List.mem_range, Function.comp] at hm
  obtain ⟨j, hj, e⟩ := hm
  have hk := (List.getElem?_eq_some_iff.mp h).1
  have hcj : cells[j]? = some cells[j] := by simp
  rw [codeOf_at hcj] at e
  exact Nat.ne_of_lt hj (hc j k _ _ hcj h e)
theorem canon2 {m : Str → Option Value} {a b : Str} {va vb : Option Value} (ha : m a = va) (hb : m b = vb) :
    ∃ u : Str → Option Value, m = fun y => if y = a then va else if y = b then vb else u y := by
  refine ⟨m, ?_⟩
  funext y
  by_cases h1 : y = a
  · simp [h1, ha]
  by_cases h2 : y = b
  · subst h2; simp [h1, hb]
  simp [h1, h2]
def TiesJ (prog : Program) (w : World) (l D : Addr) (cells : List Cell) (nx : List (Addr × Obj)) (k : Nat) (m : Str → Option Value) (nx' : List (Addr × Obj)) : Prop :=
  m "row" = some (.ref l) ∧ m "found" = some (.ref D) ∧ ∃ (o : Obj) (kvs : List (Int × Value)), Obj.IsDictOf (intKind prog w) o kvs ∧ TV kvs (tiesTo cells k) ∧ nx' = (D, o) :: nx
section
variable {prog : Program} {w : World} {A : Around} {E : Value → Shared → Prop} {s : Shared} {h₀ : Heap} {L d : Addr} {m : Str → Option Value} {news : List (Addr × Obj)} {g : Obj → List (Addr × Obj)} {o : Obj} {kvs : List (Int × Value)} {k : Int} {t : Tok} {v : Value}
theorem ties_set {cells : List Cell} {i : Nat} {c : Cell} {Q : Unit → Shared → Prop} (F : Fr h₀ L s.heap m) (N : News h₀ L s.heap news) (U : UpdF d o news g) (hd : o.IsDictOf (intKind prog w) kvs) (hT : TV kvs (tiesTo cells i)) (hca : CodesApart cells) (hl : cells.length ≤ 9) (hc : cells[((i : Nat) : Int).toNat]? = some c)
    (h : ∀ h' o', Fr h₀ L h' m → News h₀ L h' (g o') → o'.IsDictOf (intKind prog w) (kvs ++ [(c.i.code, v)]) → Q () { s with heap := h', toks := s.toks + 1 }) : wpAny (model prog w) A (setItem (.ref d) (.int c.i.code t) v) Q E s := by
  have e : ((i : Nat) : Int).toNat = i := by omega
  rw [e] at hc
  have hi := (List.getElem?_eq_some_iff.mp hc).1
  refine kda_set (knd := intKind prog w) F N U hd (intKind_is _ _ _ _) (by rw [PySem.sizeLine_eq, hT.length]; simp [tiesTo]; omega) fun h' o' F' N' hd' => h h' o' F' N' ?_
  rwa [stored_absent (valueAt_none (by rw [hT.keys]; exact code_fresh hca hc))] at hd'
theorem ties_end {h' : Heap} {it D l : Addr} {io o' : Obj} {cells : List Cell} {c : Cell} {i : Nat} {nx T₁ : List (Addr × Obj)} {m' : Str → Option Value} {s₁ : Shared} {tk : Nat}
    (F : Fr h₀ L h' m') (N : News h₀ L h' ((D, o') :: T₁)) (m1 : m' "row" = some (.ref l)) (m2 : m' "found" = some (.ref D)) (hd : o'.IsDictOf (intKind prog w) (kvs ++ [(c.i.code, v)])) (hT : TV kvs (tiesTo cells i)) (hc : cells[((i : Nat) : Int).toNat]? = some c)
    (hv : TieV v (tieAt cells i)) (hT₁ : T₁ = nx ++ [(it, io)]) (hit : ∀ o, ∀ y ∈ (D, o) :: nx, y.1 ≠ it) :
    GEnd h₀ L (TiesJ prog w l D cells nx (i + 1)) [(it, io)] [it] s₁ { s₁ with heap := h', toks := tk } := by
  have e : ((i : Nat) : Int).toNat = i := by omega
  rw [e] at hc
  refine ⟨h', tk, m', _, (D, o') :: nx, rfl, F, N, fun y hy => ?_, fun y hy => .tail _ (hT₁ ▸ List.mem_append_right _ hy), fun y hy => by simpa using hit o' y hy, m1, m2, o', _, hd, ?_, rfl⟩
  · rcases List.mem_cons.mp hy with h | h
    · exact h ▸ .head _
    · exact .tail _ (hT₁ ▸ List.mem_append_left _ h)
  · rw [tiesTo_succ, codeOf_at hc]
    exact hT.snoc hv
end
theorem tie_none {cells : List Cell} {i : Nat} {c : Cell} (h : ((i : Nat) : Int) + c.i.parent = (i : Int)) (hc : cells[((i : Nat) : Int).toNat]? = some c) : TieV .none (tieAt cells i) := by
  have e : ((i : Nat) : Int).toNat = i := by omega
  rw [e] at hc
  rw [tieAt, parOf_at hc, if_pos h]; rfl
theorem tie_in {cells : List Cell} {i : Nat} {c c' : Cell} {t : Tok} (h : ((i : Nat) : Int) + c.i.parent ≠ (i : Int)) (h1 : 0 ≤ ((i : Nat) : Int) + c.i.parent) (h2 : ((i : Nat) : Int) + c.i.parent < ((refs cells).length : Int)) (hc : cells[((i : Nat) : Int).toNat]? = some c)
    (hc' : cells[(((i : Nat) : Int) + c.i.parent).toNat]? = some c') : TieV (.int c'.i.code t) (tieAt cells i) := by
  have e : ((i : Nat) : Int).toNat = i := by omega
  rw [e] at hc
  simp only [refs, List.length_map] at h2
  rw [tieAt, parOf_at hc, if_neg h, if_pos ⟨h1, h2⟩, codeOf_at hc']
  exact ⟨t, rfl⟩
theorem tie_lo {cells : List Cell} {i : Nat} {c : Cell} {t : Tok} (h : ((i : Nat) : Int) + c.i.parent ≠ (i : Int)) (h1 : ¬ 0 ≤ ((i : Nat) : Int) + c.i.parent) (hc : cells[((i : Nat) : Int).toNat]? = some c) : TieV (.int 0 t) (tieAt cells i) := by
  have e : ((i : Nat) : Int).toNat = i := by omega
  rw [e] at hc
  rw [tieAt, parOf_at hc, if_neg h, if_neg (fun hh => h1 hh.1)]
  exact ⟨t, rfl⟩
theorem tie_hi {cells : List Cell} {i : Nat} {c : Cell} {t : Tok} (h : ((i : Nat) : Int) + c.i.parent ≠ (i : Int)) (h2 : ¬ ((i : Nat) : Int) + c.i.parent < ((refs cells).length : Int)) (hc : cells[((i : Nat) : Int).toNat]? = some c) : TieV (.int 0 t) (tieAt cells i) := by
  have e : ((i : Nat) : Int).toNat = i := by omega
  rw [e] at hc
  simp only [refs, List.length_map] at h2
  rw [tieAt, parOf_at hc, if_neg h, if_neg (fun hh => h2 hh.2)]
  exact ⟨t, rfl⟩
section
local macro_rules | `(tactic| walk_at "setItem ref int") => `(tactic| (k_here; k_dflt (refine' ties_set ?F ?N ?U ?d ?T ?ca ?l ?c ?_; (case F => k_asm); (case N => k_asm); (case U => k_updF); (case d => assumption); (case T => assumption); (case ca => assumption); (case l => assumption); (case c => assumption)); (intro h' o' F' N' hd'; (try dsimp only at N'))))
def TiesSpec : Prop := ∀ (w : World) (dp un : Nat) (gd : Option (List Code)) (env : Env) (outer : List Env) (A₀ : Around) (base h₀ : Heap) (L : Addr) (m : Str → Option Value) (nx : List (Addr × Obj)) (s : Shared)
  (loose : List Str) (mean : ExcName → Option Value) (mg mb : Str → Option Value)
  (l : Addr) (nl : Nat) (cells : List Cell) (Q E : Value → Shared → Prop),
  Below A₀ base outer h₀ → Fr h₀ L s.heap m → (hd.heap_39 w.params).In h₀ →
  News h₀ L s.heap nx → Top hd.view_39 loose mean mg mb h₀ → env.frame = some L → env.scope.kind = .function →
  (l, listOf (refs cells).toArray nl) ∈ nx → RowIn w.params nx cells → cells.length ≤ 9 → CodesApart cells →
  dp + 20 < recursionLimit → un + 200 < cLine →
  (∀ D o kvs h' tk', Obj.IsDictOf (intKind (RowW.prog (OpenRow.toRowW (OpenLaw.row Challenge.rw_pb0158_01))) w) o kvs → TV kvs (tiesTo cells cells.length) → (D == sysModules) = false → (∀ y ∈ nx, y.1 < D) → Fr h₀ L h' m → News h₀ L h' ((D, o) :: nx) →
    Q (.ref D) { s with heap := h', toks := tk' }) →
  wpAny (model (RowW.prog (OpenRow.toRowW (OpenLaw.row Challenge.rw_pb0158_01))) w) { handled := none, depth := dp, frames := some (env :: outer), guards := gd, units := un } (call (.ref 159) [.ref l]) Q E s
theorem ties_spec : TiesSpec := by
  unfold TiesSpec
  k_with_none
  w_top off
  k_fill
  intro w dp un gd env outer A₀ base h₀ L m nx s loose mean mg mb l nl cells Q E B F X N T hf hk hl hrow hlen hca hd hu ret
  have hlen2 : (refs cells).length ≤ 1000 := by simp only [refs, List.length_map]; omega
  have hlr : (refs cells).length = cells.length := by simp [refs]
  refine wpAny_call ?_
  k_dflt (refine' code_def ?k1 ?k2 ?k3 ?k4 ?k5 ?kA ?kF ?kK ?k6 ?k7 ?k8 ?k9 ?kB ?_ ?c2 ?c3 ?c4 ?c5; (case kA => exact rfl); (case kF => assumption); (case kK => assumption); (case k1 => k_asm); (case k2 => k_asm); (case k3 => k_asm); (case k4 => k_asm); (case k5 => k_asm); (case k6 => k_is); (case k7 => k_is); (case k8 => ktr_room); (case k9 => first | exact BindsTo.of_eq rfl | exact binds_K (by k_in) rfl (by k_is) rfl rfl rfl); (case c5 => decide); (case kB => exact locs rfl); (case c2 => exact rfl); (case c3 => exact rfl); (case c4 => exact rfl); k_whole; intro g' L' h' FG' F' N' B' X' T'; (try dsimp only); (try k_fold))
  k_steps
  unfold Stop
  rename_i D _ oD l1 lo _ _ hD _ _ _ _ _ _ _ _ _ hR hF hN hKeep
  refine range_G (n := cells.length) (TiesJ _ w l D cells nx) rfl hR (by rw [hlr]) (by omega) hF hN ⟨rfl, rfl, oD, [], hD, .nil, rfl⟩ ?_ ?_
  · clear hF hN hR hKeep ret
    rintro i t m₁ nx₁ h tk it io hi ⟨m1, m2, o, kvs, hdo, hTV, rfl⟩ hit F₁ N₁
    obtain ⟨u, rfl⟩ := canon2 m1 m2
    obtain ⟨T₁, hT⟩ : ∃ T₁, T₁ = nx ++ [(it, io)] := ⟨_, rfl⟩
    have N₂ : News g' L' h ((D, o) :: T₁) := by
      intro x hx; rw [hT] at hx; exact N₁ x (by simpa using hx)
    clear N₁
    change Fr g' L' h _ at F₁
    dsimp only at F₁
    have hiD : D ≠ it := hit (D, o) (.head _)
    have TD : ∀ y ∈ T₁, y.1 ≠ D := by
      rw [hT]; intro y hy
      rcases List.mem_append.mp hy with hy | hy
      · exact Nat.ne_of_lt (l1 y hy)
      · rw [List.mem_singleton.mp hy]; exact hiD.symm
    have hit' : ∀ o, ∀ y ∈ (D, o) :: nx, y.1 ≠ it := fun o' y hy => by
      rcases List.mem_cons.mp hy with h | h
      · rw [h]; exact hiD
      · exact hit y (.tail _ h)
    have hTs : ∀ y ∈ nx, y ∈ T₁ := fun y hy => hT ▸ List.mem_append_left _ hy
    have hl₁ := hTs _ hl
    have hR₁ : RowIn w.params T₁ cells := fun c hc => ⟨hTs _ (hrow c hc).1, hTs _ (hrow c hc).2.1, (hrow c hc).2.2⟩
    k_steps
    · dsimp only [GPost]
      exact ties_end (by assumption) (by assumption) rfl rfl (by assumption) hTV (by assumption) (tie_none (by assumption) (by assumption)) hT hit'
    · dsimp only [GPost]
      exact ties_end (by assumption) (by assumption) rfl rfl (by assumption) hTV (by assumption) (tie_in (by assumption) (by assumption) (by assumption) (by assumption) (by assumption)) hT hit'
    · dsimp only [GPost]
      exact ties_end (by assumption) (by assumption) rfl rfl (by assumption) hTV (by assumption) (tie_hi (by assumption) (by assumption) (by assumption)) hT hit'
    · dsimp only [GPost]
      exact ties_end (by assumption) (by assumption) rfl rfl (by assumption) hTV (by assumption) (tie_lo (by assumption) (by assumption) (by assumption)) hT hit'
  · rintro m₁ nx₁ h tk ⟨m1, m2, o, kvs, hdo, hTV, rfl⟩ F₁ N₁
    obtain ⟨u, rfl⟩ := canon2 m1 m2
    clear hF hN hR hKeep
    change Fr g' L' h _ at F₁
    change News g' L' h _ at N₁
    k_steps
    exact ret D o kvs _ _ hdo hTV lo l1 (by assumption) (by assumption)
end
end
inductive OT (R : Inf → Obj → Prop) : List (Addr × Obj) → List Inf → Prop
  | nil : OT R [] []
  | cons {a : Addr} {o : Obj} {i : Inf} {ts : List (Addr × Obj)} {is : List Inf} : R i o → OT R ts is → OT R ((a, o) :: ts) (i :: is)
theorem OT.snoc {R : Inf → Obj → Prop} {a : Addr} {o : Obj} {i : Inf} {ts : List (Addr × Obj)} {is : List Inf} (h : OT R ts is) (r : R i o) : OT R (ts ++ [(a, o)]) (is ++ [i]) := by
  induction h with
  | nil => exact .cons r .nil
  | cons x _ ih => exact .cons x ih
theorem OT.length {R : Inf → Obj → Prop} {ts : List (Addr × Obj)} {is : List Inf} (h : OT R ts is) : ts.length = is.length := by
  induction h with
  | nil => rfl
  | cons x _ ih => simp [ih]
theorem OT.reverse {R : Inf → Obj → Prop} {ts : List (Addr × Obj)} {is : List Inf} (h : OT R ts is) : OT R ts.reverse is.reverse := by
  induction h with
  | nil => exact .nil
  | cons x _ ih => simp only [List.reverse_cons]; exact ih.snoc x
def trefs (ts : List (Addr × Obj)) : List Value := ts.map fun p => .ref p.1
theorem take_snoc {cells : List Cell} {i : Nat} {c : Cell} (h : cells[i]? = some c) : (cells.take (i + 1)).map (fun c => c.i) = (cells.take i).map (fun c => c.i) ++ [c.i] := by
  rw [List.take_add_one, h, List.map_append]; rfl
theorem off_of_lt {a : Addr} {T : List (Addr × Obj)} {D C I : Addr} {dO cO iO : Obj} (h : ∀ y ∈ T, y.1 < a) (hd : (D, dO) ∈ T) (hc : (C, cO) ∈ T) (hi : (I, iO) ∈ T) : a ∉ [D, C, I] := by
  simp only [List.mem_cons, List.not_mem_nil, or_false, not_or]
  exact ⟨Nat.ne_of_gt (h _ hd), Nat.ne_of_gt (h _ hc), Nat.ne_of_gt (h _ hi)⟩
section
variable {prog : Program} {w : World} {A : Around} {E : Value → Shared → Prop} {s : Shared} {h₀ : Heap} {L : Addr} {m : Str → Option Value}
theorem tup_at (R : Inf → Obj → Prop) {env : Env} {scope : Scope} {cl : List (Str × Addr)} {x : Str} {elt : Expr} {Fm : Addr → (Str → Option Value) → Str → Option Value} {Q : Addr → Shared → Prop} {l : Addr} {cells : List Cell} {nl : Nat} {nx : List (Addr × Obj)}
    (hh : A.handled = none) (F : Fr h₀ L s.heap m) (N : News h₀ L s.heap nx) (hl : (l, listOf (refs cells).toArray nl) ∈ nx) (hlen : cells.length ≤ 9) (hnd : (nx.map (·.1)).Nodup)
    (helt : ∀ (i : Nat) (c : Cell) s₁ T m₂ C (Q' : Value → Shared → Prop) E', (∃ h tk, s₁ = { s with heap := h, toks := tk }) → cells[i]? = some c → (∀ y ∈ nx, y ∈ T) → Fr h₀ L s₁.heap m → News h₀ L s₁.heap T → s₁.heap.Ns C m₂ → m₂ x = some (.ref c.x) →
      (∀ a o' h' tk', R c.i o' → (∀ y ∈ T, y.1 < a) → Fr h₀ L h' m → News h₀ L h' ((a, o') :: T) → Q' (.ref a) { s₁ with heap := h', toks := tk' }) →
      wpAny (model prog w) A (eval elt (compEnvC scope cl C env)) Q' E' s₁)
    (done : ∀ h' tk D ts k, OT R ts (cells.map fun c => c.i) → (((D, listOf (trefs ts).toArray k) :: (ts ++ nx)).map (·.1)).Nodup → Fr h₀ L h' (Fm D m) → News h₀ L h' ((D, listOf (trefs ts).toArray k) :: (ts ++ nx)) → Q D { s with heap := h', toks := tk }) :
    wpAny (model prog w) A (pyIter (.ref l)) (fun it s₂ => CompAt prog w A h₀ L env scope cl x [] elt Fm Q it s₂) E s := by
  have hrl : (refs cells).length = cells.length := by simp [refs]
  refine comp_list_at (l := l) (vs := refs cells) (nl := nl) (fun i ys nx' => ∃ ts, ys = trefs ts ∧ OT R ts ((cells.take i).map fun c => c.i) ∧ nx' = ts ++ nx ∧ (nx'.map (·.1)).Nodup) hh F N ⟨[], rfl, .nil, rfl, hnd⟩ ?_ (by rw [hrl]; omega) ?_ ?_
  · rintro i ys nx' ⟨ts, _, _, rfl, _⟩
    exact List.mem_append_right _ hl
  · rintro i v ys nx' s₁ m₂ C D I dO cO iO E' hs hv ⟨ts, rfl, hts, rfl, hnd'⟩ hyl hoff hDC hDI hIC F₁ N₁ hns hm
    simp only [refs, List.getElem?_map, Option.map_eq_some_iff] at hv
    obtain ⟨c, hc, rfl⟩ := hv
    refine wpAny_tests_nil ?_
    rw [if_pos rfl]
    refine helt i c s₁ _ m₂ C _ E' hs hc (fun y hy => List.mem_append_left _ (List.mem_append_right _ hy)) F₁ N₁ hns hm ?_
    intro a o' h' tk' hR hlt F' N'
    have hlt' : ∀ y ∈ ts ++ nx, y.1 < a := fun y hy => hlt y (List.mem_append_left _ hy)
    have mm : ∀ y ∈ (ts ++ [(a, o')]) ++ nx, y = (a, o') ∨ y ∈ ts ++ nx := fun y hy => by
      simp only [List.mem_append, List.mem_singleton] at hy ⊢
      rcases hy with (h | h) | h <;> simp [h]
    refine ⟨h', tk', (ts ++ [(a, o')]) ++ nx, _, rfl, F', N', fun y hy => ?_, fun y hy => .tail _ (List.mem_append_right _ hy), fun y hy => ?_, ts ++ [(a, o')], by simp [trefs], ?_, rfl, ?_⟩
    · rcases mm y hy with h | h
      · exact h ▸ .head _
      · exact .tail _ (List.mem_append_left _ h)
    · rcases mm y hy with h | h
      · rw [h]; exact off_of_lt hlt (List.mem_append_right _ (.head _)) (List.mem_append_right _ (.tail _ (.head _))) (List.mem_append_right _ (.tail _ (.tail _ (.head _))))
      · exact hoff y h
    · rw [take_snoc hc]; exact hts.snoc hR
    · have p : ((ts ++ [(a, o')]) ++ nx).Perm ((a, o') :: (ts ++ nx)) := by
        rw [List.append_assoc]; exact List.perm_middle
      refine ((p.map (·.1)).nodup_iff).mpr (List.nodup_cons.mpr ⟨not_in fun y hy => Nat.ne_of_lt (hlt' y hy), hnd'⟩)
  · rintro h' tk D ys nx' k ⟨ts, rfl, hts, rfl, hnd'⟩ hoff F' N'
    rw [hrl, List.take_length] at hts
    exact done h' tk D ts k hts (List.nodup_cons.mpr ⟨not_in hoff, hnd'⟩) F' N'
theorem int_at (f : Inf → Int) {env : Env} {scope : Scope} {cl : List (Str × Addr)} {x : Str} {elt : Expr} {Fm : Addr → (Str → Option Value) → Str → Option Value} {Q : Addr → Shared → Prop} {l : Addr} {cells : List Cell} {nl : Nat} {nx : List (Addr × Obj)}
    (hh : A.handled = none) (F : Fr h₀ L s.heap m) (N : News h₀ L s.heap nx) (hl : (l, listOf (refs cells).toArray nl) ∈ nx) (hlen : cells.length ≤ 9)
    (helt : ∀ (i : Nat) (c : Cell) s₁ T m₂ C (Q' : Value → Shared → Prop) E', (∃ h tk, s₁ = { s with heap := h, toks := tk }) → cells[i]? = some c → (∀ y ∈ nx, y ∈ T) → Fr h₀ L s₁.heap m → News h₀ L s₁.heap T → s₁.heap.Ns C m₂ → m₂ x = some (.ref c.x) →
      (∀ t h' tk', Fr h₀ L h' m → News h₀ L h' T → Q' (.int (f c.i) t) { s₁ with heap := h', toks := tk' }) →
      wpAny (model prog w) A (eval elt (compEnvC scope cl C env)) Q' E' s₁)
    (done : ∀ h' tk D ys k, IntsAre ys (cells.map fun c => f c.i) → (∀ y ∈ nx, y.1 ≠ D) → Fr h₀ L h' (Fm D m) → News h₀ L h' ((D, listOf ys.toArray k) :: nx) → Q D { s with heap := h', toks := tk }) :
    wpAny (model prog w) A (pyIter (.ref l)) (fun it s₂ => CompAt prog w A h₀ L env scope cl x [] elt Fm Q it s₂) E s := by
  have hrl : (refs cells).length = cells.length := by simp [refs]
  refine comp_list_at (l := l) (vs := refs cells) (nl := nl) (fun i ys nx' => IntsAre ys ((cells.take i).map fun c => f c.i) ∧ nx' = nx) hh F N ⟨.nil, rfl⟩ ?_ (by rw [hrl]; omega) ?_ ?_
  · rintro i ys nx' ⟨_, rfl⟩
    exact hl
  · rintro i v ys nx' s₁ m₂ C D I dO cO iO E' hs hv ⟨hys, rfl⟩ hyl hoff hDC hDI hIC F₁ N₁ hns hm
    simp only [refs, List.getElem?_map, Option.map_eq_some_iff] at hv
    obtain ⟨c, hc, rfl⟩ := hv
    refine wpAny_tests_nil ?_
    rw [if_pos rfl]
    refine helt i c s₁ _ m₂ C _ E' hs hc (fun y hy => List.mem_append_left _ hy) F₁ N₁ hns hm ?_
    intro t h' tk' F' N'
    refine ⟨h', tk', nx', _, rfl, F', N', fun y hy => List.mem_append_left _ hy, fun y hy => List.mem_append_right _ hy, hoff, ?_, rfl⟩
    rw [List.take_add_one, hc, List.map_append]
    exact ints_snoc hys
  · rintro h' tk D ys nx' k ⟨hys, rfl⟩ hoff F' N'
    rw [hrl, List.take_length] at hys
    exact done h' tk D ys k hys hoff F' N'
def fieldsData (i : Inf) : PyData := .tuple [.int i.glyph, .int i.cluster, .int i.xa, .int 0, .int i.xo, .int i.yo, .int i.code, .int i.mask, .str i.kind, .bool i.uns, .str i.bond, .int 0, .int 0, .int 0]
def toldData (i : Inf) : PyData := .tuple [.int i.glyph, .int i.cluster, .int i.xa, .int 0, .int i.xo, .int i.yo]
theorem reads_fields {h : Heap} {a : Addr} {i : Inf} {o : Obj} (ho : h.get? a = some o) (hf : FieldsObj i o) : Reads h (.ref a) (fieldsData i) [] := by
  obtain ⟨t0, t1, t2, t3, t4, t5, t6, t7, t8, t10, t11, t12, t13, rfl⟩ := hf
  exact .tuple ho rfl rfl (.cons (.int _ _) (.cons (.int _ _) (.cons (.int _ _) (.cons (.int _ _) (.cons (.int _ _) (.cons (.int _ _) (.cons (.int _ _) (.cons (.int _ _) (.cons (.str _ _) (.cons (.bool _) (.cons (.str _ _) (.cons (.int _ _) (.cons (.int _ _) (.cons (.int _ _) .nil))))))))))))))
theorem reads_told {h : Heap} {a : Addr} {i : Inf} {o : Obj} (ho : h.get? a = some o) (hf : ToldObj i o) : Reads h (.ref a) (toldData i) [] := by
  obtain ⟨t0, t1, t2, t3, t4, t5, rfl⟩ := hf
  exact .tuple ho rfl rfl (.cons (.int _ _) (.cons (.int _ _) (.cons (.int _ _) (.cons (.int _ _) (.cons (.int _ _) (.cons (.int _ _) .nil))))))
theorem reads_all {R : Inf → Obj → Prop} {D : Inf → PyData} {h : Heap} (hr : ∀ a i o, h.get? a = some o → R i o → Reads h (.ref a) (D i) []) {ts : List (Addr × Obj)} {is : List Inf} (ot : OT R ts is) (N : ∀ y ∈ ts, h.get? y.1 = some y.2) : ReadsAll h (trefs ts) (is.map D) [] := by
  induction ot with
  | nil => exact .nil
  | cons r _ ih => exact .cons (hr _ _ _ (N _ (.head _)) r) (ih fun y hy => N y (.tail _ hy))
def Inf.Ok (i : Inf) : Prop := PyData.strOk i.kind = true ∧ PyData.strOk i.bond = true
theorem fields_lay {is : List Inf} (h : ∀ i ∈ is, i.Ok) : PyData.canLayAll0 (is.map fieldsData) = true := by
  induction is with
  | nil => rfl
  | cons i r ih =>
    have h1 := h i (.head _)
    simp only [List.map_cons, PyData.canLayAll0, fieldsData, PyData.canLay0, h1.1, h1.2, Bool.and_true, Bool.true_and]
    exact ih fun i hi => h i (.tail _ hi)
theorem told_lay (is : List Inf) : PyData.canLayAll0 (is.map toldData) = true := by
  induction is with
  | nil => rfl
  | cons i r ih =>
    simp only [List.map_cons, PyData.canLayAll0, toldData, PyData.canLay0, Bool.and_true, Bool.true_and]
    exact ih
theorem fields_depth (is : List Inf) : PyData.depthAll (is.map fieldsData) ≤ 2 := by
  induction is with
  | nil => decide
  | cons i r ih =>
    simp only [List.map_cons, PyData.depthAll, fieldsData, PyData.depth]
    omega
theorem told_depth (is : List Inf) : PyData.depthAll (is.map toldData) ≤ 2 := by
  induction is with
  | nil => decide
  | cons i r ih =>
    simp only [List.map_cons, PyData.depthAll, toldData, PyData.depth]
    omega
theorem fields_shaped {is : List Inf} (h : ∀ i ∈ is, i.Ok) : SeqAt.shaped (.list (is.map fieldsData)) = true := by
  have := fields_depth is
  simp only [SeqAt.shaped, PyData.canLay0, fields_lay h, PyData.depth, Bool.true_and]
  exact decide_eq_true (by omega)
theorem told_shaped (is : List Inf) : SeqAt.shaped (.tuple (is.map toldData)) = true := by
  have := told_depth is
  simp only [SeqAt.shaped, PyData.canLay0, told_lay is, PyData.depth, Bool.true_and]
  exact decide_eq_true (by omega)
end
section
def GlyphsSpec (f : Inf → Int) (a : Addr) : Prop := ∀ (w : World) (dp un : Nat) (gd : Option (List Code)) (env : Env) (outer : List Env) (A₀ : Around) (base h₀ : Heap) (L : Addr) (m : Str → Option Value) (nx : List (Addr × Obj)) (s : Shared)
  (loose : List Str) (mean : ExcName → Option Value) (mg mb : Str → Option Value)
  (bx bd l : Addr) (bo : Obj) (nl : Nat) (cells : List Cell) (Q E : Value → Shared → Prop),
  Below A₀ base outer h₀ → Fr h₀ L s.heap m → (hd.heap_39 w.params).In h₀ →
  News h₀ L s.heap nx → Top hd.view_39 loose mean mg mb h₀ → env.frame = some L → env.scope.kind = .function →
  (bx, instObj 103 bd) ∈ nx → (bd, bo) ∈ nx → BufO w.params l bo → (l, listOf (refs cells).toArray nl) ∈ nx → RowIn w.params nx cells → cells.length ≤ 9 →
  dp + 20 < recursionLimit → un + 200 < cLine →
  (∀ D ys k h' tk', IntsAre ys (cells.map fun c => f c.i) → (∀ y ∈ nx, y.1 ≠ D) → Fr h₀ L h' m → News h₀ L h' ((D, listOf ys.toArray k) :: nx) →
    Q (.ref D) { s with heap := h', toks := tk' }) →
  wpAny (model (RowW.prog (OpenRow.toRowW (OpenLaw.row Challenge.rw_pb0158_01))) w) { handled := none, depth := dp, frames := some (env :: outer), guards := gd, units := un } (call (.ref a) [.ref bx]) Q E s
theorem glyphs_spec : GlyphsSpec (fun i => i.glyph) 76 := by
  unfold GlyphsSpec
  k_with_none
  w_top off
  k_fill
  intro w dp un gd env outer A₀ base h₀ L m nx s loose mean mg mb bx bd l bo nl cells Q E B F X N T hf hk hbx hbd hbo hl hrow hlen hd hu ret
  obtain ⟨k0, k1, k2, k3, t2, t3, n, rfl⟩ := hbo
  refine wpAny_call ?_
  k_dflt (refine' code_def ?k1 ?k2 ?k3 ?k4 ?k5 ?kA ?kF ?kK ?k6 ?k7 ?k8 ?k9 ?kB ?_ ?c2 ?c3 ?c4 ?c5; (case kA => exact rfl); (case kF => assumption); (case kK => assumption); (case k1 => k_asm); (case k2 => k_asm); (case k3 => k_asm); (case k4 => k_asm); (case k5 => k_asm); (case k6 => k_is); (case k7 => k_is); (case k8 => ktr_room); (case k9 => first | exact BindsTo.of_eq rfl | exact binds_K (by k_in) rfl (by k_is) rfl rfl rfl); (case c5 => decide); (case kB => exact locs rfl); (case c2 => exact rfl); (case c3 => exact rfl); (case c4 => exact rfl); k_whole; intro g' L' h' FG' F' N' B' X' T'; (try dsimp only); (try k_fold))
  k_steps
  unfold Stop
  rename_i hF
  refine int_at (fun i => i.glyph) rfl hF N' hl hlen ?_ ?_
  · rintro i c s₁ T₁ m₂ C Q' E' ⟨h, tk, rfl⟩ hc hsub F₁ N₁ hns hm go
    have hr := hrow c (List.mem_of_getElem? hc)
    have h1 := hsub _ hr.1
    have h2 := hsub _ hr.2.1
    have h3 := hr.2.2
    clear hF N'
    dsimp only at hns hm
    k_steps
    exact go _ _ _ F₁ N₁
  · intro h' tk D ys k hys hoff F₁ N₁
    clear hF N'
    change Fr g' L' h' _ at F₁
    k_steps
    exact ret D ys k _ _ hys hoff (by assumption) (by assumption)
theorem clusters_spec : GlyphsSpec (fun i => i.cluster) 81 := by
  unfold GlyphsSpec
  k_with_none
  w_top off
  k_fill
  intro w dp un gd env outer A₀ base h₀ L m nx s loose mean mg mb bx bd l bo nl cells Q E B F X N T hf hk hbx hbd hbo hl hrow hlen hd hu ret
  obtain ⟨k0, k1, k2, k3, t2, t3, n, rfl⟩ := hbo
  refine wpAny_call ?_
  k_dflt (refine' code_def ?k1 ?k2 ?k3 ?k4 ?k5 ?kA ?kF ?kK ?k6 ?k7 ?k8 ?k9 ?kB ?_ ?c2 ?c3 ?c4 ?c5; (case kA => exact rfl); (case kF => assumption); (case kK => assumption); (case k1 => k_asm); (case k2 => k_asm); (case k3 => k_asm); (case k4 => k_asm); (case k5 => k_asm); (case k6 => k_is); (case k7 => k_is); (case k8 => ktr_room); (case k9 => first | exact BindsTo.of_eq rfl | exact binds_K (by k_in) rfl (by k_is) rfl rfl rfl); (case c5 => decide); (case kB => exact locs rfl); (case c2 => exact rfl); (case c3 => exact rfl); (case c4 => exact rfl); k_whole; intro g' L' h' FG' F' N' B' X' T'; (try dsimp only); (try k_fold))
  k_steps
  unfold Stop
  rename_i hF
  refine int_at (fun i => i.cluster) rfl hF N' hl hlen ?_ ?_
  · rintro i c s₁ T₁ m₂ C Q' E' ⟨h, tk, rfl⟩ hc hsub F₁ N₁ hns hm go
    have hr := hrow c (List.mem_of_getElem? hc)
    have h1 := hsub _ hr.1
    have h2 := hsub _ hr.2.1
    have h3 := hr.2.2
    clear hF N'
    dsimp only at hns hm
    k_steps
    exact go _ _ _ F₁ N₁
  · intro h' tk D ys k hys hoff F₁ N₁
    clear hF N'
    change Fr g' L' h' _ at F₁
    k_steps
    exact ret D ys k _ _ hys hoff (by assumption) (by assumption)
end
theorem told_use {w : World} {dp un : Nat} {gd : Option (List Code)} {env : Env} {outer : List Env} {A₀ : Around} {base h₀ : Heap} {L : Addr} {m : Str → Option Value} {nx : List (Addr × Obj)} {s : Shared}
  {loose : List Str} {mean : ExcName → Option Value} {mg mb : Str → Option Value} {x d : Addr} {o : Obj} {i : Inf} {Q E : Value → Shared → Prop}
  (B : Below A₀ base outer h₀) (F : Fr h₀ L s.heap m) (X : (hd.heap_39 w.params).In h₀) (N : News h₀ L s.heap nx) (T : Top hd.view_39 loose mean mg mb h₀) (hf : env.frame = some L) (hk : env.scope.kind = .function)
  (hx : (x, instObj 52 d) ∈ nx) (hd : (d, o) ∈ nx) (ho : InfObj w.params i o) (h1 : dp + 20 < recursionLimit) (h2 : un + 200 < cLine)
  (ret : ∀ a o' h' tk', ToldObj i o' → (∀ y ∈ nx, y.1 < a) → Fr h₀ L h' m → News h₀ L h' ((a, o') :: nx) → Q (.ref a) { s with heap := h', toks := tk' }) :
  wpAny (model (RowW.prog (OpenRow.toRowW (OpenLaw.row Challenge.rw_pb0158_01))) w) { handled := none, depth := dp, frames := some (env :: outer), guards := gd, units := un } (call (.ref 49) [.ref x]) Q E s :=
  told_spec w dp un gd env outer A₀ base h₀ L m nx s loose mean mg mb x d o i Q E B F X N T hf hk hx hd ho h1 h2 ret
theorem fields_use {w : World} {dp un : Nat} {gd : Option (List Code)} {env : Env} {outer : List Env} {A₀ : Around} {base h₀ : Heap} {L : Addr} {m : Str → Option Value} {nx : List (Addr × Obj)} {s : Shared}
  {loose : List Str} {mean : ExcName → Option Value} {mg mb : Str → Option Value} {x d : Addr} {o : Obj} {i : Inf} {Q E : Value → Shared → Prop}
  (B : Below A₀ base outer h₀) (F : Fr h₀ L s.heap m) (X : (hd.heap_39 w.params).In h₀) (N : News h₀ L s.heap nx) (T : Top hd.view_39 loose mean mg mb h₀) (hf : env.frame = some L) (hk : env.scope.kind = .function)
  (hx : (x, instObj 52 d) ∈ nx) (hd : (d, o) ∈ nx) (ho : InfObj w.params i o) (h1 : dp + 20 < recursionLimit) (h2 : un + 200 < cLine)
  (ret : ∀ a o' h' tk', FieldsObj i o' → (∀ y ∈ nx, y.1 < a) → Fr h₀ L h' m → News h₀ L h' ((a, o') :: nx) → Q (.ref a) { s with heap := h', toks := tk' }) :
  wpAny (model (RowW.prog (OpenRow.toRowW (OpenLaw.row Challenge.rw_pb0158_01))) w) { handled := none, depth := dp, frames := some (env :: outer), guards := gd, units := un } (call (.ref 152) [.ref x]) Q E s :=
  fields_spec w dp un gd env outer A₀ base h₀ L m nx s loose mean mg mb x d o i Q E B F X N T hf hk hx hd ho h1 h2 ret
def tupO (vs : List Value) : Obj := { cls := .type "tuple", data := .seq vs.toArray }
section
variable {prog : Program} {w : World} {A : Around} {E : Value → Shared → Prop} {s : Shared} {h₀ : Heap} {L l : Addr} {m : Str → Option Value} {news : List (Addr × Obj)} {n : Nat} {vs : List Value}
theorem tup_my {Q : Value → Shared → Prop} (F : Fr h₀ L s.heap m) (N : News h₀ L s.heap news) (hm : (l, listOf vs.toArray n) ∈ news) (hv : vs.length ≤ 1000)
    (h : ∀ D h', Fr h₀ L h' m → News h₀ L h' ((D, tupO vs) :: news) → (∀ p ∈ news, p.1 < D) → Q (.ref D) { s with heap := h' }) : wpAny (model prog w) A (call (.type "tuple") [.ref l]) Q E s :=
  kde_tupleOf (items := vs.toArray) F N ⟨_, (N _ hm).1, rfl, n, rfl⟩ (by simp only [List.size_toArray]; omega) (by simp) h
end
section
local macro_rules | `(tactic| walk_at "call ref") => `(tactic| (k_here; (with_reducible show wpAny _ _ (call (Value.ref 49) _) _ _ _); k_dflt (refine' told_use ?B ?F ?X ?N ?T ?hf ?hk ?hx ?hd ?ho ?h1 ?h2 ?_; (case B => k_asm); (case F => k_asm); (case X => k_asm); (case N => k_asm); (case T => k_asm); (case hf => exact rfl); (case hk => exact rfl); (case hx => k_mem); (case hd => k_mem); (case ho => assumption); (case h1 => ktr_room); (case h2 => ktr_units)); intro a' o' h' tk' hR' hlt' F' N'))
local macro_rules | `(tactic| walk_at "call type:tuple") => `(tactic| (k_here; (with_reducible show wpAny _ _ (call (Value.type _) [Value.ref _]) _ _ _); k_dflt (refine' tup_my ?F ?N ?m ?v ?_; (case F => k_asm); (case N => k_asm); (case m => k_mem); (case v => assumption)); intro D' h' F' N' l1'))
def BToldSpec : Prop := ∀ (w : World) (dp un : Nat) (gd : Option (List Code)) (env : Env) (outer : List Env) (A₀ : Around) (base h₀ : Heap) (L : Addr) (m : Str → Option Value) (nx : List (Addr × Obj)) (s : Shared)
  (loose : List Str) (mean : ExcName → Option Value) (mg mb : Str → Option Value)
  (bx bd l : Addr) (bo : Obj) (nl : Nat) (cells : List Cell) (Q E : Value → Shared → Prop),
  Below A₀ base outer h₀ → Fr h₀ L s.heap m → (hd.heap_39 w.params).In h₀ →
  News h₀ L s.heap nx → Top hd.view_39 loose mean mg mb h₀ → env.frame = some L → env.scope.kind = .function →
  (bx, instObj 103 bd) ∈ nx → (bd, bo) ∈ nx → BufO w.params l bo → (l, listOf (refs cells).toArray nl) ∈ nx → RowIn w.params nx cells → cells.length ≤ 9 → (nx.map (·.1)).Nodup →
  dp + 50 < recursionLimit → un + 500 < cLine →
  (∀ D ts h' tk', OT ToldObj ts (cells.map fun c => c.i) → (((D, tupO (trefs ts)) :: (ts ++ nx)).map (·.1)).Nodup → Fr h₀ L h' m → News h₀ L h' ((D, tupO (trefs ts)) :: (ts ++ nx)) →
    Q (.ref D) { s with heap := h', toks := tk' }) →
  wpAny (model (RowW.prog (OpenRow.toRowW (OpenLaw.row Challenge.rw_pb0158_01))) w) { handled := none, depth := dp, frames := some (env :: outer), guards := gd, units := un } (call (.ref 86) [.ref bx]) Q E s
theorem btold_end {h₀ h' : Heap} {L D P : Addr} {m : Str → Option Value} {ts nx T₁ : List (Addr × Obj)} {s : Shared} {Q : Value → Shared → Prop} {cells : List Cell} {k tk : Nat}
    (ret : ∀ D ts h' tk', OT ToldObj ts (cells.map fun c => c.i) → (((D, tupO (trefs ts)) :: (ts ++ nx)).map (·.1)).Nodup → Fr h₀ L h' m → News h₀ L h' ((D, tupO (trefs ts)) :: (ts ++ nx)) → Q (.ref D) { s with heap := h', toks := tk' })
    (hot : OT ToldObj ts (cells.map fun c => c.i)) (hT : T₁ = ts ++ nx) (hnd : (((D, listOf (trefs ts).toArray k) :: T₁).map (·.1)).Nodup) (F : Fr h₀ L h' m) (N : News h₀ L h' ((P, tupO (trefs ts)) :: (D, listOf (trefs ts).toArray k) :: T₁))
    (l1 : ∀ p ∈ (D, listOf (trefs ts).toArray k) :: T₁, p.1 < P) : Q (.ref P) { s with heap := h', toks := tk } := by
  subst hT
  refine ret P ts h' tk hot (List.nodup_cons.mpr ⟨not_in fun y hy => Nat.ne_of_lt (l1 y (.tail _ hy)), nodup_tail hnd⟩) F (fun y hy => N y ?_)
  rcases List.mem_cons.mp hy with h | h
  · exact h ▸ .head _
  · exact .tail _ (.tail _ h)
theorem btold_spec : BToldSpec := by
  unfold BToldSpec
  k_with_none
  w_top off
  k_fill
  intro w dp un gd env outer A₀ base h₀ L m nx s loose mean mg mb bx bd l bo nl cells Q E B F X N T hf hk hbx hbd hbo hl hrow hlen hnd hd hu ret
  obtain ⟨k0, k1, k2, k3, t2, t3, n, rfl⟩ := hbo
  refine wpAny_call ?_
  k_dflt (refine' code_def ?k1 ?k2 ?k3 ?k4 ?k5 ?kA ?kF ?kK ?k6 ?k7 ?k8 ?k9 ?kB ?_ ?c2 ?c3 ?c4 ?c5; (case kA => exact rfl); (case kF => assumption); (case kK => assumption); (case k1 => k_asm); (case k2 => k_asm); (case k3 => k_asm); (case k4 => k_asm); (case k5 => k_asm); (case k6 => k_is); (case k7 => k_is); (case k8 => ktr_room); (case k9 => first | exact BindsTo.of_eq rfl | exact binds_K (by k_in) rfl (by k_is) rfl rfl rfl); (case c5 => decide); (case kB => exact locs rfl); (case c2 => exact rfl); (case c3 => exact rfl); (case c4 => exact rfl); k_whole; intro g' L' h' FG' F' N' B' X' T'; (try dsimp only); (try k_fold))
  k_steps
  unfold Stop
  rename_i hF
  refine tup_at ToldObj rfl hF N' hl hlen hnd ?_ ?_
  · rintro i c s₁ T₁ m₂ C Q' E' ⟨h, tk, rfl⟩ hc hsub F₁ N₁ hns hm go
    have hr := hrow c (List.mem_of_getElem? hc)
    have h1 := hsub _ hr.1
    have h2 := hsub _ hr.2.1
    have h3 := hr.2.2
    clear hF N'
    dsimp only at hns hm
    obtain ⟨k0, k1, k2, k3, k4, k5, k6, k7, k8, k9, k10, k11, k12, k13, k14, k15, t0, t1, t2, t3, t5, t6, t7, t8, t9, t10, t11, t12, t13, t14, t15, hco⟩ := h3.1
    rw [hco] at h2 h3
    k_steps
    exact go _ _ _ _ (by assumption) (by assumption) (by assumption) (by assumption)
  · intro h' tk D ts k hot hnd' F₁ N₁
    clear hF N'
    change Fr g' L' h' _ at F₁
    obtain ⟨T₁, hT⟩ : ∃ T₁, T₁ = ts ++ nx := ⟨_, rfl⟩
    rw [← hT] at N₁ hnd'
    have hln : (trefs ts).length ≤ 1000 := by simp only [trefs, List.length_map, hot.length]; omega
    k_steps
    refine btold_end ret hot hT hnd' (by assumption) (by assumption) (by assumption)
end
section
open PyProof.V
theorem key_eq : key = fun c => (c.x, c.d, c.i) := rfl
theorem nkey_eq : nkey = fun c => (c.x, c.d, { c.i with parent := -c.i.parent }) := rfl
def EvenRow (cells cur : List Cell) : Prop := cur.map key = cells.map key
def OddRow (cells cur : List Cell) : Prop := cur.map key = cells.reverse.map nkey
theorem even_self (cells : List Cell) : EvenRow cells cells := rfl
theorem odd_of_even {cells cur cur' : List Cell} (h : EvenRow cells cur) (t : Turned cur cur') : OddRow cells cur' := by
  unfold OddRow
  rw [t, List.map_reverse, List.map_reverse]
  congr 1
  have := congrArg (List.map fun (k : Addr × Addr × Inf) => (k.1, k.2.1, { k.2.2 with parent := -k.2.2.parent })) h
  simpa [key_eq, nkey_eq, Function.comp_def] using this
theorem even_of_odd {cells cur cur' : List Cell} (h : OddRow cells cur) (t : Turned cur cur') : EvenRow cells cur' := by
  unfold EvenRow
  rw [t, List.map_reverse]
  have := congrArg (List.map fun (k : Addr × Addr × Inf) => (k.1, k.2.1, { k.2.2 with parent := -k.2.2.parent })) h
  have h2 : cur.map nkey = cells.reverse.map key := by
    simpa [key_eq, nkey_eq, Function.comp_def] using this
  rw [h2, List.map_reverse, List.reverse_reverse]
theorem even_map {cells cur : List Cell} {α : Type} (f : Inf → α) (h : EvenRow cells cur) : cur.map (fun c => f c.i) = cells.map (fun c => f c.i) := by
  have := congrArg (List.map fun (k : Addr × Addr × Inf) => f k.2.2) h
  simpa [key, Function.comp_def] using this
theorem odd_map {cells cur : List Cell} {α : Type} (f : Inf → α) (hf : ∀ (i : Inf) (p : Int), f { i with parent := p } = f i) (h : OddRow cells cur) : cur.map (fun c => f c.i) = (cells.map (fun c => f c.i)).reverse := by
  have := congrArg (List.map fun (k : Addr × Addr × Inf) => f k.2.2) h
  simpa [key, nkey, Function.comp_def, hf, List.map_reverse] using this
theorem even_len {cells cur : List Cell} (h : EvenRow cells cur) : cur.length = cells.length := by simpa using congrArg List.length h
theorem odd_len {cells cur : List Cell} (h : OddRow cells cur) : cur.length = cells.length := by simpa using congrArg List.length h
theorem odd_at {cells cur : List Cell} (h : OddRow cells cur) {k : Nat} (hk : k < cells.length) : ∃ c c', cur[k]? = some c ∧ cells[cells.length - 1 - k]? = some c' ∧ c.i = { c'.i with parent := -c'.i.parent } := by
  have e := congrArg (fun l => l[k]?) h
  have hk' : k < cur.length := by rw [odd_len h]; exact hk
  simp only [List.getElem?_map, List.getElem?_reverse hk] at e
  have h2 : cells.length - 1 - k < cells.length := by omega
  rw [List.getElem?_eq_getElem hk', List.getElem?_eq_getElem h2] at e
  simp only [Option.map_some, Option.some.injEq, key, nkey, Prod.mk.injEq] at e
  exact ⟨cur[k], cells[cells.length - 1 - k], by simp [hk'], by simp [h2], e.2.2⟩
theorem odd_code {cells cur : List Cell} (h : OddRow cells cur) {k : Nat} (hk : k < cells.length) : codeOf cur k = codeOf cells (cells.length - 1 - k) := by
  obtain ⟨c, c', h1, h2, e⟩ := odd_at h hk
  rw [codeOf_at h1, codeOf_at h2, e]
theorem odd_par {cells cur : List Cell} (h : OddRow cells cur) {k : Nat} (hk : k < cells.length) : parOf cur k = -parOf cells (cells.length - 1 - k) := by
  obtain ⟨c, c', h1, h2, e⟩ := odd_at h hk
  rw [parOf_at h1, parOf_at h2, e]
theorem odd_tie {cells cur : List Cell} (h : OddRow cells cur) {k : Nat} (hk : k < cells.length) : tieAt cur k = tieAt cells (cells.length - 1 - k) := by
  have hp := odd_par h hk
  have hn := odd_len h
  obtain ⟨j, hj⟩ : ∃ j, j = cells.length - 1 - k := ⟨_, rfl⟩
  rw [← hj] at hp ⊢
  unfold tieAt
  rw [hp, hn]
  obtain ⟨p, hpp⟩ : ∃ p, p = parOf cells j := ⟨_, rfl⟩
  rw [← hpp]
  by_cases h0 : p = 0
  · rw [h0]; simp
  · have a1 : ¬ ((k : Int) + -p = (k : Int)) := by omega
    have a2 : ¬ ((j : Int) + p = (j : Int)) := by omega
    rw [if_neg a1, if_neg a2]
    by_cases hr : 0 ≤ (j : Int) + p ∧ (j : Int) + p < (cells.length : Int)
    · have a3 : 0 ≤ (k : Int) + -p ∧ (k : Int) + -p < (cells.length : Int) := by omega
      rw [if_pos a3, if_pos hr]
      have hk2 : ((k : Int) + -p).toNat < cells.length := by omega
      rw [odd_code h hk2]
      congr 2
      omega
    · have a3 : ¬ (0 ≤ (k : Int) + -p ∧ (k : Int) + -p < (cells.length : Int)) := by omega
      rw [if_neg a3, if_neg hr]
theorem odd_ties {cells cur : List Cell} (h : OddRow cells cur) : ∀ p ∈ tiesTo cur cur.length, p ∈ tiesTo cells cells.length := by
  intro p hp
  simp only [tiesTo, List.mem_map, List.mem_range] at hp ⊢
  obtain ⟨k, hk, rfl⟩ := hp
  rw [odd_len h] at hk
  exact ⟨cells.length - 1 - k, by omega, by rw [odd_code h hk, odd_tie h hk]⟩
theorem even_ties {cells cur : List Cell} (h : EvenRow cells cur) : ∀ p ∈ tiesTo cur cur.length, p ∈ tiesTo cells cells.length := by
  have hc : ∀ k, codeOf cur k = codeOf cells k := fun k => by
    have e := congrArg (fun l => l[k]?) (even_map (fun i => i.code) h)
    simp only [List.getElem?_map] at e
    simp only [codeOf, e]
  have hp : ∀ k, parOf cur k = parOf cells k := fun k => by
    have e := congrArg (fun l => l[k]?) (even_map (fun i => i.parent) h)
    simp only [List.getElem?_map] at e
    simp only [parOf, e]
  have ht : ∀ k, tieAt cur k = tieAt cells k := fun k => by
    unfold tieAt
    simp only [hc, hp, even_len h]
  intro p hm
  simp only [tiesTo, List.mem_map, List.mem_range, hc, ht, even_len h] at hm ⊢
  exact hm
theorem tv_find {kb : List (Int × Value)} {q : List (Int × Option Int)} (h : TV kb q) (hn : (kb.map (·.1)).Nodup) {c : Int} {t : Option Int} (hm : (c, t) ∈ q) : ∃ y, valueAt kb c = some y ∧ TieV y t := by
  induction h with
  | nil => cases hm
  | @cons c' v t' r q hv hr ih =>
    rw [List.map_cons, List.nodup_cons] at hn
    rcases List.mem_cons.mp hm with e | hm
    · cases e
      exact ⟨v, by simp [valueAt], hv⟩
    · obtain ⟨y, hy, ht⟩ := ih hn.2 hm
      have hne : c' ≠ c := by
        intro e
        apply hn.1
        rw [e, hr.keys]
        exact List.mem_map.mpr ⟨_, hm, rfl⟩
      refine ⟨y, ?_, ht⟩
      unfold valueAt at hy ⊢
      rw [List.find?_cons_of_neg (by simpa using hne)]
      exact hy
theorem tie_eq {A : Around} {s : Shared} {v y : Value} {t : Option Int} (h : TieV v t) (h' : TieV y t) : SeqAt.EqAt A s v y true := by
  cases t with
  | none =>
    have e1 : v = .none := h
    have e2 : y = .none := h'
    subst e1; subst e2
    have := keq_flat (A := A) (s := s) Flat.none Flat.none
    simpa [PyData.eqv] using this
  | some n =>
    obtain ⟨t1, rfl⟩ := h
    obtain ⟨t2, rfl⟩ := h'
    have := keq_flat (A := A) (s := s) (Flat.int n t1) (Flat.int n t2)
    simpa [PyData.eqv] using this
theorem tv_hits {A : Around} {s : Shared} {ka kb : List (Int × Value)} {qa qb : List (Int × Option Int)} (ha : TV ka qa) (hb : TV kb qb) (hn : (kb.map (·.1)).Nodup) (hs : ∀ p ∈ qa, p ∈ qb) : KeqHits A s kb ka true := by
  induction ha with
  | nil => exact .nil
  | @cons c v t r q hv hr ih =>
    obtain ⟨y, hy, ht⟩ := tv_find hb hn (hs _ (.head _))
    exact KeqHits.hit hy (tie_eq hv ht) (ih fun p hp => hs p (.tail _ hp))
theorem endsP_lt {cs : List Int} {m a : Nat} (hl : cs.length = m + 1) (ha : a < m) : endsP cs a = decide (cs.getD (a + 1) 0 ≠ cs.getD a 0) := by
  have : ¬ a + 1 = cs.length := by omega
  simp [endsP, this]
theorem endsTo_top {cs : List Int} {m : Nat} (hl : cs.length = m + 1) : endsTo cs (m + 1) = endsTo cs m ++ [(m : Int) + 1] := by
  rw [endsTo_succ, if_pos]
  simp [endsP, hl]
theorem getD_reverse {cs : List Int} {b : Nat} (h : b < cs.length) : cs.reverse.getD b 0 = cs.getD (cs.length - 1 - b) 0 := by
  simp only [List.getD, List.getElem?_reverse h]
theorem ends_rev {cs : List Int} {m : Nat} (hl : cs.length = m + 1) : endsTo cs.reverse m = ((endsTo cs m).map fun e => ((m + 1 : Nat) : Int) - e).reverse := by
  unfold endsTo
  rw [List.map_map, ← List.map_reverse, ← List.filter_reverse, ← krv_range, List.filter_map, List.map_map]
  have hf : (List.range m).filter (endsP cs.reverse) = (List.range m).filter ((endsP cs) ∘ fun k => m - 1 - k) := by
    apply List.filter_congr
    intro b hb
    have hb := List.mem_range.mp hb
    rw [endsP_lt (by simp [hl]) hb, Function.comp, endsP_lt hl (by omega), getD_reverse (by omega), getD_reverse (by omega), hl]
    have e1 : m + 1 - 1 - (b + 1) = m - 1 - b := by omega
    have e2 : m + 1 - 1 - b = m - 1 - b + 1 := by omega
    rw [e1, e2]
    exact decide_eq_decide.mpr ⟨fun h => h.symm, fun h => h.symm⟩
  rw [hf]
  apply List.map_congr_left
  intro b hb
  have hb := List.mem_range.mp (List.mem_filter.mp hb).1
  simp only [Function.comp]
  omega
theorem ends_turned {cs : List Int} (h : 0 < cs.length) : endsTo cs.reverse cs.length = ((0 :: (endsTo cs cs.length).dropLast).map fun e => (cs.length : Int) - e).reverse := by
  obtain ⟨m, hm⟩ : ∃ m, cs.length = m + 1 := ⟨cs.length - 1, by omega⟩
  rw [hm, endsTo_top hm, endsTo_top (by simp [hm]), List.dropLast_concat, List.map_cons, List.reverse_cons, ends_rev hm]
  simp
theorem endsTo_sorted (cs : List Int) (n : Nat) : (endsTo cs n).Pairwise (· ≤ ·) := by
  unfold endsTo
  rw [List.pairwise_map]
  refine List.Pairwise.imp (R := (· < ·)) (fun h => by omega) ?_
  exact List.Pairwise.filter _ List.pairwise_lt_range
theorem sorted_ends {cs ns : List Int} (h : 0 < cs.length) (p : ns.Perm ((0 :: (endsTo cs cs.length).dropLast).map fun e => (cs.length : Int) - e)) (o : ns.Pairwise (· ≤ ·)) : ns = endsTo cs.reverse cs.length := by
  refine List.Perm.eq_of_pairwise (le := (· ≤ ·)) (fun a b _ _ h1 h2 => Int.le_antisymm h1 h2) o (endsTo_sorted _ _) ?_
  rw [ends_turned h]
  exact p.trans (List.reverse_perm _).symm
end
section
theorem row_use {w : World} {dp un : Nat} {gd : Option (List Code)} {env : Env} {outer : List Env} {A₀ : Around} {base h₀ : Heap} {L : Addr} {m : Str → Option Value} {nx : List (Addr × Obj)} {s : Shared}
  {loose : List Str} {mean : ExcName → Option Value} {mg mb : Str → Option Value}
  {p q : Addr} {po qo : Obj} {Q E : Value → Shared → Prop}
  (B : Below A₀ base outer h₀) (F : Fr h₀ L s.heap m) (X : (hd.heap_39 w.params).In h₀)
  (N : News h₀ L s.heap ((p, po) :: (q, qo) :: nx)) (T : Top hd.view_39 loose mean mg mb h₀) (hf : env.frame = some L) (hk : env.scope.kind = .function)
  (h1 : PenO q po qo) (h2 : @Ne Nat p q) (h3 : ∀ x ∈ nx, x.1 ≠ p) (h4 : ∀ x ∈ nx, x.1 ≠ q) (h5 : (nx.map (·.1)).Nodup) (h6 : dp + 100 < recursionLimit) (h7 : un + 1000 < cLine)
  (ret : ∀ (r : Addr) (n : Nat) (cells : List Cell) h' tk', (∀ c ∈ cells, InfObj w.params c.i c.o) → (∀ (k : Nat) c, cells[k]? = some c → Inf.code c.i = (97 + (k : Int) : Int)) → cells.length ≤ 9 → (((r, listOf (refs cells).toArray n) :: (led cells ++ nx)).map (·.1)).Nodup → Fr h₀ L h' m → News h₀ L h' ((r, listOf (refs cells).toArray n) :: (led cells ++ nx)) → Q (.ref r) { s with heap := h', toks := tk' }) :
  wpAny (model (RowW.prog (OpenRow.toRowW (OpenLaw.row Challenge.rw_pb0158_01))) w) { handled := none, depth := dp, frames := some (env :: outer), guards := gd, units := un } (call (.ref 145) [.ref p]) Q E s :=
  row_spec w dp un gd env outer A₀ base h₀ L m nx s loose mean mg mb p q po qo Q E B F X N T hf hk h1 h2 h3 h4 h5 h6 h7 ret
theorem ties_use {w : World} {dp un : Nat} {gd : Option (List Code)} {env : Env} {outer : List Env} {A₀ : Around} {base h₀ : Heap} {L : Addr} {m : Str → Option Value} {nx : List (Addr × Obj)} {s : Shared}
  {loose : List Str} {mean : ExcName → Option Value} {mg mb : Str → Option Value}
  {l : Addr} {nl : Nat} {cells : List Cell} {Q E : Value → Shared → Prop}
  (B : Below A₀ base outer h₀) (F : Fr h₀ L s.heap m) (X : (hd.heap_39 w.params).In h₀)
  (N : News h₀ L s.heap nx) (T : Top hd.view_39 loose mean mg mb h₀) (hf : env.frame = some L) (hk : env.scope.kind = .function)
  (h1 : (l, listOf (refs cells).toArray nl) ∈ nx) (h2 : RowIn w.params nx cells) (h3 : cells.length ≤ 9) (h4 : CodesApart cells) (h5 : dp + 20 < recursionLimit) (h6 : un + 200 < cLine)
  (ret : ∀ D o kvs h' tk', Obj.IsDictOf (intKind (RowW.prog (OpenRow.toRowW (OpenLaw.row Challenge.rw_pb0158_01))) w) o kvs → TV kvs (tiesTo cells cells.length) → (D == sysModules) = false → (∀ y ∈ nx, y.1 < D) → Fr h₀ L h' m → News h₀ L h' ((D, o) :: nx) → Q (.ref D) { s with heap := h', toks := tk' }) :
  wpAny (model (RowW.prog (OpenRow.toRowW (OpenLaw.row Challenge.rw_pb0158_01))) w) { handled := none, depth := dp, frames := some (env :: outer), guards := gd, units := un } (call (.ref 159) [.ref l]) Q E s :=
  ties_spec w dp un gd env outer A₀ base h₀ L m nx s loose mean mg mb l nl cells Q E B F X N T hf hk h1 h2 h3 h4 h5 h6 ret
theorem ends_use {w : World} {dp un : Nat} {gd : Option (List Code)} {env : Env} {outer : List Env} {A₀ : Around} {base h₀ : Heap} {L : Addr} {m : Str → Option Value} {nx : List (Addr × Obj)} {s : Shared}
  {loose : List Str} {mean : ExcName → Option Value} {mg mb : Str → Option Value}
  {bx bd l : Addr} {bo : Obj} {nl : Nat} {cells : List Cell} {Q E : Value → Shared → Prop}
  (B : Below A₀ base outer h₀) (F : Fr h₀ L s.heap m) (X : (hd.heap_39 w.params).In h₀)
  (N : News h₀ L s.heap nx) (T : Top hd.view_39 loose mean mg mb h₀) (hf : env.frame = some L) (hk : env.scope.kind = .function)
  (h1 : (bx, instObj 103 bd) ∈ nx) (h2 : (bd, bo) ∈ nx) (h3 : BufO w.params l bo) (h4 : (l, listOf (refs cells).toArray nl) ∈ nx) (h5 : RowIn w.params nx cells) (h6 : cells.length ≤ 9) (h7 : dp + 20 < recursionLimit) (h8 : un + 200 < cLine)
  (ret : ∀ D ys k h' tk', IntsAre ys (endsTo (cells.map fun c => c.i.cluster) cells.length) → (∀ y ∈ nx, y.1 ≠ D) → Fr h₀ L h' m → News h₀ L h' ((D, listOf ys.toArray k) :: nx) → Q (.ref D) { s with heap := h', toks := tk' }) :
  wpAny (model (RowW.prog (OpenRow.toRowW (OpenLaw.row Challenge.rw_pb0158_01))) w) { handled := none, depth := dp, frames := some (env :: outer), guards := gd, units := un } (call (.ref 112) [.ref bx]) Q E s :=
  ends_spec w dp un gd env outer A₀ base h₀ L m nx s loose mean mg mb bx bd l bo nl cells Q E B F X N T hf hk h1 h2 h3 h4 h5 h6 h7 h8 ret
theorem glyphs_use {w : World} {dp un : Nat} {gd : Option (List Code)} {env : Env} {outer : List Env} {A₀ : Around} {base h₀ : Heap} {L : Addr} {m : Str → Option Value} {nx : List (Addr × Obj)} {s : Shared}
  {loose : List Str} {mean : ExcName → Option Value} {mg mb : Str → Option Value}
  {bx bd l : Addr} {bo : Obj} {nl : Nat} {cells : List Cell} {Q E : Value → Shared → Prop}
  (B : Below A₀ base outer h₀) (F : Fr h₀ L s.heap m) (X : (hd.heap_39 w.params).In h₀)
  (N : News h₀ L s.heap nx) (T : Top hd.view_39 loose mean mg mb h₀) (hf : env.frame = some L) (hk : env.scope.kind = .function)
  (h1 : (bx, instObj 103 bd) ∈ nx) (h2 : (bd, bo) ∈ nx) (h3 : BufO w.params l bo) (h4 : (l, listOf (refs cells).toArray nl) ∈ nx) (h5 : RowIn w.params nx cells) (h6 : cells.length ≤ 9) (h7 : dp + 20 < recursionLimit) (h8 : un + 200 < cLine)
  (ret : ∀ D ys k h' tk', IntsAre ys (cells.map fun c => c.i.glyph) → (∀ y ∈ nx, y.1 ≠ D) → Fr h₀ L h' m → News h₀ L h' ((D, listOf ys.toArray k) :: nx) → Q (.ref D) { s with heap := h', toks := tk' }) :
  wpAny (model (RowW.prog (OpenRow.toRowW (OpenLaw.row Challenge.rw_pb0158_01))) w) { handled := none, depth := dp, frames := some (env :: outer), guards := gd, units := un } (call (.ref 76) [.ref bx]) Q E s :=
  glyphs_spec w dp un gd env outer A₀ base h₀ L m nx s loose mean mg mb bx bd l bo nl cells Q E B F X N T hf hk h1 h2 h3 h4 h5 h6 h7 h8 ret
theorem clusters_use {w : World} {dp un : Nat} {gd : Option (List Code)} {env : Env} {outer : List Env} {A₀ : Around} {base h₀ : Heap} {L : Addr} {m : Str → Option Value} {nx : List (Addr × Obj)} {s : Shared}
  {loose : List Str} {mean : ExcName → Option Value} {mg mb : Str → Option Value}
  {bx bd l : Addr} {bo : Obj} {nl : Nat} {cells : List Cell} {Q E : Value → Shared → Prop}
  (B : Below A₀ base outer h₀) (F : Fr h₀ L s.heap m) (X : (hd.heap_39 w.params).In h₀)
  (N : News h₀ L s.heap nx) (T : Top hd.view_39 loose mean mg mb h₀) (hf : env.frame = some L) (hk : env.scope.kind = .function)
  (h1 : (bx, instObj 103 bd) ∈ nx) (h2 : (bd, bo) ∈ nx) (h3 : BufO w.params l bo) (h4 : (l, listOf (refs cells).toArray nl) ∈ nx) (h5 : RowIn w.params nx cells) (h6 : cells.length ≤ 9) (h7 : dp + 20 < recursionLimit) (h8 : un + 200 < cLine)
  (ret : ∀ D ys k h' tk', IntsAre ys (cells.map fun c => c.i.cluster) → (∀ y ∈ nx, y.1 ≠ D) → Fr h₀ L h' m → News h₀ L h' ((D, listOf ys.toArray k) :: nx) → Q (.ref D) { s with heap := h', toks := tk' }) :
  wpAny (model (RowW.prog (OpenRow.toRowW (OpenLaw.row Challenge.rw_pb0158_01))) w) { handled := none, depth := dp, frames := some (env :: outer), guards := gd, units := un } (call (.ref 81) [.ref bx]) Q E s :=
  clusters_spec w dp un gd env outer A₀ base h₀ L m nx s loose mean mg mb bx bd l bo nl cells Q E B F X N T hf hk h1 h2 h3 h4 h5 h6 h7 h8 ret
theorem btold_use {w : World} {dp un : Nat} {gd : Option (List Code)} {env : Env} {outer : List Env} {A₀ : Around} {base h₀ : Heap} {L : Addr} {m : Str → Option Value} {nx : List (Addr × Obj)} {s : Shared}
  {loose : List Str} {mean : ExcName → Option Value} {mg mb : Str → Option Value}
  {bx bd l : Addr} {bo : Obj} {nl : Nat} {cells : List Cell} {Q E : Value → Shared → Prop}
  (B : Below A₀ base outer h₀) (F : Fr h₀ L s.heap m) (X : (hd.heap_39 w.params).In h₀)
  (N : News h₀ L s.heap nx) (T : Top hd.view_39 loose mean mg mb h₀) (hf : env.frame = some L) (hk : env.scope.kind = .function)
  (h1 : (bx, instObj 103 bd) ∈ nx) (h2 : (bd, bo) ∈ nx) (h3 : BufO w.params l bo) (h4 : (l, listOf (refs cells).toArray nl) ∈ nx) (h5 : RowIn w.params nx cells) (h6 : cells.length ≤ 9) (h7 : (nx.map (·.1)).Nodup) (h8 : dp + 50 < recursionLimit) (h9 : un + 500 < cLine)
  (ret : ∀ D ts h' tk', OT ToldObj ts (cells.map fun c => c.i) → (((D, tupO (trefs ts)) :: (ts ++ nx)).map (·.1)).Nodup → Fr h₀ L h' m → News h₀ L h' ((D, tupO (trefs ts)) :: (ts ++ nx)) → Q (.ref D) { s with heap := h', toks := tk' }) :
  wpAny (model (RowW.prog (OpenRow.toRowW (OpenLaw.row Challenge.rw_pb0158_01))) w) { handled := none, depth := dp, frames := some (env :: outer), guards := gd, units := un } (call (.ref 86) [.ref bx]) Q E s :=
  btold_spec w dp un gd env outer A₀ base h₀ L m nx s loose mean mg mb bx bd l bo nl cells Q E B F X N T hf hk h1 h2 h3 h4 h5 h6 h7 h8 h9 ret
theorem turn_use {w : World} {dp un : Nat} {gd : Option (List Code)} {env : Env} {outer : List Env} {A₀ : Around} {base h₀ : Heap} {L : Addr} {m : Str → Option Value} {nx : List (Addr × Obj)} {s : Shared}
  {loose : List Str} {mean : ExcName → Option Value} {mg mb : Str → Option Value}
  {bx bd l : Addr} {bo : Obj} {nl : Nat} {cells : List Cell} {Q E : Value → Shared → Prop}
  (B : Below A₀ base outer h₀) (F : Fr h₀ L s.heap m) (X : (hd.heap_39 w.params).In h₀)
  (N : News h₀ L s.heap ((l, listOf (refs cells).toArray nl) :: (led cells ++ nx))) (T : Top hd.view_39 loose mean mg mb h₀) (hf : env.frame = some L) (hk : env.scope.kind = .function)
  (h1 : (bx, instObj 103 bd) ∈ nx) (h2 : (bd, bo) ∈ nx) (h3 : BufO w.params l bo) (h4 : ∀ c ∈ cells, InfObj w.params c.i c.o) (h5 : (((l, listOf (refs cells).toArray nl) :: (led cells ++ nx)).map (·.1)).Nodup) (h6 : cells.length ≤ 9) (h7 : dp + 20 < recursionLimit) (h8 : un + 200 < cLine)
  (ret : ∀ cells' nl' h' tk', Turned cells cells' → (∀ c ∈ cells', InfObj w.params c.i c.o) → (((l, listOf (refs cells').toArray nl') :: (led cells' ++ nx)).map (·.1)).Nodup → Fr h₀ L h' m → News h₀ L h' ((l, listOf (refs cells').toArray nl') :: (led cells' ++ nx)) → Q .none { s with heap := h', toks := tk' }) :
  wpAny (model (RowW.prog (OpenRow.toRowW (OpenLaw.row Challenge.rw_pb0158_01))) w) { handled := none, depth := dp, frames := some (env :: outer), guards := gd, units := un } (call (.ref 119) [.ref bx]) Q E s :=
  turn_spec w dp un gd env outer A₀ base h₀ L m nx s loose mean mg mb bx bd l bo nl cells Q E B F X N T hf hk h1 h2 h3 h4 h5 h6 h7 h8 ret
theorem rowIn_up {P : Params} {T nx : List (Addr × Obj)} {cells : List Cell} (h : RowIn P T cells) (s : ∀ y ∈ T, y ∈ nx) : RowIn P nx cells := fun c hc => ⟨s _ (h c hc).1, s _ (h c hc).2.1, (h c hc).2.2⟩
theorem nd_cons {a : Addr} {o : Obj} {l : List (Addr × Obj)} (h : ∀ y ∈ l, y.1 ≠ a) (n : (l.map (·.1)).Nodup) : (((a, o) :: l).map (·.1)).Nodup := List.nodup_cons.mpr ⟨not_in h, n⟩
theorem ne_of_lts {a : Addr} {l : List (Addr × Obj)} (h : ∀ y ∈ l, y.1 < a) : ∀ y ∈ l, y.1 ≠ a := fun y hy => Nat.ne_of_lt (h y hy)
theorem codes_apart {cells : List Cell} (h : ∀ (k : Nat) c, cells[k]? = some c → Inf.code c.i = (97 + (k : Int) : Int)) : CodesApart cells := by
  intro i j ci cj hi hj e
  rw [h i ci hi, h j cj hj] at e
  omega
theorem rowIn_of {P : Params} {T : List (Addr × Obj)} {cells : List Cell} (h : ∀ c ∈ cells, InfObj P c.i c.o) (s : ∀ y ∈ led cells, y ∈ T) : RowIn P T cells := fun c hc => ⟨s _ (led_mem_x hc), s _ (led_mem_d hc), h c hc⟩
theorem split3 {T₁ : List (Addr × Obj)} {a b c : Addr × Obj} (h : ((T₁ ++ [a, b, c]).map (·.1)).Nodup) : (∀ y ∈ T₁, y.1 ≠ b.1) ∧ (∀ y ∈ T₁, y.1 ≠ c.1) ∧ (T₁.map (·.1)).Nodup := by
  rw [List.map_append, List.nodup_append] at h
  refine ⟨fun y hy => h.2.2 _ (List.mem_map_of_mem hy) _ (by simp), fun y hy => h.2.2 _ (List.mem_map_of_mem hy) _ (by simp), h.1⟩
theorem regroup3 {h₀ h : Heap} {L : Addr} {T₁ : List (Addr × Obj)} {a b c : Addr × Obj} (N : News h₀ L h (T₁ ++ [a, b, c])) : News h₀ L h (b :: c :: T₁) := fun y hy => N y (by
  simp only [List.mem_cons, List.mem_append, List.not_mem_nil, or_false] at hy ⊢
  rcases hy with h | h | h <;> simp [h])
theorem nodup_ev {h₀ h : Heap} {L : Addr} {l : List (Addr × Obj)} (uN : News h₀ L h l) (n : (l.map (·.1)).Nodup) : (l.map (·.1)).Nodup := n
theorem regroupA {h₀ h : Heap} {L : Addr} {tmp X D Lc C2 C1 R : Addr × Obj} {M : List (Addr × Obj)} (N : News h₀ L h (tmp :: X :: D :: Lc :: C2 :: C1 :: (R :: M))) (n : ((tmp :: X :: D :: Lc :: C2 :: C1 :: (R :: M)).map (·.1)).Nodup) :
    ∃ K, X ∈ K ∧ D ∈ K ∧ C2 ∈ K ∧ C1 ∈ K ∧ R ∈ K ∧ News h₀ L h (Lc :: (M ++ K)) ∧ ((Lc :: (M ++ K)).map (·.1)).Nodup := by
  refine ⟨[X, D, C2, C1, R], by simp, by simp, by simp, by simp, by simp, fun y hy => N y ?_, ?_⟩
  · simp only [List.mem_cons, List.mem_append, List.not_mem_nil, or_false] at hy ⊢
    rcases hy with h | h | h | h | h | h | h <;> simp [h]
  · have n1 := nodup_tail n
    have p : List.Perm (Lc :: (M ++ [X, D, C2, C1, R])) (X :: D :: Lc :: C2 :: C1 :: (R :: M)) := by
      have a : List.Perm (Lc :: (M ++ [X, D, C2, C1, R])) (Lc :: ([X, D, C2, C1, R] ++ M)) := (List.perm_append_comm).cons _
      have b : List.Perm (Lc :: X :: D :: (C2 :: C1 :: R :: M)) (X :: D :: Lc :: (C2 :: C1 :: R :: M)) := (List.perm_append_comm (l₁ := [Lc]) (l₂ := [X, D])).append_right (C2 :: C1 :: R :: M)
      exact a.trans b
    exact ((p.map (·.1)).nodup_iff).mpr n1
theorem regroupB {h₀ h : Heap} {L : Addr} {Lc : Addr × Obj} {pre M K : List (Addr × Obj)} (N : News h₀ L h (pre ++ (Lc :: (M ++ K)))) (n : ((pre ++ (Lc :: (M ++ K))).map (·.1)).Nodup) :
    ∃ K', (∀ y ∈ pre, y ∈ K') ∧ (∀ y ∈ K, y ∈ K') ∧ News h₀ L h (Lc :: (M ++ K')) ∧ ((Lc :: (M ++ K')).map (·.1)).Nodup := by
  refine ⟨pre ++ K, fun y hy => List.mem_append_left _ hy, fun y hy => List.mem_append_right _ hy, fun y hy => N y ?_, ?_⟩
  · simp only [List.mem_cons, List.mem_append] at hy ⊢
    rcases hy with h | h | h | h <;> simp [h]
  · have p : List.Perm (Lc :: (M ++ (pre ++ K))) (pre ++ (Lc :: (M ++ K))) := by
      have a : List.Perm ((Lc :: M) ++ (pre ++ K)) ((pre ++ (Lc :: M)) ++ K) := by
        rw [← List.append_assoc]; exact (List.perm_append_comm).append_right K
      simpa using a
    exact ((p.map (·.1)).nodup_iff).mpr n
theorem regroupC {h₀ h : Heap} {L : Addr} {P E D Lc : Addr × Obj} {ps M K : List (Addr × Obj)} (N : News h₀ L h (P :: (ps ++ (E :: D :: (Lc :: (M ++ K)))))) (n : ((P :: (ps ++ (E :: D :: (Lc :: (M ++ K))))).map (·.1)).Nodup) :
    ∃ K', P ∈ K' ∧ (∀ y ∈ ps, y ∈ K') ∧ E ∈ K' ∧ D ∈ K' ∧ (∀ y ∈ K, y ∈ K') ∧ News h₀ L h (Lc :: (M ++ K')) ∧ ((Lc :: (M ++ K')).map (·.1)).Nodup := by
  have e : P :: (ps ++ (E :: D :: (Lc :: (M ++ K)))) = (P :: (ps ++ [E, D])) ++ (Lc :: (M ++ K)) := by simp
  rw [e] at N n
  obtain ⟨K', h1, h2, h3, h4⟩ := regroupB N n
  exact ⟨K', h1 _ (by simp), fun y hy => h1 _ (by simp [hy]), h1 _ (by simp), h1 _ (by simp), h2, h3, h4⟩
theorem endsP_ne2 {cells : List Cell} {i : Nat} {c1 c2 : Cell} (h : c1.i.cluster ≠ c2.i.cluster) (h1 : cells[((i : Nat) : Int).toNat]? = some c1) (h2 : cells[(((i : Nat) : Int) + 1).toNat]? = some c2) : endsP (cells.map fun c => c.i.cluster) i = true :=
  endsP_ne h2 h1 (Ne.symm h)
theorem endsP_eq2 {cells : List Cell} {i : Nat} {c1 c2 : Cell} (h : c1.i.cluster = c2.i.cluster) (hl : ((i : Nat) : Int) + 1 ≠ ((refs cells).length : Int)) (h1 : cells[((i : Nat) : Int).toNat]? = some c1) (h2 : cells[(((i : Nat) : Int) + 1).toNat]? = some c2) : endsP (cells.map fun c => c.i.cluster) i = false :=
  endsP_eq hl h2 h1 h.symm
theorem regroupD {h₀ h : Heap} {L : Addr} {Lc : Addr × Obj} {it : Addr} {io : Obj} {M K : List (Addr × Obj)} (N : News h₀ L h ((Lc :: (M ++ K)) ++ [(it, io)])) (n : ((Lc :: (M ++ K)).map (·.1)).Nodup) (hit : ∀ p ∈ Lc :: (M ++ K), p.1 ≠ it) :
    ∃ K', (it, io) ∈ K' ∧ (∀ y ∈ K, y ∈ K') ∧ News h₀ L h (Lc :: (M ++ K')) ∧ ((Lc :: (M ++ K')).map (·.1)).Nodup := by
  obtain ⟨K', h1, h2, h3, h4⟩ := regroupB (pre := [(it, io)]) (M := M) (K := K) (Lc := Lc) (fun y hy => N y (by
    rcases List.mem_append.mp hy with h | h
    · exact List.mem_append_right _ h
    · exact List.mem_append_left _ h)) (nd_cons hit n)
  exact ⟨K', h1 _ (.head _), h2, h3, h4⟩
theorem letterN {h₀ h : Heap} {L : Addr} {l : List (Addr × Obj)} (N : News h₀ L h l) (n : (l.map (·.1)).Nodup) : ∃ T, T = l ∧ News h₀ L h T ∧ (T.map (·.1)).Nodup := ⟨l, rfl, N, n⟩
theorem mem_of_letter {T M : List (Addr × Obj)} {a : Addr × Obj} (h : T = a :: M) : a ∈ T := h ▸ .head _
theorem bufO_of {K : List (Addr × Obj)} {d : Addr} {o : Obj} {P : Params} {l : Addr} (um : (d, o) ∈ K) (h : BufO P l o) : BufO P l o := h
section
variable {prog : Program} {w : World} {A : Around} {E : Value → Shared → Prop} {s : Shared} {h₀ : Heap} {L l : Addr} {m : Str → Option Value} {news : List (Addr × Obj)} {n : Nat} {vs : List Value}
theorem copy_my {Q : Value → Shared → Prop} (F : Fr h₀ L s.heap m) (N : News h₀ L s.heap news) (hm : (l, listOf vs.toArray n) ∈ news) (hv : vs.length ≤ 1000)
    (h : ∀ D c h', Fr h₀ L h' m → News h₀ L h' ((D, listOf vs.toArray c) :: news) → (∀ q ∈ news, q.1 < D) → Q (.ref D) { s with heap := h' }) : wpAny (model prog w) A (call (.type "list") [.ref l]) Q E s :=
  list_copyK F N ⟨_, (N _ hm).1, rfl, n, rfl⟩ h (by rw [PySem.sizeLine_eq]; simp only [List.size_toArray]; omega)
theorem ne_same {a b : Addr} {us : List Value} {ns : List Int} {k k' : Nat} {Q : Value → Shared → Prop} (N : News h₀ L s.heap news) (h1 : (a, listOf vs.toArray k) ∈ news) (h2 : (b, listOf us.toArray k') ∈ news) (i1 : IntsAre vs ns) (i2 : IntsAre us ns) (hu : A.units + 64 < cLine)
    (h : Q (.bool false) s) : wpAny (model prog w) A (compareOp .NotEq (.ref a) (.ref b)) Q E s := by
  refine ke_ne_ints ⟨_, (N _ h1).1, rfl, k, rfl⟩ ⟨_, (N _ h2).1, rfl, k', rfl⟩ i1 i2 hu ?_
  simpa using h
end
open PyProof.V
theorem canon5 {m : Str → Option Value} {a b c d e : Str} {va vb vc vd ve : Option Value} (ha : m a = va) (hb : m b = vb) (hc : m c = vc) (hd : m d = vd) (he : m e = ve) :
    ∃ u : Str → Option Value, m = fun y => if y = a then va else if y = b then vb else if y = c then vc else if y = d then vd else if y = e then ve else u y := by
  refine ⟨m, ?_⟩
  funext y
  by_cases h1 : y = a
  · simp [h1, ha]
  by_cases h2 : y = b
  · subst h2; simp [h1, hb]
  by_cases h3 : y = c
  · subst h3; simp [h1, h2, hc]
  by_cases h4 : y = d
  · subst h4; simp [h1, h2, h3, hd]
  by_cases h5 : y = e
  · subst h5; simp [h1, h2, h3, h4, he]
  simp [h1, h2, h3, h4, h5]
def Par (k : Nat) (cells cur : List Cell) : Prop := (k % 2 = 0 → EvenRow cells cur) ∧ (k % 2 = 1 → OddRow cells cur)
def LawJ (P : Params) (cells : List Cell) (K : List (Addr × Obj)) (bx fD tD eD pD l : Addr) (k : Nat) (m : Str → Option Value) (nx : List (Addr × Obj)) : Prop :=
  m "buffer" = some (.ref bx) ∧ m "fields" = some (.ref fD) ∧ m "ties" = some (.ref tD) ∧ m "ends" = some (.ref eD) ∧ m "first_told" = some (.ref pD) ∧
  ∃ cur nl, Par k cells cur ∧ (∀ c ∈ cur, InfObj P c.i c.o) ∧ nx = (l, listOf (refs cur).toArray nl) :: (led cur ++ K) ∧ (nx.map (·.1)).Nodup
theorem par_turn {k : Nat} {cells cur cur' : List Cell} (h : Par k cells cur) (t : Turned cur cur') : Par (k + 1) cells cur' := by
  refine ⟨fun e => even_of_odd (h.2 (by omega)) t, fun e => odd_of_even (h.1 (by omega)) t⟩
theorem par_len {k : Nat} {cells cur : List Cell} (h : Par k cells cur) : cur.length = cells.length := by
  rcases Nat.mod_two_eq_zero_or_one k with e | e
  · exact even_len (h.1 e)
  · exact odd_len (h.2 e)
section
variable {prog : Program} {w : World} {A : Around} {E : Value → Shared → Prop} {s : Shared}
theorem mod_two {a r : Int} {t u : Tok} {Q : Value → Shared → Prop} (h : a.fmod 2 = r) (go : Q (.int r s.toks) { s with toks := s.toks + 1 }) : wpAny (model prog w) A (binaryOp .Mod (.int a t) (.int 2 u)) Q E s := by
  exact mod_int' (by decide) (by rw [h]; exact go)
end
theorem codes_cur {k : Nat} {cells cur : List Cell} (h : Par k cells cur) (hc : CodesApart cells) : CodesApart cur := by
  intro i j ci cj hi hj e
  have li := (List.getElem?_eq_some_iff.mp hi).1
  have lj := (List.getElem?_eq_some_iff.mp hj).1
  have hl := par_len h
  rcases Nat.mod_two_eq_zero_or_one k with ev | od
  · have hm := even_map (fun i => i.code) (h.1 ev)
    have gi := congrArg (fun l => l[i]?) hm
    have gj := congrArg (fun l => l[j]?) hm
    simp only [List.getElem?_map, hi, hj, Option.map_some] at gi gj
    rw [hl] at li lj
    rw [List.getElem?_eq_getElem li] at gi
    rw [List.getElem?_eq_getElem lj] at gj
    simp only [Option.map_some, Option.some.injEq] at gi gj
    exact hc i j _ _ (List.getElem?_eq_getElem li) (List.getElem?_eq_getElem lj) (by rw [← gi, ← gj]; exact e)
  · rw [hl] at li lj
    obtain ⟨a, a', h1, h2, h3⟩ := odd_at (h.2 od) li
    obtain ⟨b, b', g1, g2, g3⟩ := odd_at (h.2 od) lj
    rw [hi] at h1; cases h1
    rw [hj] at g1; cases g1
    rw [h3, g3] at e
    have := hc _ _ _ _ h2 g2 e
    omega
section
variable {prog : Program} {w : World} {A : Around} {E : Value → Shared → Prop} {s : Shared} {h₀ : Heap} {L a b : Addr} {news : List (Addr × Obj)} {k k' : Nat} {Q : Value → Shared → Prop}
theorem ok_of {P : Params} {cells : List Cell} (h : ∀ c ∈ cells, InfObj P c.i c.o) : ∀ i ∈ cells.map (fun c => c.i), i.Ok := fun i hi => by
  obtain ⟨c, hc, rfl⟩ := List.mem_map.mp hi
  exact (h c hc).2
theorem ne_fields {ts us : List (Addr × Obj)} {is js : List Inf} (N : News h₀ L s.heap news) (h1 : (a, listOf (trefs ts).toArray k) ∈ news) (h2 : (b, listOf (trefs us).toArray k') ∈ news) (o1 : OT FieldsObj ts is) (o2 : OT FieldsObj us js)
    (s1 : ∀ y ∈ ts, y ∈ news) (s2 : ∀ y ∈ us, y ∈ news) (ok : ∀ i ∈ js, i.Ok) (e : is.map fieldsData = js.map fieldsData) (hu : A.units + 64 < cLine) (h : Q (.bool false) s) : wpAny (model prog w) A (compareOp .NotEq (.ref a) (.ref b)) Q E s := by
  have r1 : Reads s.heap (.ref a) (.list (is.map fieldsData)) _ := reads_list_at (N _ h1).1 rfl rfl (by simpa using reads_all (fun _ _ _ g1 g2 => reads_fields g1 g2) o1 fun y hy => (N _ (s1 y hy)).1)
  have r2 : Reads s.heap (.ref b) (.list (js.map fieldsData)) _ := reads_list_at (N _ h2).1 rfl rfl (by simpa using reads_all (fun _ _ _ g1 g2 => reads_fields g1 g2) o2 fun y hy => (N _ (s2 y hy)).1)
  rw [e] at r1
  refine ne_dataH r1 r2 (fields_shaped ok) (fields_shaped ok) hu ?_
  rw [PySem.SeqAt.eqv_refl _ (SeqAt.canLay_of_shaped (fields_shaped ok))]
  exact h
theorem ne_told {ts us : List (Addr × Obj)} {is js : List Inf} (N : News h₀ L s.heap news) (h1 : (a, tupO (trefs ts)) ∈ news) (h2 : (b, tupO (trefs us)) ∈ news) (o1 : OT ToldObj ts is) (o2 : OT ToldObj us js)
    (s1 : ∀ y ∈ ts, y ∈ news) (s2 : ∀ y ∈ us, y ∈ news) (e : is.map toldData = js.map toldData) (hu : A.units + 64 < cLine) (h : Q (.bool false) s) : wpAny (model prog w) A (compareOp .NotEq (.ref a) (.ref b)) Q E s := by
  have r1 : Reads s.heap (.ref a) (.tuple (is.map toldData)) _ := reads_tuple_at (N _ h1).1 rfl rfl (by simpa using reads_all (fun _ _ _ g1 g2 => reads_told g1 g2) o1 fun y hy => (N _ (s1 y hy)).1)
  have r2 : Reads s.heap (.ref b) (.tuple (js.map toldData)) _ := reads_tuple_at (N _ h2).1 rfl rfl (by simpa using reads_all (fun _ _ _ g1 g2 => reads_told g1 g2) o2 fun y hy => (N _ (s2 y hy)).1)
  rw [e] at r1
  refine ne_dataH r1 r2 (told_shaped js) (told_shaped js) hu ?_
  rw [PySem.SeqAt.eqv_refl _ (SeqAt.canLay_of_shaped (told_shaped js))]
  exact h
theorem ne_ties {oa ob : Obj} {ka kb : List (Int × Value)} {qa qb : List (Int × Option Int)} (N : News h₀ L s.heap news) (h1 : (a, oa) ∈ news) (h2 : (b, ob) ∈ news) (d1 : oa.IsDictOf (intKind prog w) ka) (d2 : ob.IsDictOf (intKind prog w) kb)
    (t1 : TV ka qa) (t2 : TV kb qb) (l1 : (a == sysModules) = false) (l2 : (b == sysModules) = false) (hs : ∀ p ∈ qa, p ∈ qb) (hl : qa.length = qb.length) (hu : A.units < cLine) (h : Q (.bool false) s) : wpAny (model prog w) A (compareOp .NotEq (.ref a) (.ref b)) Q E s := by
  have hn : (kb.map (·.1)).Nodup := by obtain ⟨_, _, _, _, _, _, hn⟩ := d2; exact hn
  refine keq_ne (knd := intKind prog w) l1 l2 (kda_dict N h1 d1) (kda_dict N h2 d2) hu (fun _ => tv_hits t1 t2 hn hs) ?_
  rw [t1.length, t2.length, hl]
  simpa using h
theorem ints_append {vs us : List Value} {ns ms : List Int} (h : IntsAre vs ns) (g : IntsAre us ms) : IntsAre (vs ++ us) (ns ++ ms) := by
  induction h with
  | nil => exact g
  | cons n t r ih => exact .cons n t ih
theorem ne_ints {us vs : List Value} {ns ms : List Int} (N : News h₀ L s.heap news) (h1 : (a, listOf vs.toArray k) ∈ news) (h2 : (b, listOf us.toArray k') ∈ news) (i1 : IntsAre vs ns) (i2 : IntsAre us ms) (e : ns = ms) (hu : A.units + 64 < cLine)
    (h : Q (.bool false) s) : wpAny (model prog w) A (compareOp .NotEq (.ref a) (.ref b)) Q E s := by
  subst e
  exact ne_same N h1 h2 i1 i2 hu h
theorem eq_ints {us vs : List Value} {ns ms : List Int} (N : News h₀ L s.heap news) (h1 : (a, listOf vs.toArray k) ∈ news) (h2 : (b, listOf us.toArray k') ∈ news) (i1 : IntsAre vs ns) (i2 : IntsAre us ms) (e : ns = ms) (hu : A.units + 64 < cLine)
    (h : Q (.bool true) s) : wpAny (model prog w) A (compareOp .Eq (.ref a) (.ref b)) Q E s := by
  subst e
  refine ke_eq_ints ⟨_, (N _ h1).1, rfl, k, rfl⟩ ⟨_, (N _ h2).1, rfl, k', rfl⟩ i1 i2 hu ?_
  simpa using h
theorem rev_my {m : Str → Option Value} {l : Addr} {ts : List (Addr × Obj)} {n : Nat} {vk : Value} {value slice : PySem.Expr} {ops : List Value} (F : Fr h₀ L s.heap m) (N : News h₀ L s.heap news) (hm : (l, listOf (trefs ts).toArray n) ∈ news) (pk : IsPart vk (some (-1))) (hz : ts.length ≤ 1000)
    (h : ∀ D h', Fr h₀ L h' m → News h₀ L h' ((D, listOf (trefs ts.reverse).toArray 0) :: news) → (∀ p ∈ news, p.1 < D) → Q (.ref D) { s with heap := h' })
    (hs : subscripted slice false (.ref l) (.ref s.heap.objs.size) = operate ops (getItem (.ref l) (.ref s.heap.objs.size))) (ht : ∀ r, letTemporaryGo value (.ref l) r = pure ()) :
    wpAny (model prog w) A (subscriptTail value slice (.ref l) (.ref s.heap.objs.size)) Q E { s with heap := s.heap.push { cls := .type "slice", data := .fields #[.none, .none, vk] } } :=
  krv_lit (its := (trefs ts).toArray) (zs := trefs ts.reverse) F N ⟨_, (N _ hm).1, rfl, n, rfl⟩ pk (by simp [trefs]) h hs ht (by rw [PySem.sizeLine_eq]; simp [trefs]; omega)
theorem but_my {m : Str → Option Value} {l : Addr} {vs : List Value} {ns : List Int} {n : Nat} {vu : Value} {value slice : PySem.Expr} (F : Fr h₀ L s.heap m) (N : News h₀ L s.heap news) (hm : (l, listOf vs.toArray n) ∈ news) (hi : IntsAre vs ns) (pu : IsPart vu (some (-1))) (hz : ns.length ≤ 1000)
    (h : ∀ D ws h', Fr h₀ L h' m → News h₀ L h' ((D, listOf (List.toArray ws) 0) :: news) → (∀ p ∈ news, p.1 < D) → IntsAre ws ns.dropLast → Q (.ref D) { s with heap := h' })
    (hs : subscripted slice false (.ref l) (.ref s.heap.objs.size) = operate [.ref s.heap.objs.size, .ref l] (getItem (.ref l) (.ref s.heap.objs.size))) (ht : ∀ r, letTemporaryGo value (.ref l) r = pure ()) :
    wpAny (model prog w) A (subscriptTail value slice (.ref l) (.ref s.heap.objs.size)) Q E { s with heap := s.heap.push { cls := .type "slice", data := .fields #[.none, vu, .none] } } := by
  refine kmk_slice_ints (vs := vs) F N ⟨_, (N _ hm).1, rfl, n, rfl⟩ .none pu hi (kmk_upto_neg hi (by decide)) rfl (fun D ws h' F' N' l1 i1 _ _ => h D ws h' F' N' l1 ?_) hs ht (by rw [PySem.sizeLine_eq, List.size_toArray, hi.length]; omega)
  rw [List.dropLast_eq_take]
  exact i1
theorem cat_my {m : Str → Option Value} {vs us : List Value} {ns ms : List Int} (F : Fr h₀ L s.heap m) (N : News h₀ L s.heap news) (h1 : (a, listOf vs.toArray k) ∈ news) (h2 : (b, listOf us.toArray k') ∈ news) (i1 : IntsAre vs ns) (i2 : IntsAre us ms) (hz : ns.length + ms.length ≤ 1000)
    (h : ∀ D ws h', Fr h₀ L h' m → News h₀ L h' ((D, listOf (List.toArray ws) 0) :: news) → (∀ p ∈ news, p.1 < D) → IntsAre ws (ns ++ ms) → Q (.ref D) { s with heap := h' }) : wpAny (model prog w) A (binaryOp .Add (.ref a) (.ref b)) Q E s := by
  refine kmk_add_lit (its := vs.toArray) (its2 := us.toArray) (zs := vs ++ us) F N ⟨_, (N _ h1).1, rfl, k, rfl⟩ ⟨_, (N _ h2).1, rfl, k', rfl⟩ (by simp) (fun D h' F' N' l1 => h D _ h' F' N' l1 ?_) (by rw [PySem.sizeLine_eq]; simp [i1.length, i2.length]; omega)
  exact ints_append i1 i2
theorem sort_my {m : Str → Option Value} {vs : List Value} {ns : List Int} (F : Fr h₀ L s.heap m) (N : News h₀ L s.heap news) (h1 : (a, listOf vs.toArray k) ∈ news) (i1 : IntsAre vs ns) (hz : ns.length < 64)
    (h : ∀ D vs' ns' c h', Fr h₀ L h' m → News h₀ L h' ((D, listOf (List.toArray vs') c) :: news) → (∀ p ∈ news, p.1 < D) → IntsAre vs' ns' → ns'.Perm ns → ns'.Pairwise (· ≤ ·) → Q (.ref D) { s with heap := h' }) : wpAny (model prog w) A (call (.builtin "sorted") [.ref a]) Q E s :=
  kso_sorted F N ⟨_, (N _ h1).1, rfl, k, rfl⟩ i1 hz fun D vs' ns' c h' F' N' l1 i2 _ p o _ => h D vs' ns' c h' F' N' l1 i2 p o
end
theorem endsTo_len (cs : List Int) (n : Nat) : (endsTo cs n).length ≤ n := by
  unfold endsTo
  rw [List.length_map]
  exact Nat.le_trans (List.length_filter_le _ _) (by simp)
theorem sub_up {ts T nx : List (Addr × Obj)} (h : ∀ y ∈ ts, y ∈ T) (s : ∀ y ∈ T, y ∈ nx) : ∀ y ∈ ts, y ∈ nx := fun y hy => s y (h y hy)
theorem sub_rev {ts nx : List (Addr × Obj)} (h : ∀ y ∈ ts, y ∈ nx) : ∀ y ∈ ts.reverse, y ∈ nx := fun y hy => h y (List.mem_reverse.mp hy)
theorem ok_rev {P : Params} {cells : List Cell} (h : ∀ c ∈ cells, InfObj P c.i c.o) : ∀ i ∈ (cells.map (fun c => c.i)).reverse, i.Ok := fun i hi => ok_of h i (List.mem_reverse.mp hi)
theorem fields_odd {cells cur : List Cell} (h : OddRow cells cur) : (cur.map fun c => c.i).map fieldsData = ((cells.map fun c => c.i).reverse).map fieldsData := by
  have := odd_map fieldsData (fun _ _ => rfl) h
  simpa [List.map_reverse, Function.comp_def] using this
theorem fields_even {cells cur : List Cell} (h : EvenRow cells cur) : (cur.map fun c => c.i).map fieldsData = (cells.map fun c => c.i).map fieldsData := by
  have := even_map fieldsData h
  simpa [Function.comp_def] using this
theorem told_even {cells cur : List Cell} (h : EvenRow cells cur) : (cur.map fun c => c.i).map toldData = (cells.map fun c => c.i).map toldData := by
  have := even_map toldData h
  simpa [Function.comp_def] using this
theorem ties_len {cells cur : List Cell} (h : cur.length = cells.length) : (tiesTo cur cur.length).length = (tiesTo cells cells.length).length := by simp [tiesTo, h]
theorem ends_even {cells cur : List Cell} (h : EvenRow cells cur) : endsTo (cur.map fun c => c.i.cluster) cur.length = endsTo (cells.map fun c => c.i.cluster) cells.length := by
  rw [even_map (fun i => i.cluster) h, even_len h]
theorem ends_zero {cells cur : List Cell} (h : cur.length = cells.length) (h0 : ¬ (0 : Int) < ((refs cells).length : Int)) : endsTo (cur.map fun c => c.i.cluster) cur.length = endsTo (cells.map fun c => c.i.cluster) cells.length := by
  simp only [refs, List.length_map] at h0
  have e : cells.length = 0 := by omega
  rw [h, e]; rfl
theorem ends_odd {cells cur : List Cell} {ns : List Int} (h : OddRow cells cur) (h0 : (0 : Int) < ((refs cells).length : Int)) (p : ns.Perm ((0 :: (endsTo (cells.map fun c => c.i.cluster) cells.length).dropLast).map fun e => ((refs cells).length : Int) - e)) (o : ns.Pairwise (· ≤ ·)) :
    endsTo (cur.map fun c => c.i.cluster) cur.length = ns := by
  simp only [refs, List.length_map] at h0 p
  have hl : (cells.map fun c => c.i.cluster).length = cells.length := by simp
  rw [odd_map (fun i => i.cluster) (fun _ _ => rfl) h, odd_len h]
  have := sorted_ends (cs := cells.map fun c => c.i.cluster) (ns := ns) (by rw [hl]; omega) (by rw [hl]; exact p) o
  rw [hl] at this
  exact this.symm
theorem par_perm {k : Nat} {cells cur : List Cell} (h : Par k cells cur) : ((led cur).map (·.1)).Perm ((led cells).map (·.1)) := by
  rcases Nat.mod_two_eq_zero_or_one k with ev | od
  · have e := h.1 ev
    have : cur.map (fun c => (c.x, c.d)) = cells.map (fun c => (c.x, c.d)) := by
      have := congrArg (List.map fun (k : Addr × Addr × Inf) => (k.1, k.2.1)) e
      simpa [key_eq, Function.comp_def] using this
    rw [led_keys this]
  · have e := h.2 od
    rw [led_keys (xd_of_key e)]
    exact (led_perm (List.reverse_perm cells)).map _
theorem par_nodup {k : Nat} {cells cur : List Cell} {l : Addr} {a b : Obj} {K : List (Addr × Obj)} (h : Par k cells cur) (n : (((l, a) :: (led cells ++ K)).map (·.1)).Nodup) : (((l, b) :: (led cur ++ K)).map (·.1)).Nodup := by
  have p : (((l, b) :: (led cur ++ K)).map (·.1)).Perm (((l, a) :: (led cells ++ K)).map (·.1)) := by
    simp only [List.map_cons, List.map_append]
    exact ((par_perm h).append_right _).cons _
  exact p.nodup_iff.mpr n
theorem par_off {k k' : Nat} {cells cur cur' : List Cell} {l it : Addr} {a b : Obj} {K : List (Addr × Obj)} (h : Par k cells cur) (h' : Par k' cells cur') (n : ∀ p ∈ (l, a) :: (led cur ++ K), p.1 ≠ it) : ∀ p ∈ (l, b) :: (led cur' ++ K), p.1 ≠ it := by
  have q : (((l, b) :: (led cur' ++ K)).map (·.1)).Perm (((l, a) :: (led cur ++ K)).map (·.1)) := by
    simp only [List.map_cons, List.map_append]
    exact (((par_perm h').trans (par_perm h).symm).append_right _).cons _
  intro p hp e
  have : it ∈ (((l, a) :: (led cur ++ K)).map (·.1)) := q.mem_iff.mp (e ▸ List.mem_map_of_mem hp)
  obtain ⟨y, hy, e2⟩ := List.mem_map.mp this
  exact n y hy e2
theorem law_end {h₀ h' : Heap} {L : Addr} {m' : Str → Option Value} {P : Params} {cells cur cur' : List Cell} {K4 K5 K7 T7 news' : List (Addr × Obj)} {bx fD tD eD pD l it : Addr} {io a0 a1 : Obj} {nl' k : Nat} {s₁ : Shared} {tk : Nat}
    (F : Fr h₀ L h' m') (N : News h₀ L h' news') (m1 : m' "buffer" = some (.ref bx)) (m2 : m' "fields" = some (.ref fD)) (m3 : m' "ties" = some (.ref tD)) (m4 : m' "ends" = some (.ref eD)) (m5 : m' "first_told" = some (.ref pD))
    (sub : ∀ y ∈ T7, y ∈ news') (hT : T7 = (l, listOf (refs cur').toArray nl') :: (led cur' ++ K7)) (h5 : ∀ y ∈ K4, y ∈ K5) (h7 : ∀ y ∈ K5, y ∈ K7) (hi : (it, io) ∈ K5)
    (hpar : Par k cells cur) (hpar' : Par (k + 1) cells cur') (hio : ∀ c ∈ cur', InfObj P c.i c.o) (nd : (((l, a0) :: (led cells ++ K4)).map (·.1)).Nodup) (hit : ∀ p ∈ (l, a1) :: (led cur ++ K4), p.1 ≠ it) :
    GEnd h₀ L (LawJ P cells K4 bx fD tD eD pD l (k + 1)) [(it, io)] [it] s₁ { s₁ with heap := h', toks := tk } := by
  refine ⟨h', tk, m', news', (l, listOf (refs cur').toArray nl') :: (led cur' ++ K4), rfl, F, N, fun y hy => sub y ?_, fun y hy => sub y ?_, fun y hy => ?_, m1, m2, m3, m4, m5, cur', nl', hpar', hio, rfl, par_nodup hpar' nd⟩
  · rw [hT]
    simp only [List.mem_cons, List.mem_append] at hy ⊢
    rcases hy with h | h | h
    · exact .inl h
    · exact .inr (.inl h)
    · exact .inr (.inr (h7 _ (h5 _ h)))
  · rw [hT, List.mem_singleton.mp hy]
    exact .tail _ (List.mem_append_right _ (h7 _ hi))
  · simpa using par_off hpar hpar' hit y hy
section
variable {prog : Program} {w : World} {A : Around} {E : Value → Shared → Prop} {s : Shared} {h₀ : Heap} {L : Addr} {m : Str → Option Value}
theorem ints_comp (f : Int → Int) {env : Env} {scope : Scope} {cl : List (Str × Addr)} {x : Str} {elt : Expr} {Fm : Addr → (Str → Option Value) → Str → Option Value} {Q : Addr → Shared → Prop} {l : Addr} {vs : List Value} {ns : List Int} {nl : Nat} {nx : List (Addr × Obj)}
    (hh : A.handled = none) (F : Fr h₀ L s.heap m) (N : News h₀ L s.heap nx) (hl : (l, listOf vs.toArray nl) ∈ nx) (hi : IntsAre vs ns) (hlen : ns.length ≤ 1000)
    (helt : ∀ (i : Nat) (n : Int) t s₁ T m₂ C (Q' : Value → Shared → Prop) E', (∃ h tk, s₁ = { s with heap := h, toks := tk }) → ns[i]? = some n → (∀ y ∈ nx, y ∈ T) → Fr h₀ L s₁.heap m → News h₀ L s₁.heap T → s₁.heap.Ns C m₂ → m₂ x = some (.int n t) →
      (∀ t h' tk', Fr h₀ L h' m → News h₀ L h' T → Q' (.int (f n) t) { s₁ with heap := h', toks := tk' }) →
      wpAny (model prog w) A (eval elt (compEnvC scope cl C env)) Q' E' s₁)
    (done : ∀ h' tk D ys k, IntsAre ys (ns.map f) → (∀ y ∈ nx, y.1 ≠ D) → Fr h₀ L h' (Fm D m) → News h₀ L h' ((D, listOf ys.toArray k) :: nx) → Q D { s with heap := h', toks := tk }) :
    wpAny (model prog w) A (pyIter (.ref l)) (fun it s₂ => CompAt prog w A h₀ L env scope cl x [] elt Fm Q it s₂) E s := by
  have hvl : vs.length = ns.length := hi.length
  refine comp_list_at (l := l) (vs := vs) (nl := nl) (fun i ys nx' => IntsAre ys ((ns.take i).map f) ∧ nx' = nx) hh F N ⟨.nil, rfl⟩ ?_ (by omega) ?_ ?_
  · rintro i ys nx' ⟨_, rfl⟩
    exact hl
  · rintro i v ys nx' s₁ m₂ C D I dO cO iO E' hs hv ⟨hys, rfl⟩ hyl hoff hDC hDI hIC F₁ N₁ hns hm
    have hil := (List.getElem?_eq_some_iff.mp hv).1
    obtain ⟨t, ht⟩ := hi.get i ns[i] (by simp)
    rw [ht] at hv; cases hv
    refine wpAny_tests_nil ?_
    rw [if_pos rfl]
    refine helt i ns[i] t s₁ _ m₂ C _ E' hs (by simp) (fun y hy => List.mem_append_left _ hy) F₁ N₁ hns hm ?_
    intro t h' tk' F' N'
    refine ⟨h', tk', nx', _, rfl, F', N', fun y hy => List.mem_append_left _ hy, fun y hy => List.mem_append_right _ hy, hoff, ?_, rfl⟩
    rw [List.take_add_one, List.getElem?_eq_getElem (by omega), List.map_append]
    exact ints_snoc hys
  · rintro h' tk D ys nx' k ⟨hys, rfl⟩ hoff F' N'
    rw [hvl, List.take_length] at hys
    exact done h' tk D ys k hys hoff F' N'
theorem OT.at {R : Inf → Obj → Prop} {ts : List (Addr × Obj)} {is : List Inf} (h : OT R ts is) {i : Nat} {p : Addr × Obj} (hp : ts[i]? = some p) : ∃ j, is[i]? = some j ∧ R j p.2 := by
  induction h generalizing i with
  | nil => simp at hp
  | cons r _ ih =>
    cases i with
    | zero => simp at hp; subst hp; exact ⟨_, rfl, r⟩
    | succ i => simp at hp; exact ih hp
theorem field_comp (f : Inf → Int) {env : Env} {scope : Scope} {cl : List (Str × Addr)} {x : Str} {elt : Expr} {Fm : Addr → (Str → Option Value) → Str → Option Value} {Q : Addr → Shared → Prop} {l : Addr} {ts : List (Addr × Obj)} {is : List Inf} {nl : Nat} {nx : List (Addr × Obj)}
    (hh : A.handled = none) (F : Fr h₀ L s.heap m) (N : News h₀ L s.heap nx) (hl : (l, listOf (trefs ts).toArray nl) ∈ nx) (hi : OT FieldsObj ts is) (hlen : ts.length ≤ 1000) (hts : ∀ y ∈ ts, y ∈ nx)
    (helt : ∀ (i : Nat) (p : Addr × Obj) (j : Inf) s₁ T m₂ C (Q' : Value → Shared → Prop) E', (∃ h tk, s₁ = { s with heap := h, toks := tk }) → FieldsObj j p.2 → p ∈ T → Fr h₀ L s₁.heap m → News h₀ L s₁.heap T → s₁.heap.Ns C m₂ → m₂ x = some (.ref p.1) →
      (∀ t h' tk', Fr h₀ L h' m → News h₀ L h' T → Q' (.int (f j) t) { s₁ with heap := h', toks := tk' }) →
      wpAny (model prog w) A (eval elt (compEnvC scope cl C env)) Q' E' s₁)
    (done : ∀ h' tk D ys k, IntsAre ys (is.map f) → (∀ y ∈ nx, y.1 ≠ D) → Fr h₀ L h' (Fm D m) → News h₀ L h' ((D, listOf ys.toArray k) :: nx) → Q D { s with heap := h', toks := tk }) :
    wpAny (model prog w) A (pyIter (.ref l)) (fun it s₂ => CompAt prog w A h₀ L env scope cl x [] elt Fm Q it s₂) E s := by
  have hvl : (trefs ts).length = is.length := by simp [trefs, hi.length]
  refine comp_list_at (l := l) (vs := trefs ts) (nl := nl) (fun i ys nx' => IntsAre ys ((is.take i).map f) ∧ nx' = nx) hh F N ⟨.nil, rfl⟩ ?_ (by simp [trefs]; omega) ?_ ?_
  · rintro i ys nx' ⟨_, rfl⟩
    exact hl
  · rintro i v ys nx' s₁ m₂ C D I dO cO iO E' hs hv ⟨hys, rfl⟩ hyl hoff hDC hDI hIC F₁ N₁ hns hm
    simp only [trefs, List.getElem?_map, Option.map_eq_some_iff] at hv
    obtain ⟨p, hp, rfl⟩ := hv
    obtain ⟨j, hj, hR⟩ := hi.at hp
    refine wpAny_tests_nil ?_
    rw [if_pos rfl]
    refine helt i p j s₁ _ m₂ C _ E' hs hR (List.mem_append_left _ (hts _ (List.mem_of_getElem? hp))) F₁ N₁ hns hm ?_
    intro t h' tk' F' N'
    refine ⟨h', tk', nx', _, rfl, F', N', fun y hy => List.mem_append_left _ hy, fun y hy => List.mem_append_right _ hy, hoff, ?_, rfl⟩
    rw [List.take_add_one, hj, List.map_append]
    exact ints_snoc hys
  · rintro h' tk D ys nx' k ⟨hys, rfl⟩ hoff F' N'
    rw [hvl, List.take_length] at hys
    exact done h' tk D ys k hys hoff F' N'
end
theorem odd_glyphs {cells cur : List Cell} (f : Inf → Int) (hf : ∀ (i : Inf) (p : Int), f { i with parent := p } = f i) (h : OddRow cells cur) : (cur.map fun c => f c.i) = ((cells.map fun c => c.i).reverse).map f := by
  rw [odd_map f hf h]
  simp [List.map_reverse, Function.comp_def]
end
local macro_rules | `(tactic| k_all) => `(tactic| first | assumption | exact ne_of_lts (by assumption) | exact all_succ (by assumption) | exact all_succ2 (by assumption))
section
theorem law_holds : PySem.Challenge.rw_pb0158_01.Holds := Mine.hd (by
  k_with_none
  k_with "exec Assign cons ListComp" => (k_here; (with_reducible show wpAny _ _ (exec (PySem.Stmt.Assign _ (PySem.Expr.ListComp (PySem.Expr.BinOp (PySem.Expr.Name _ _) _ _ _) _ _ _) _) _) _ _ _); (rename Fr _ _ _ _ => lF'); (with_reducible refine' assign_comp_G lF' ?zqhsw ?zqhclos ?zqhcell ?zqhkind ?zqhnames ?zqhx ?zqhy ?zqhp ?zqhs ?_; (case zqhsw => with_unfolding_all rfl); (case zqhclos => with_unfolding_all rfl); (case zqhcell => decide); (case zqhkind => with_unfolding_all rfl); (case zqhnames => decide); (case zqhx => with_unfolding_all rfl); (case zqhy => with_unfolding_all rfl); (case zqhp => with_unfolding_all rfl); (case zqhs => intro _; with_unfolding_all rfl); k_whole))
  k_with "call ref" => (k_here; (with_reducible show wpAny _ _ (call (Value.ref 152) _) _ _ _); k_dflt (refine' fields_use ?zqB ?zqF ?zqX ?zqN ?zqT ?zqhf ?zqhk ?zqh1 ?zqh2 ?zqh3 ?zqh4 ?zqh5 ?_; (case zqB => k_asm); (case zqF => k_asm); (case zqX => k_asm); (case zqN => k_asm); (case zqT => k_asm); (case zqhf => exact rfl); (case zqhk => exact rfl); (case zqh1 => k_mem); (case zqh2 => k_mem); (case zqh3 => assumption); (case zqh4 => ktr_room); (case zqh5 => ktr_units)); intro a' o' h' tk' hR' hlt' F' N')
  k_with "call ref" => (k_here; (with_reducible show wpAny _ _ (call (Value.ref 159) _) _ _ _); k_dflt (refine' ties_use ?zqB ?zqF ?zqX ?zqN ?zqT ?zqhf ?zqhk ?zqh1 ?zqh2 ?zqh3 ?zqh4 ?zqh5 ?zqh6 ?_; (case zqB => k_asm); (case zqF => k_asm); (case zqX => k_asm); (case zqN => k_asm); (case zqT => k_asm); (case zqhf => exact rfl); (case zqhk => exact rfl); (case zqh1 => k_mem); (case zqh2 => first | assumption | exact rowIn_up (by assumption) (fun y hy => List.mem_cons_of_mem _ hy) | exact rowIn_up (by assumption) (fun y hy => List.mem_cons_of_mem _ (List.mem_cons_of_mem _ hy)) | exact rowIn_up (by assumption) (fun y hy => List.mem_cons_of_mem _ (List.mem_cons_of_mem _ (List.mem_cons_of_mem _ hy))) | exact rowIn_up (by assumption) (fun y hy => List.mem_cons_of_mem _ (List.mem_cons_of_mem _ (List.mem_cons_of_mem _ (List.mem_cons_of_mem _ hy)))) | exact rowIn_up (by assumption) (fun y hy => List.mem_cons_of_mem _ (List.mem_cons_of_mem _ (List.mem_cons_of_mem _ (List.mem_cons_of_mem _ (List.mem_cons_of_mem _ hy))))) | exact rowIn_up (by assumption) (fun y hy => List.mem_cons_of_mem _ (List.mem_cons_of_mem _ (List.mem_cons_of_mem _ (List.mem_cons_of_mem _ (List.mem_cons_of_mem _ (List.mem_cons_of_mem _ hy)))))) | exact rowIn_up (by assumption) (fun y hy => List.mem_cons_of_mem _ (List.mem_cons_of_mem _ (List.mem_cons_of_mem _ (List.mem_cons_of_mem _ (List.mem_cons_of_mem _ (List.mem_cons_of_mem _ (List.mem_cons_of_mem _ hy))))))) | exact rowIn_up (by assumption) (fun y hy => List.mem_cons_of_mem _ (List.mem_cons_of_mem _ (List.mem_cons_of_mem _ (List.mem_cons_of_mem _ (List.mem_cons_of_mem _ (List.mem_cons_of_mem _ (List.mem_cons_of_mem _ (List.mem_cons_of_mem _ hy))))))))); (case zqh3 => assumption); (case zqh4 => assumption); (case zqh5 => ktr_room); (case zqh6 => ktr_units)); intro D' o' kvs' h' tk' hd' hT' hs' l1' F' N')
  k_with "call ref" => (k_here; (with_reducible show wpAny _ _ (call (Value.ref 112) _) _ _ _); k_dflt (refine' ends_use ?zqB ?zqF ?zqX ?zqN ?zqT ?zqhf ?zqhk ?zqh1 ?zqh2 ?zqh3 ?zqh4 ?zqh5 ?zqh6 ?zqh7 ?zqh8 ?_; (case zqB => k_asm); (case zqF => k_asm); (case zqX => k_asm); (case zqN => k_asm); (case zqT => k_asm); (case zqhf => exact rfl); (case zqhk => exact rfl); (case zqh1 => k_mem); (case zqh2 => k_mem); (case zqh3 => assumption); (case zqh4 => k_mem); (case zqh5 => first | assumption | exact rowIn_up (by assumption) (fun y hy => List.mem_cons_of_mem _ hy) | exact rowIn_up (by assumption) (fun y hy => List.mem_cons_of_mem _ (List.mem_cons_of_mem _ hy)) | exact rowIn_up (by assumption) (fun y hy => List.mem_cons_of_mem _ (List.mem_cons_of_mem _ (List.mem_cons_of_mem _ hy))) | exact rowIn_up (by assumption) (fun y hy => List.mem_cons_of_mem _ (List.mem_cons_of_mem _ (List.mem_cons_of_mem _ (List.mem_cons_of_mem _ hy)))) | exact rowIn_up (by assumption) (fun y hy => List.mem_cons_of_mem _ (List.mem_cons_of_mem _ (List.mem_cons_of_mem _ (List.mem_cons_of_mem _ (List.mem_cons_of_mem _ hy))))) | exact rowIn_up (by assumption) (fun y hy => List.mem_cons_of_mem _ (List.mem_cons_of_mem _ (List.mem_cons_of_mem _ (List.mem_cons_of_mem _ (List.mem_cons_of_mem _ (List.mem_cons_of_mem _ hy)))))) | exact rowIn_up (by assumption) (fun y hy => List.mem_cons_of_mem _ (List.mem_cons_of_mem _ (List.mem_cons_of_mem _ (List.mem_cons_of_mem _ (List.mem_cons_of_mem _ (List.mem_cons_of_mem _ (List.mem_cons_of_mem _ hy))))))) | exact rowIn_up (by assumption) (fun y hy => List.mem_cons_of_mem _ (List.mem_cons_of_mem _ (List.mem_cons_of_mem _ (List.mem_cons_of_mem _ (List.mem_cons_of_mem _ (List.mem_cons_of_mem _ (List.mem_cons_of_mem _ (List.mem_cons_of_mem _ hy))))))))); (case zqh6 => assumption); (case zqh7 => ktr_room); (case zqh8 => ktr_units)); intro D' ys' k' h' tk' hI' hoff' F' N')
  k_with "call ref" => (k_here; (with_reducible show wpAny _ _ (call (Value.ref 86) _) _ _ _); k_dflt (refine' btold_use ?zqB ?zqF ?zqX ?zqN ?zqT ?zqhf ?zqhk ?zqh1 ?zqh2 ?zqh3 ?zqh4 ?zqh5 ?zqh6 ?zqh7 ?zqh8 ?zqh9 ?_; (case zqB => k_asm); (case zqF => k_asm); (case zqX => k_asm); (case zqN => k_asm); (case zqT => k_asm); (case zqhf => exact rfl); (case zqhk => exact rfl); (case zqh1 => k_mem); (case zqh2 => k_mem); (case zqh3 => assumption); (case zqh4 => k_mem); (case zqh5 => first | assumption | exact rowIn_up (by assumption) (fun y hy => List.mem_cons_of_mem _ hy) | exact rowIn_up (by assumption) (fun y hy => List.mem_cons_of_mem _ (List.mem_cons_of_mem _ hy)) | exact rowIn_up (by assumption) (fun y hy => List.mem_cons_of_mem _ (List.mem_cons_of_mem _ (List.mem_cons_of_mem _ hy))) | exact rowIn_up (by assumption) (fun y hy => List.mem_cons_of_mem _ (List.mem_cons_of_mem _ (List.mem_cons_of_mem _ (List.mem_cons_of_mem _ hy)))) | exact rowIn_up (by assumption) (fun y hy => List.mem_cons_of_mem _ (List.mem_cons_of_mem _ (List.mem_cons_of_mem _ (List.mem_cons_of_mem _ (List.mem_cons_of_mem _ hy))))) | exact rowIn_up (by assumption) (fun y hy => List.mem_cons_of_mem _ (List.mem_cons_of_mem _ (List.mem_cons_of_mem _ (List.mem_cons_of_mem _ (List.mem_cons_of_mem _ (List.mem_cons_of_mem _ hy)))))) | exact rowIn_up (by assumption) (fun y hy => List.mem_cons_of_mem _ (List.mem_cons_of_mem _ (List.mem_cons_of_mem _ (List.mem_cons_of_mem _ (List.mem_cons_of_mem _ (List.mem_cons_of_mem _ (List.mem_cons_of_mem _ hy))))))) | exact rowIn_up (by assumption) (fun y hy => List.mem_cons_of_mem _ (List.mem_cons_of_mem _ (List.mem_cons_of_mem _ (List.mem_cons_of_mem _ (List.mem_cons_of_mem _ (List.mem_cons_of_mem _ (List.mem_cons_of_mem _ (List.mem_cons_of_mem _ hy))))))))); (case zqh6 => assumption); (case zqh7 => repeat (first | assumption | refine nd_cons (by k_all) ?_)); (case zqh8 => ktr_room); (case zqh9 => ktr_units)); intro D' ts' h' tk' ho' hn' F' N')
  k_with "call ref" => (k_here; (with_reducible show wpAny _ _ (call (Value.ref 76) _) _ _ _); k_dflt (refine' glyphs_use ?zqB ?zqF ?zqX ?zqN ?zqT ?zqhf ?zqhk ?zqh1 ?zqh2 ?zqh3 ?zqh4 ?zqh5 ?zqh6 ?zqh7 ?zqh8 ?_; (case zqB => k_asm); (case zqF => k_asm); (case zqX => k_asm); (case zqN => k_asm); (case zqT => k_asm); (case zqhf => exact rfl); (case zqhk => exact rfl); (case zqh1 => k_mem); (case zqh2 => k_mem); (case zqh3 => assumption); (case zqh4 => k_mem); (case zqh5 => first | assumption | exact rowIn_up (by assumption) (fun y hy => List.mem_cons_of_mem _ hy) | exact rowIn_up (by assumption) (fun y hy => List.mem_cons_of_mem _ (List.mem_cons_of_mem _ hy)) | exact rowIn_up (by assumption) (fun y hy => List.mem_cons_of_mem _ (List.mem_cons_of_mem _ (List.mem_cons_of_mem _ hy))) | exact rowIn_up (by assumption) (fun y hy => List.mem_cons_of_mem _ (List.mem_cons_of_mem _ (List.mem_cons_of_mem _ (List.mem_cons_of_mem _ hy)))) | exact rowIn_up (by assumption) (fun y hy => List.mem_cons_of_mem _ (List.mem_cons_of_mem _ (List.mem_cons_of_mem _ (List.mem_cons_of_mem _ (List.mem_cons_of_mem _ hy))))) | exact rowIn_up (by assumption) (fun y hy => List.mem_cons_of_mem _ (List.mem_cons_of_mem _ (List.mem_cons_of_mem _ (List.mem_cons_of_mem _ (List.mem_cons_of_mem _ (List.mem_cons_of_mem _ hy)))))) | exact rowIn_up (by assumption) (fun y hy => List.mem_cons_of_mem _ (List.mem_cons_of_mem _ (List.mem_cons_of_mem _ (List.mem_cons_of_mem _ (List.mem_cons_of_mem _ (List.mem_cons_of_mem _ (List.mem_cons_of_mem _ hy))))))) | exact rowIn_up (by assumption) (fun y hy => List.mem_cons_of_mem _ (List.mem_cons_of_mem _ (List.mem_cons_of_mem _ (List.mem_cons_of_mem _ (List.mem_cons_of_mem _ (List.mem_cons_of_mem _ (List.mem_cons_of_mem _ (List.mem_cons_of_mem _ hy))))))))); (case zqh6 => assumption); (case zqh7 => ktr_room); (case zqh8 => ktr_units)); intro D' ys' k' h' tk' hI' hoff' F' N')
  k_with "call ref" => (k_here; (with_reducible show wpAny _ _ (call (Value.ref 81) _) _ _ _); k_dflt (refine' clusters_use ?zqB ?zqF ?zqX ?zqN ?zqT ?zqhf ?zqhk ?zqh1 ?zqh2 ?zqh3 ?zqh4 ?zqh5 ?zqh6 ?zqh7 ?zqh8 ?_; (case zqB => k_asm); (case zqF => k_asm); (case zqX => k_asm); (case zqN => k_asm); (case zqT => k_asm); (case zqhf => exact rfl); (case zqhk => exact rfl); (case zqh1 => k_mem); (case zqh2 => k_mem); (case zqh3 => assumption); (case zqh4 => k_mem); (case zqh5 => first | assumption | exact rowIn_up (by assumption) (fun y hy => List.mem_cons_of_mem _ hy) | exact rowIn_up (by assumption) (fun y hy => List.mem_cons_of_mem _ (List.mem_cons_of_mem _ hy)) | exact rowIn_up (by assumption) (fun y hy => List.mem_cons_of_mem _ (List.mem_cons_of_mem _ (List.mem_cons_of_mem _ hy))) | exact rowIn_up (by assumption) (fun y hy => List.mem_cons_of_mem _ (List.mem_cons_of_mem _ (List.mem_cons_of_mem _ (List.mem_cons_of_mem _ hy)))) | exact rowIn_up (by assumption) (fun y hy => List.mem_cons_of_mem _ (List.mem_cons_of_mem _ (List.mem_cons_of_mem _ (List.mem_cons_of_mem _ (List.mem_cons_of_mem _ hy))))) | exact rowIn_up (by assumption) (fun y hy => List.mem_cons_of_mem _ (List.mem_cons_of_mem _ (List.mem_cons_of_mem _ (List.mem_cons_of_mem _ (List.mem_cons_of_mem _ (List.mem_cons_of_mem _ hy)))))) | exact rowIn_up (by assumption) (fun y hy => List.mem_cons_of_mem _ (List.mem_cons_of_mem _ (List.mem_cons_of_mem _ (List.mem_cons_of_mem _ (List.mem_cons_of_mem _ (List.mem_cons_of_mem _ (List.mem_cons_of_mem _ hy))))))) | exact rowIn_up (by assumption) (fun y hy => List.mem_cons_of_mem _ (List.mem_cons_of_mem _ (List.mem_cons_of_mem _ (List.mem_cons_of_mem _ (List.mem_cons_of_mem _ (List.mem_cons_of_mem _ (List.mem_cons_of_mem _ (List.mem_cons_of_mem _ hy))))))))); (case zqh6 => assumption); (case zqh7 => ktr_room); (case zqh8 => ktr_units)); intro D' ys' k' h' tk' hI' hoff' F' N')
  k_with "call ref" => (k_here; (with_reducible show wpAny _ _ (call (Value.ref 145) _) _ _ _); refine stop ?_)
  k_with "call ref" => (k_here; (with_reducible show wpAny _ _ (call (Value.ref 86) _) _ _ _); refine stop ?_)
  k_with "call ref" => (k_here; (with_reducible show wpAny _ _ (call (Value.ref 119) _) _ _ _); refine stop ?_)
  k_with "call type:list" => (k_here; (with_reducible show wpAny _ _ (call (Value.type _) [Value.ref _]) _ _ _); k_dflt (refine' copy_my ?zqF ?zqN ?zqm ?zqv ?_; (case zqF => k_asm); (case zqN => k_asm); (case zqm => k_mem); (case zqv => assumption)); intro D' c' h' F' N' l1; (try k_lt l1))
  k_with "compareOp NotEq ref ref" => (k_here; (with_reducible show wpAny _ _ (compareOp CmpOp.NotEq (Value.ref _) (Value.ref _)) _ _ _); refine stop ?_)
  k_with "compareOp Eq ref ref" => (k_here; (with_reducible show wpAny _ _ (compareOp CmpOp.Eq (Value.ref _) (Value.ref _)) _ _ _); refine stop ?_)
  k_with "compareOp NotEq ref ref" => (k_here; (with_reducible show wpAny _ _ (compareOp CmpOp.NotEq (Value.ref _) (Value.ref _)) _ _ _); k_dflt (refine' ne_ties ?zqN ?zqm1 ?zqm2 ?zqd1 ?zqd2 ?zqt1 ?zqt2 ?zql1 ?zql2 ?zqhs ?zqhl ?zqu ?_; (case zqN => k_asm); (case zqm1 => k_mem); (case zqm2 => k_mem); (case zqd1 => assumption); (case zqd2 => assumption); (case zqt1 => assumption); (case zqt2 => assumption); (case zql1 => assumption); (case zql2 => assumption); (case zqhs => first | exact odd_ties (by assumption) | exact even_ties (by assumption)); (case zqhl => exact ties_len (by assumption)); (case zqu => ktr_units)))
  k_with "compareOp NotEq ref ref" => (k_here; (with_reducible show wpAny _ _ (compareOp CmpOp.NotEq (Value.ref _) (Value.ref _)) _ _ _); k_dflt (refine' ne_told ?zqN ?zqm1 ?zqm2 ?zqo1 ?zqo2 ?zqs1 ?zqs2 ?zqe ?zqu ?_; (case zqN => k_asm); (case zqm1 => k_mem); (case zqm2 => k_mem); (case zqo1 => assumption); (case zqo2 => assumption); (case zqs1 => first | assumption | exact sub_up (by assumption) (fun y hy => hy) | exact sub_up (by assumption) (fun y hy => List.mem_cons_of_mem _ hy) | exact sub_up (by assumption) (fun y hy => List.mem_cons_of_mem _ (List.mem_cons_of_mem _ hy)) | exact sub_up (by assumption) (fun y hy => List.mem_cons_of_mem _ (List.mem_cons_of_mem _ (List.mem_cons_of_mem _ hy))) | exact sub_up (by assumption) (fun y hy => List.mem_cons_of_mem _ (List.mem_cons_of_mem _ (List.mem_cons_of_mem _ (List.mem_cons_of_mem _ hy)))) | exact sub_up (by assumption) (fun y hy => List.mem_cons_of_mem _ (List.mem_cons_of_mem _ (List.mem_cons_of_mem _ (List.mem_cons_of_mem _ (List.mem_cons_of_mem _ hy))))) | exact sub_up (by assumption) (fun y hy => List.mem_cons_of_mem _ (List.mem_cons_of_mem _ (List.mem_cons_of_mem _ (List.mem_cons_of_mem _ (List.mem_cons_of_mem _ (List.mem_cons_of_mem _ hy)))))) | exact sub_up (by assumption) (fun y hy => List.mem_cons_of_mem _ (List.mem_cons_of_mem _ (List.mem_cons_of_mem _ (List.mem_cons_of_mem _ (List.mem_cons_of_mem _ (List.mem_cons_of_mem _ (List.mem_cons_of_mem _ hy))))))) | exact sub_up (by assumption) (fun y hy => List.mem_cons_of_mem _ (List.mem_cons_of_mem _ (List.mem_cons_of_mem _ (List.mem_cons_of_mem _ (List.mem_cons_of_mem _ (List.mem_cons_of_mem _ (List.mem_cons_of_mem _ (List.mem_cons_of_mem _ hy))))))))); (case zqs2 => first | assumption | exact sub_up (by assumption) (fun y hy => hy) | exact sub_up (by assumption) (fun y hy => List.mem_cons_of_mem _ hy) | exact sub_up (by assumption) (fun y hy => List.mem_cons_of_mem _ (List.mem_cons_of_mem _ hy)) | exact sub_up (by assumption) (fun y hy => List.mem_cons_of_mem _ (List.mem_cons_of_mem _ (List.mem_cons_of_mem _ hy))) | exact sub_up (by assumption) (fun y hy => List.mem_cons_of_mem _ (List.mem_cons_of_mem _ (List.mem_cons_of_mem _ (List.mem_cons_of_mem _ hy)))) | exact sub_up (by assumption) (fun y hy => List.mem_cons_of_mem _ (List.mem_cons_of_mem _ (List.mem_cons_of_mem _ (List.mem_cons_of_mem _ (List.mem_cons_of_mem _ hy))))) | exact sub_up (by assumption) (fun y hy => List.mem_cons_of_mem _ (List.mem_cons_of_mem _ (List.mem_cons_of_mem _ (List.mem_cons_of_mem _ (List.mem_cons_of_mem _ (List.mem_cons_of_mem _ hy)))))) | exact sub_up (by assumption) (fun y hy => List.mem_cons_of_mem _ (List.mem_cons_of_mem _ (List.mem_cons_of_mem _ (List.mem_cons_of_mem _ (List.mem_cons_of_mem _ (List.mem_cons_of_mem _ (List.mem_cons_of_mem _ hy))))))) | exact sub_up (by assumption) (fun y hy => List.mem_cons_of_mem _ (List.mem_cons_of_mem _ (List.mem_cons_of_mem _ (List.mem_cons_of_mem _ (List.mem_cons_of_mem _ (List.mem_cons_of_mem _ (List.mem_cons_of_mem _ (List.mem_cons_of_mem _ hy))))))))); (case zqe => exact told_even (by assumption)); (case zqu => ktr_units)))
  k_with "compareOp NotEq ref ref" => (k_here; (with_reducible show wpAny _ _ (compareOp CmpOp.NotEq (Value.ref _) (Value.ref _)) _ _ _); k_dflt (refine' ne_fields ?zqN ?zqm1 ?zqm2 ?zqo1 ?zqo2 ?zqs1 ?zqs2 ?zqok ?zqe ?zqu ?_; (case zqN => k_asm); (case zqm1 => k_mem); (case zqm2 => k_mem); (case zqo1 => assumption); (case zqo2 => first | assumption | exact OT.reverse (by assumption)); (case zqs1 => first | assumption | exact sub_up (by assumption) (fun y hy => hy) | exact sub_up (by assumption) (fun y hy => List.mem_cons_of_mem _ hy) | exact sub_up (by assumption) (fun y hy => List.mem_cons_of_mem _ (List.mem_cons_of_mem _ hy)) | exact sub_up (by assumption) (fun y hy => List.mem_cons_of_mem _ (List.mem_cons_of_mem _ (List.mem_cons_of_mem _ hy))) | exact sub_up (by assumption) (fun y hy => List.mem_cons_of_mem _ (List.mem_cons_of_mem _ (List.mem_cons_of_mem _ (List.mem_cons_of_mem _ hy)))) | exact sub_up (by assumption) (fun y hy => List.mem_cons_of_mem _ (List.mem_cons_of_mem _ (List.mem_cons_of_mem _ (List.mem_cons_of_mem _ (List.mem_cons_of_mem _ hy))))) | exact sub_up (by assumption) (fun y hy => List.mem_cons_of_mem _ (List.mem_cons_of_mem _ (List.mem_cons_of_mem _ (List.mem_cons_of_mem _ (List.mem_cons_of_mem _ (List.mem_cons_of_mem _ hy)))))) | exact sub_up (by assumption) (fun y hy => List.mem_cons_of_mem _ (List.mem_cons_of_mem _ (List.mem_cons_of_mem _ (List.mem_cons_of_mem _ (List.mem_cons_of_mem _ (List.mem_cons_of_mem _ (List.mem_cons_of_mem _ hy))))))) | exact sub_up (by assumption) (fun y hy => List.mem_cons_of_mem _ (List.mem_cons_of_mem _ (List.mem_cons_of_mem _ (List.mem_cons_of_mem _ (List.mem_cons_of_mem _ (List.mem_cons_of_mem _ (List.mem_cons_of_mem _ (List.mem_cons_of_mem _ hy))))))))); (case zqs2 => first | assumption | exact sub_up (by assumption) (fun y hy => hy) | exact sub_up (by assumption) (fun y hy => List.mem_cons_of_mem _ hy) | exact sub_up (by assumption) (fun y hy => List.mem_cons_of_mem _ (List.mem_cons_of_mem _ hy)) | exact sub_up (by assumption) (fun y hy => List.mem_cons_of_mem _ (List.mem_cons_of_mem _ (List.mem_cons_of_mem _ hy))) | exact sub_up (by assumption) (fun y hy => List.mem_cons_of_mem _ (List.mem_cons_of_mem _ (List.mem_cons_of_mem _ (List.mem_cons_of_mem _ hy)))) | exact sub_up (by assumption) (fun y hy => List.mem_cons_of_mem _ (List.mem_cons_of_mem _ (List.mem_cons_of_mem _ (List.mem_cons_of_mem _ (List.mem_cons_of_mem _ hy))))) | exact sub_up (by assumption) (fun y hy => List.mem_cons_of_mem _ (List.mem_cons_of_mem _ (List.mem_cons_of_mem _ (List.mem_cons_of_mem _ (List.mem_cons_of_mem _ (List.mem_cons_of_mem _ hy)))))) | exact sub_up (by assumption) (fun y hy => List.mem_cons_of_mem _ (List.mem_cons_of_mem _ (List.mem_cons_of_mem _ (List.mem_cons_of_mem _ (List.mem_cons_of_mem _ (List.mem_cons_of_mem _ (List.mem_cons_of_mem _ hy))))))) | exact sub_up (by assumption) (fun y hy => List.mem_cons_of_mem _ (List.mem_cons_of_mem _ (List.mem_cons_of_mem _ (List.mem_cons_of_mem _ (List.mem_cons_of_mem _ (List.mem_cons_of_mem _ (List.mem_cons_of_mem _ (List.mem_cons_of_mem _ hy)))))))) | exact sub_rev (by assumption) | exact sub_rev (sub_up (by assumption) (fun y hy => hy)) | exact sub_rev (sub_up (by assumption) (fun y hy => List.mem_cons_of_mem _ hy)) | exact sub_rev (sub_up (by assumption) (fun y hy => List.mem_cons_of_mem _ (List.mem_cons_of_mem _ hy))) | exact sub_rev (sub_up (by assumption) (fun y hy => List.mem_cons_of_mem _ (List.mem_cons_of_mem _ (List.mem_cons_of_mem _ hy)))) | exact sub_rev (sub_up (by assumption) (fun y hy => List.mem_cons_of_mem _ (List.mem_cons_of_mem _ (List.mem_cons_of_mem _ (List.mem_cons_of_mem _ hy))))) | exact sub_rev (sub_up (by assumption) (fun y hy => List.mem_cons_of_mem _ (List.mem_cons_of_mem _ (List.mem_cons_of_mem _ (List.mem_cons_of_mem _ (List.mem_cons_of_mem _ hy)))))) | exact sub_rev (sub_up (by assumption) (fun y hy => List.mem_cons_of_mem _ (List.mem_cons_of_mem _ (List.mem_cons_of_mem _ (List.mem_cons_of_mem _ (List.mem_cons_of_mem _ (List.mem_cons_of_mem _ hy))))))) | exact sub_rev (sub_up (by assumption) (fun y hy => List.mem_cons_of_mem _ (List.mem_cons_of_mem _ (List.mem_cons_of_mem _ (List.mem_cons_of_mem _ (List.mem_cons_of_mem _ (List.mem_cons_of_mem _ (List.mem_cons_of_mem _ hy)))))))) | exact sub_rev (sub_up (by assumption) (fun y hy => List.mem_cons_of_mem _ (List.mem_cons_of_mem _ (List.mem_cons_of_mem _ (List.mem_cons_of_mem _ (List.mem_cons_of_mem _ (List.mem_cons_of_mem _ (List.mem_cons_of_mem _ (List.mem_cons_of_mem _ hy)))))))))); (case zqok => first | exact ok_of (by assumption) | exact ok_rev (by assumption)); (case zqe => first | exact fields_odd (by assumption) | exact fields_even (by assumption)); (case zqu => ktr_units)))
  k_with "compareOp NotEq ref ref" => (k_here; (with_reducible show wpAny _ _ (compareOp CmpOp.NotEq (Value.ref _) (Value.ref _)) _ _ _); k_dflt (refine' ne_ints ?zqN ?zqm1 ?zqm2 ?zqi1 ?zqi2 ?zqe ?zqu ?_; (case zqN => k_asm); (case zqm1 => k_mem); (case zqm2 => k_mem); (case zqi1 => assumption); (case zqi2 => assumption); (case zqe => first | exact rfl | exact ends_even (by assumption) | exact ends_zero (by assumption) (by assumption) | exact ends_odd (by assumption) (by assumption) (by assumption) (by assumption)); (case zqu => ktr_units)))
  k_with "compareOp Eq ref ref" => (k_here; (with_reducible show wpAny _ _ (compareOp CmpOp.Eq (Value.ref _) (Value.ref _)) _ _ _); k_dflt (refine' eq_ints ?zqN ?zqm1 ?zqm2 ?zqi1 ?zqi2 ?zqe ?zqu ?_; (case zqN => k_asm); (case zqm1 => k_mem); (case zqm2 => k_mem); (case zqi1 => assumption); (case zqi2 => assumption); (case zqe => assumption); (case zqu => ktr_units)))
  k_with "subscriptTail Name Slice ref ref" => (k_here; (with_reducible show wpAny _ _ (subscriptTail _ (PySem.Expr.Slice none none (some _) _) (Value.ref _) (Value.ref _)) _ _ _); k_dflt (refine' rev_my ?zqF ?zqN ?zqm ?zqk ?zqz ?_ ?zqs ?zqt; (case zqF => k_asm); (case zqN => k_asm); (case zqm => k_mem); (case zqk => exact IsPart.int _ _); (case zqz => assumption); (case zqs => with_unfolding_all rfl); (case zqt => kmk_pure)); intro D' h' F' N' l1)
  k_with "subscriptTail Name Slice ref ref" => (k_here; (with_reducible show wpAny _ _ (subscriptTail _ (PySem.Expr.Slice none (some (PySem.Expr.UnaryOp _ _ _)) none _) (Value.ref _) (Value.ref _)) _ _ _); k_dflt (refine' but_my ?zqF ?zqN ?zqm ?zqi ?zqk ?zqz ?_ ?zqs ?zqt; (case zqF => k_asm); (case zqN => k_asm); (case zqm => k_mem); (case zqi => assumption); (case zqk => exact IsPart.int _ _); (case zqz => assumption); (case zqs => with_unfolding_all rfl); (case zqt => kmk_pure)); intro D' ws' h' F' N' l1 hI')
  k_with "binaryOp Add ref ref" => (k_here; (with_reducible show wpAny _ _ (binaryOp _ (Value.ref _) (Value.ref _)) _ _ _); k_dflt (refine' cat_my ?zqF ?zqN ?zqm1 ?zqm2 ?zqi1 ?zqi2 ?zqz ?_; (case zqF => k_asm); (case zqN => k_asm); (case zqm1 => k_mem); (case zqm2 => k_mem); (case zqi1 => exact IntsAre.cons _ _ IntsAre.nil); (case zqi2 => assumption); (case zqz => assumption)); intro D' ws' h' F' N' l1 hI')
  k_with "call builtin:sorted" => (k_here; (with_reducible show wpAny _ _ (call (Value.builtin "sorted") [Value.ref _]) _ _ _); k_dflt (refine' sort_my ?zqF ?zqN ?zqm ?zqi ?zqz ?_; (case zqF => k_asm); (case zqN => k_asm); (case zqm => k_mem); (case zqi => assumption); (case zqz => assumption)); intro D' vs' ns' c' h' F' N' l1 hI' hp' ho')
  k_with "binaryOp Mod int int" => (k_here; (with_reducible show wpAny _ _ (binaryOp Operator.Mod (Value.int _ _) (Value.int _ _)) _ _ _); refine mod_two (by assumption) ?_)
  k_go0
  all_goals try k_fold
  k_steps
  unfold Stop
  have hlenI := IntsAre.length (by assumption : IntsAre _ _)
  k_dflt (refine' row_use ?B ?F ?X ?N ?T ?hf ?hk ?h1 ?h2 ?h3 ?h4 ?h5 ?h6 ?h7 ?_; (case F => k_asm); (case B => k_asm); (case X => k_asm); (case N => k_asm); (case T => k_asm); (case hf => exact rfl); (case hk => exact rfl); (case h1 => exact ⟨_, _, _, _, _, _, _, _, rfl, rfl, (by assumption), (by simp only [List.length_map, List.length_take]; omega)⟩); (case h2 => k_ne); (case h3 => k_all); (case h4 => k_all); (case h6 => ktr_room); (case h7 => ktr_units))
  case h5 => ((repeat (first | assumption | refine nd_cons (by k_all) ?_)); exact List.nodup_nil)
  intro r nr cells h9 tk9 hio hcode hlen hnd F9 N9
  obtain ⟨T₁, hT₁⟩ : ∃ T₁, T₁ = (r, listOf (refs cells).toArray nr) :: led cells := ⟨_, rfl⟩
  obtain ⟨s1, s2, s3⟩ := split3 (T₁ := (r, listOf (refs cells).toArray nr) :: led cells) hnd
  have N10 := regroup3 (T₁ := (r, listOf (refs cells).toArray nr) :: led cells) N9
  rw [← hT₁] at s1 s2 s3 N10
  dsimp only at s1 s2
  clear N9 hnd
  have hlr : (refs cells).length = cells.length := by simp [refs]
  have hlen2 : (refs cells).length ≤ 1000 := by omega
  have hrT : (r, listOf (refs cells).toArray nr) ∈ T₁ := hT₁ ▸ .head _
  have hRow := rowIn_of (T := T₁) hio (fun y hy => hT₁ ▸ .tail _ hy)
  have hca := codes_apart hcode
  have hE1 : (endsTo (cells.map fun c => c.i.cluster) cells.length).length ≤ 1000 := Nat.le_trans (endsTo_len _ _) (by omega)
  have hE2 : [(0 : Int)].length + (endsTo (cells.map fun c => c.i.cluster) cells.length).dropLast.length ≤ 1000 := by
    have := endsTo_len (cells.map fun c => c.i.cluster) cells.length
    simp only [List.length_cons, List.length_nil, List.length_dropLast]; omega
  k_sweep
  k_steps
  unfold Stop
  rename Fr _ _ _ _ => hF
  rename News _ _ _ _ => hN
  rename _ < _ ∧ _ < _ ∧ _ < _ ∧ AllLt _ _ => l9
  rename @LT.lt Nat _ _ _ => l29
  have a9 := ne_of_allLt (lt_allLt l29 l9.2.2.2)
  have nd := nodup_ev hN (by repeat (first | assumption | refine nd_cons (by k_all) ?_))
  subst hT₁
  obtain ⟨K0, mXK0, mDK0, mC2K0, mC1K0, mRK0, N11, nd11⟩ := regroupA hN nd
  have hBuf := bufO_of mDK0 ⟨_, _, _, _, _, _, _, rfl⟩
  clear hN nd hrT hRow s1 s2 s3 a9 l9 l29
  obtain ⟨T2, hT2, N12, nd12⟩ := letterN N11 nd11
  clear N11 nd11
  have hKT2 : ∀ y ∈ K0, y ∈ T2 := fun y hy => hT2 ▸ .tail _ (List.mem_append_right _ hy)
  have mX2 := hKT2 _ mXK0
  have mD2 := hKT2 _ mDK0
  have mC22 := hKT2 _ mC2K0
  have mC12 := hKT2 _ mC1K0
  have mR2 := hKT2 _ mRK0
  have mL2 := mem_of_letter hT2
  have hRow2 := rowIn_of (T := T2) hio (fun y hy => hT2 ▸ .tail _ (List.mem_append_left _ hy))
  refine tup_at FieldsObj rfl hF N12 mR2 hlen nd12 ?_ ?_
  · rintro i c s₁ T₁ m₂ C Q' E' ⟨h, tk, rfl⟩ hc hsub F₁ N₁ hns hm go
    have hr := hRow2 c (List.mem_of_getElem? hc)
    have h1 := hsub _ hr.1
    have h2 := hsub _ hr.2.1
    have h3 := hr.2.2
    clear hF N12
    dsimp only at hns hm
    k_steps
    exact go _ _ _ _ (by assumption) (by assumption) (by assumption) (by assumption)
  clear hF N12
  intro h tk fD fts fk hot hnd' F₁ N₁
  subst hT2
  obtain ⟨K3, hP3, hKK3, N11, nd11⟩ := regroupB (pre := (fD, listOf (trefs fts).toArray fk) :: fts) N₁ hnd'
  have mXK3 := hKK3 _ mXK0
  have mDK3 := hKK3 _ mDK0
  have mC2K3 := hKK3 _ mC2K0
  have mC1K3 := hKK3 _ mC1K0
  have mRK3 := hKK3 _ mRK0
  have mFK3 := hP3 _ (.head _)
  obtain ⟨T3, hT3, N3, nd3⟩ := letterN N11 nd11
  clear N11 nd11
  have hKT3 : ∀ y ∈ K3, y ∈ T3 := fun y hy => hT3 ▸ .tail _ (List.mem_append_right _ hy)
  have mX3 := hKT3 _ mXK3
  have mD3 := hKT3 _ mDK3
  have mC23 := hKT3 _ mC2K3
  have mC13 := hKT3 _ mC1K3
  have mR3 := hKT3 _ mRK3
  have mF3 := hKT3 _ mFK3
  have mL3 := mem_of_letter hT3
  have hRow3 := rowIn_of (T := T3) hio (fun y hy => hT3 ▸ .tail _ (List.mem_append_left _ hy))
  have hftsK3 : ∀ y ∈ fts, y ∈ K3 := fun y hy => hP3 y (.tail _ hy)
  clear N₁ hnd'
  k_steps
  unfold Stop
  k_dflt (refine' btold_use ?B ?F ?X ?N ?T ?hf ?hk ?h1 ?h2 ?h3 ?h4 ?h5 ?h6 ?h7 ?h8 ?h9 ?_; (case F => k_asm); (case B => k_asm); (case X => k_asm); (case N => k_asm); (case T => k_asm); (case hf => exact rfl); (case hk => exact rfl); (case h1 => k_mem); (case h2 => k_mem); (case h3 => assumption); (case h4 => k_mem); (case h5 => first | assumption | exact rowIn_up (by assumption) (fun y hy => List.mem_cons_of_mem _ hy) | exact rowIn_up (by assumption) (fun y hy => List.mem_cons_of_mem _ (List.mem_cons_of_mem _ hy)) | exact rowIn_up (by assumption) (fun y hy => List.mem_cons_of_mem _ (List.mem_cons_of_mem _ (List.mem_cons_of_mem _ hy))) | exact rowIn_up (by assumption) (fun y hy => List.mem_cons_of_mem _ (List.mem_cons_of_mem _ (List.mem_cons_of_mem _ (List.mem_cons_of_mem _ hy)))) | exact rowIn_up (by assumption) (fun y hy => List.mem_cons_of_mem _ (List.mem_cons_of_mem _ (List.mem_cons_of_mem _ (List.mem_cons_of_mem _ (List.mem_cons_of_mem _ hy))))) | exact rowIn_up (by assumption) (fun y hy => List.mem_cons_of_mem _ (List.mem_cons_of_mem _ (List.mem_cons_of_mem _ (List.mem_cons_of_mem _ (List.mem_cons_of_mem _ (List.mem_cons_of_mem _ hy)))))) | exact rowIn_up (by assumption) (fun y hy => List.mem_cons_of_mem _ (List.mem_cons_of_mem _ (List.mem_cons_of_mem _ (List.mem_cons_of_mem _ (List.mem_cons_of_mem _ (List.mem_cons_of_mem _ (List.mem_cons_of_mem _ hy))))))) | exact rowIn_up (by assumption) (fun y hy => List.mem_cons_of_mem _ (List.mem_cons_of_mem _ (List.mem_cons_of_mem _ (List.mem_cons_of_mem _ (List.mem_cons_of_mem _ (List.mem_cons_of_mem _ (List.mem_cons_of_mem _ (List.mem_cons_of_mem _ hy))))))))); (case h6 => assumption); (case h7 => repeat (first | assumption | refine nd_cons (by k_all) ?_)); (case h8 => ktr_room); (case h9 => ktr_units))
  intro pD pts h tk hpt hnd' F₁ N₁
  subst hT3
  obtain ⟨K4, mPK4, hptsK4, mEK4, mTK4, hKK4, N11, nd11⟩ := regroupC N₁ hnd'
  have mXK4 := hKK4 _ mXK3
  have mDK4 := hKK4 _ mDK3
  have mC2K4 := hKK4 _ mC2K3
  have mC1K4 := hKK4 _ mC1K3
  have mRK4 := hKK4 _ mRK3
  have mFK4 := hKK4 _ mFK3
  have hftsK4 : ∀ y ∈ fts, y ∈ K4 := fun y hy => hKK4 _ (hftsK3 y hy)
  obtain ⟨T4, hT4, N4, nd4⟩ := letterN N11 nd11
  clear N11 nd11 N₁ hnd'
  have hKT4 : ∀ y ∈ K4, y ∈ T4 := fun y hy => hT4 ▸ .tail _ (List.mem_append_right _ hy)
  have mX4 := hKT4 _ mXK4
  have mD4 := hKT4 _ mDK4
  have mC24 := hKT4 _ mC2K4
  have mC14 := hKT4 _ mC1K4
  have mR4 := hKT4 _ mRK4
  have mF4 := hKT4 _ mFK4
  have mP4 := hKT4 _ mPK4
  have mE4 := hKT4 _ mEK4
  have mT4 := hKT4 _ mTK4
  have mL4 := mem_of_letter hT4
  have hRow4 := rowIn_of (T := T4) hio (fun y hy => hT4 ▸ .tail _ (List.mem_append_left _ hy))
  rename IntsAre _ (endsTo _ _) => hEnds
  k_sweep
  k_steps
  unfold Stop
  rename IsRange _ _ _ _ _ _ _ _ => hR
  rename Fr _ _ _ _ => hF
  rename News _ _ _ _ => hN
  replace hN := news_tl hN
  refine comp_range_at (n := cells.length) (fun i ys nx' => T4 = nx' ∧ IntsAre ys (endsTo (cells.map fun c => c.i.cluster) i)) rfl hR (by rw [hlr]) (by omega) hF hN ⟨rfl, .nil⟩ ?_ ?_
  · rintro i t ys nx' s₁ m₂ C D I dO cO iO E' ⟨h, tk, rfl⟩ hi ⟨rfl, hys⟩ hyl hoff hDC hDI hIC F₁ N₁ hns hm
    clear hF hN hR
    obtain ⟨T₁, hT₁⟩ : ∃ T₁, T₁ = T4 ++ [(D, dO), (C, cO), (I, iO)] := ⟨_, rfl⟩
    rw [← hT₁] at N₁
    have hs : ∀ y ∈ T4, y ∈ T₁ := fun y hy => hT₁ ▸ List.mem_append_left _ hy
    have mRt := hs _ mR4
    have mC1t := hs _ mC14
    have mC2t := hs _ mC24
    have hRt := rowIn_up hRow4 hs
    dsimp only at hns hm
    refine wpAny_tests_one ?_
    k_steps
    · exact cend_same (pre := []) (by assumption) (by assumption) hT₁ hoff ⟨rfl, ends_yes hys (endsP_last (by assumption))⟩
    · exact cend_same (pre := []) (by assumption) (by assumption) hT₁ hoff ⟨rfl, ends_yes hys (endsP_ne2 (by assumption) (by assumption) (by assumption))⟩
    · exact cend_same (pre := []) (by assumption) (by assumption) hT₁ hoff ⟨rfl, ends_no hys (endsP_eq2 (by assumption) (by assumption) (by assumption) (by assumption))⟩
  clear hF hN hR
  rintro h tk dD dys nx' dk ⟨rfl, hdys⟩ hoff F₁ N₁
  k_steps
  unfold Stop
  rename IsRange _ _ _ _ _ _ _ _ => hR
  rename Fr _ _ _ _ => hF
  rename News _ _ _ _ => hN
  subst hT4
  refine range_G1 (n := 3) (LawJ _ cells K4 _ _ _ _ _ _) rfl hR rfl (by omega) hF (news_tl hN) ⟨rfl, rfl, rfl, rfl, rfl, cells, _, ⟨fun _ => even_self cells, fun h => absurd h (by decide)⟩, hio, rfl, nd4⟩ ?_ ?_
  · clear hF hN hR hdys hoff
    rintro i t m₁ nx₁ h tk it io hi ⟨m1, m2, m3, m4, m5, cur, nl, hpar, hcio, rfl, hnd⟩ hit F₁ N₁
    obtain ⟨u, rfl⟩ := canon5 m1 m2 m3 m4 m5
    have hcl := par_len hpar
    have hclen : cur.length ≤ 9 := by omega
    clear m1 m2 m3 m4 m5
    obtain ⟨K5, mItK5, hKK5, N11, nd11⟩ := regroupD N₁ hnd hit
    have mXK5 := hKK5 _ mXK4
    have mDK5 := hKK5 _ mDK4
    have mC2K5 := hKK5 _ mC2K4
    have mC1K5 := hKK5 _ mC1K4
    have mRK5 := hKK5 _ mRK4
    have mFK5 := hKK5 _ mFK4
    have mPK5 := hKK5 _ mPK4
    have mEK5 := hKK5 _ mEK4
    have mTK5 := hKK5 _ mTK4
    have hftsK5 : ∀ y ∈ fts, y ∈ K5 := fun y hy => hKK5 _ (hftsK4 y hy)
    have hptsK5 : ∀ y ∈ pts, y ∈ K5 := fun y hy => hKK5 _ (hptsK4 y hy)
    clear N₁ hnd
    obtain ⟨T5, hT5, N5, nd5⟩ := letterN N11 nd11
    clear N11 nd11
    have hKT5 : ∀ y ∈ K5, y ∈ T5 := fun y hy => hT5 ▸ .tail _ (List.mem_append_right _ hy)
    have mX5 := hKT5 _ mXK5
    have mD5 := hKT5 _ mDK5
    have mC25 := hKT5 _ mC2K5
    have mC15 := hKT5 _ mC1K5
    have mR5 := hKT5 _ mRK5
    have mF5 := hKT5 _ mFK5
    have mP5 := hKT5 _ mPK5
    have mE5 := hKT5 _ mEK5
    have mT5 := hKT5 _ mTK5
    have mL5 := mem_of_letter hT5
    have hRow5 := rowIn_of (T := T5) hcio (fun y hy => hT5 ▸ .tail _ (List.mem_append_left _ hy))
    try dsimp only at F₁
    obtain ⟨k, hk⟩ : ∃ k : Int, k = 1 + (i : Int) := ⟨_, rfl⟩
    rw [← hk] at F₁
    obtain ⟨r2, hk2⟩ : ∃ r2 : Int, k.fmod 2 = r2 := ⟨_, rfl⟩
    k_steps
    unfold Stop
    subst hT5
    k_dflt (refine' turn_use (nx := K5) (cells := cur) ?B ?F ?X ?N ?T ?hf ?hk ?h1 ?h2 ?h3 ?h4 ?h5 ?h6 ?h7 ?h8 ?_; (case F => k_asm); (case B => k_asm); (case X => k_asm); (case N => k_asm); (case T => k_asm); (case hf => exact rfl); (case hk => exact rfl); (case h1 => assumption); (case h2 => assumption); (case h3 => assumption); (case h4 => assumption); (case h5 => assumption); (case h6 => assumption); (case h7 => ktr_room); (case h8 => ktr_units))
    intro cur' nl' h tk hturn hcio' nd6' F₁ N₁
    have hpar' := par_turn hpar hturn
    have hcl' := par_len hpar'
    have hclen' : cur'.length ≤ 9 := by omega
    obtain ⟨T6, hT6, N6, nd6⟩ := letterN N₁ nd6'
    clear N₁ nd6' mX5 mD5 mC25 mC15 mR5 mF5 mP5 mE5 mT5 mL5 hRow5
    have hKT6 : ∀ y ∈ K5, y ∈ T6 := fun y hy => hT6 ▸ .tail _ (List.mem_append_right _ hy)
    have mX6 := hKT6 _ mXK5
    have mD6 := hKT6 _ mDK5
    have mC26 := hKT6 _ mC2K5
    have mC16 := hKT6 _ mC1K5
    have mR6 := hKT6 _ mRK5
    have mF6 := hKT6 _ mFK5
    have mP6 := hKT6 _ mPK5
    have mE6 := hKT6 _ mEK5
    have mT6 := hKT6 _ mTK5
    have mL6 := mem_of_letter hT6
    have hRow6 := rowIn_of (T := T6) hcio' (fun y hy => hT6 ▸ .tail _ (List.mem_append_left _ hy))
    k_steps
    unfold Stop
    rename Fr _ _ _ _ => hF
    rename News _ _ _ _ => hN
    refine tup_at FieldsObj rfl hF hN mL6 hclen' nd6 ?_ ?_
    · rintro i c s₁ T₁ m₂ C Q' E' ⟨h, tk, rfl⟩ hc hsub F₁ N₁ hns hm go
      have hr := hRow6 c (List.mem_of_getElem? hc)
      have h1 := hsub _ hr.1
      have h2 := hsub _ hr.2.1
      have h3 := hr.2.2
      clear hF hN
      dsimp only at hns hm
      k_steps
      exact go _ _ _ _ (by assumption) (by assumption) (by assumption) (by assumption)
    clear hF hN
    intro h tk gD gts gk hgt hnd' F₁ N₁
    subst hT6
    obtain ⟨K7, hP7, hKK7, N11, nd11⟩ := regroupB (pre := (gD, listOf (trefs gts).toArray gk) :: gts) N₁ hnd'
    have mGK7 := hP7 _ (.head _)
    have hgtsK7 : ∀ y ∈ gts, y ∈ K7 := fun y hy => hP7 y (.tail _ hy)
    have mXK7 := hKK7 _ mXK5
    have mDK7 := hKK7 _ mDK5
    have mC2K7 := hKK7 _ mC2K5
    have mC1K7 := hKK7 _ mC1K5
    have mRK7 := hKK7 _ mRK5
    have mFK7 := hKK7 _ mFK5
    have mPK7 := hKK7 _ mPK5
    have mEK7 := hKK7 _ mEK5
    have mTK7 := hKK7 _ mTK5
    have hftsK7 : ∀ y ∈ fts, y ∈ K7 := fun y hy => hKK7 _ (hftsK5 y hy)
    have hptsK7 : ∀ y ∈ pts, y ∈ K7 := fun y hy => hKK7 _ (hptsK5 y hy)
    obtain ⟨T7, hT7, N7, nd7⟩ := letterN N11 nd11
    clear N11 nd11 N₁ hnd'
    have hKT7 : ∀ y ∈ K7, y ∈ T7 := fun y hy => hT7 ▸ .tail _ (List.mem_append_right _ hy)
    have mX7 := hKT7 _ mXK7
    have mD7 := hKT7 _ mDK7
    have mC27 := hKT7 _ mC2K7
    have mC17 := hKT7 _ mC1K7
    have mR7 := hKT7 _ mRK7
    have mF7 := hKT7 _ mFK7
    have mP7 := hKT7 _ mPK7
    have mE7 := hKT7 _ mEK7
    have mT7 := hKT7 _ mTK7
    have mG7 := hKT7 _ mGK7
    have mL7 := mem_of_letter hT7
    have hRow7 := rowIn_of (T := T7) hcio' (fun y hy => hT7 ▸ .tail _ (List.mem_append_left _ hy))
    have hgts7 : ∀ y ∈ gts, y ∈ T7 := fun y hy => hKT7 _ (hgtsK7 y hy)
    have hfts7 : ∀ y ∈ fts, y ∈ T7 := fun y hy => hKT7 _ (hftsK7 y hy)
    have hpts7 : ∀ y ∈ pts, y ∈ T7 := fun y hy => hKT7 _ (hptsK7 y hy)
    have hca7 := codes_cur hpar' hca
    have hfl : fts.length ≤ 1000 := by have := hot.length; simp only [List.length_map] at this; omega
    have hE3 : ([(0 : Int)] ++ (endsTo (cells.map fun c => c.i.cluster) cells.length).dropLast).length ≤ 1000 := by rw [List.length_append]; exact hE2
    have hE4 : (([(0 : Int)] ++ (endsTo (cells.map fun c => c.i.cluster) cells.length).dropLast).map fun e => ((refs cells).length : Int) - e).length < 64 := by
      have := endsTo_len (cells.map fun c => c.i.cluster) cells.length
      simp only [List.length_map, List.length_append, List.length_cons, List.length_nil, List.length_dropLast]; omega
    rcases Nat.mod_two_eq_zero_or_one i with hi2 | hi2
    · have hii : (i + 1) % 2 = 1 := by omega
      have hpo := hpar'.2 hii
      obtain rfl : r2 = 1 := by rw [← hk2, Int.fmod_eq_emod_of_nonneg _ (by decide), hk]; omega
      k_steps
      · unfold Stop
        rename Fr _ _ _ _ => hF
        rename News _ _ _ _ => hN
        refine ints_comp (fun e => ((refs cells).length : Int) - e) rfl hF hN (by k_mem) (by assumption) hE3 ?_ ?_
        · rintro i n t s₁ T₁ m₂ C Q' E' ⟨h, tk, rfl⟩ hc hsub F₁ N₁ hns hm go
          have mc := hsub _ (List.mem_cons_of_mem _ (List.mem_cons_of_mem _ (List.mem_cons_of_mem _ (List.mem_cons_of_mem _ (List.mem_cons_of_mem _ (List.mem_cons_of_mem _ mC27))))))
          clear hF hN
          dsimp only at hns hm
          k_steps
          exact go _ _ _ (by assumption) (by assumption)
        clear hF hN
        intro h tk sD sys sk hsys hoff F₁ N₁
        k_steps
        dsimp only [GPost]
        exact law_end (by assumption) (by assumption) rfl rfl rfl rfl rfl (fun y hy => by repeat (first | exact hy | refine List.mem_cons_of_mem _ ?_)) hT7 hKK5 hKK7 mItK5 hpar hpar' hcio' nd4 hit
      · dsimp only [GPost]
        exact law_end (by assumption) (by assumption) rfl rfl rfl rfl rfl (fun y hy => by repeat (first | exact hy | refine List.mem_cons_of_mem _ ?_)) hT7 hKK5 hKK7 mItK5 hpar hpar' hcio' nd4 hit
    · have hii : (i + 1) % 2 = 0 := by omega
      have hpo := hpar'.1 hii
      obtain rfl : r2 = 0 := by rw [← hk2, Int.fmod_eq_emod_of_nonneg _ (by decide), hk]; omega
      k_steps
      unfold Stop
      k_dflt (refine' btold_use ?B ?F ?X ?N ?T ?hf ?hk ?h1 ?h2 ?h3 ?h4 ?h5 ?h6 ?h7 ?h8 ?h9 ?_; (case F => k_asm); (case B => k_asm); (case X => k_asm); (case N => k_asm); (case T => k_asm); (case hf => exact rfl); (case hk => exact rfl); (case h1 => k_mem); (case h2 => k_mem); (case h3 => assumption); (case h4 => k_mem); (case h5 => first | assumption | exact rowIn_up (by assumption) (fun y hy => List.mem_cons_of_mem _ hy) | exact rowIn_up (by assumption) (fun y hy => List.mem_cons_of_mem _ (List.mem_cons_of_mem _ hy)) | exact rowIn_up (by assumption) (fun y hy => List.mem_cons_of_mem _ (List.mem_cons_of_mem _ (List.mem_cons_of_mem _ hy))) | exact rowIn_up (by assumption) (fun y hy => List.mem_cons_of_mem _ (List.mem_cons_of_mem _ (List.mem_cons_of_mem _ (List.mem_cons_of_mem _ hy)))) | exact rowIn_up (by assumption) (fun y hy => List.mem_cons_of_mem _ (List.mem_cons_of_mem _ (List.mem_cons_of_mem _ (List.mem_cons_of_mem _ (List.mem_cons_of_mem _ hy))))) | exact rowIn_up (by assumption) (fun y hy => List.mem_cons_of_mem _ (List.mem_cons_of_mem _ (List.mem_cons_of_mem _ (List.mem_cons_of_mem _ (List.mem_cons_of_mem _ (List.mem_cons_of_mem _ hy)))))) | exact rowIn_up (by assumption) (fun y hy => List.mem_cons_of_mem _ (List.mem_cons_of_mem _ (List.mem_cons_of_mem _ (List.mem_cons_of_mem _ (List.mem_cons_of_mem _ (List.mem_cons_of_mem _ (List.mem_cons_of_mem _ hy))))))) | exact rowIn_up (by assumption) (fun y hy => List.mem_cons_of_mem _ (List.mem_cons_of_mem _ (List.mem_cons_of_mem _ (List.mem_cons_of_mem _ (List.mem_cons_of_mem _ (List.mem_cons_of_mem _ (List.mem_cons_of_mem _ (List.mem_cons_of_mem _ hy))))))))); (case h6 => assumption); (case h7 => repeat (first | assumption | refine nd_cons (by k_all) ?_)); (case h8 => ktr_room); (case h9 => ktr_units))
      intro qD qts h tk hqt hnd' F₁ N₁
      subst hT7
      obtain ⟨K8, mQK8, hqtsK8, _, _, hKK8, N11, nd11⟩ := regroupC N₁ hnd'
      have mPK8 := hKK8 _ mPK7
      obtain ⟨T8, hT8, N8, nd8⟩ := letterN N11 nd11
      clear N11 nd11 N₁ hnd'
      have hKT8 : ∀ y ∈ K8, y ∈ T8 := fun y hy => hT8 ▸ .tail _ (List.mem_append_right _ hy)
      have mQ8 := hKT8 _ mQK8
      have mP8 := hKT8 _ mPK8
      have hqts8 : ∀ y ∈ qts, y ∈ T8 := fun y hy => hKT8 _ (hqtsK8 y hy)
      have hpts8 : ∀ y ∈ pts, y ∈ T8 := fun y hy => hKT8 _ (hKK8 _ (hptsK7 y hy))
      k_steps
      dsimp only [GPost]
      exact law_end (by assumption) (by assumption) rfl rfl rfl rfl rfl (fun y hy => by repeat (first | exact hy | refine List.mem_cons_of_mem _ ?_)) hT8 hKK5 (fun y hy => hKK8 _ (hKK7 y hy)) mItK5 hpar hpar' hcio' nd4 hit
  · rintro m₁ nx₁ h tk ⟨m1, m2, m3, m4, m5, cur, nl, hpar, hcio, rfl, hnd⟩ F₁ N₁
    obtain ⟨u, rfl⟩ := canon5 m1 m2 m3 m4 m5
    clear m1 m2 m3 m4 m5 hF hN hR
    have hpo : OddRow cells cur := hpar.2 rfl
    have hclen : cur.length ≤ 9 := by have := par_len hpar; omega
    have hfl : fts.length ≤ 1000 := by have := hot.length; simp only [List.length_map] at this; omega
    have he1 := odd_glyphs (fun i => i.glyph) (fun _ _ => rfl) hpo
    have he2 := odd_glyphs (fun i => i.cluster) (fun _ _ => rfl) hpo
    obtain ⟨T8, hT8, N8, nd8⟩ := letterN N₁ hnd
    clear N₁ hnd
    have hKT8 : ∀ y ∈ K4, y ∈ T8 := fun y hy => hT8 ▸ .tail _ (List.mem_append_right _ hy)
    have mX8 := hKT8 _ mXK4
    have mD8 := hKT8 _ mDK4
    have mC28 := hKT8 _ mC2K4
    have mC18 := hKT8 _ mC1K4
    have mR8 := hKT8 _ mRK4
    have mF8 := hKT8 _ mFK4
    have mP8 := hKT8 _ mPK4
    have mE8 := hKT8 _ mEK4
    have mT8 := hKT8 _ mTK4
    have mL8 := mem_of_letter hT8
    have hRow8 := rowIn_of (T := T8) hcio (fun y hy => hT8 ▸ .tail _ (List.mem_append_left _ hy))
    have hfts8 : ∀ y ∈ fts, y ∈ T8 := fun y hy => hKT8 _ (hftsK4 y hy)
    try dsimp only at F₁
    k_steps
    unfold Stop
    rename Fr _ _ _ _ => hF
    rename News _ _ _ _ => hN
    refine field_comp (fun i => i.glyph) rfl hF hN (by k_mem) (OT.reverse hot) (by simpa using hfl) (sub_rev (sub_up hfts8 (fun y hy => by repeat (first | exact hy | refine List.mem_cons_of_mem _ ?_)))) ?_ ?_
    · rintro i ⟨a, o⟩ j s₁ T₁ m₂ C Q' E' ⟨h, tk, rfl⟩ hR hp F₁ N₁ hns hm go
      obtain ⟨t0, t1, t2, t3, t4, t5, t6, t7, t8, t10, t11, t12, t13, ho⟩ := hR
      dsimp only at ho
      subst ho
      clear hF hN
      dsimp only at hns hm
      k_steps
      exact go _ _ _ (by assumption) (by assumption)
    clear hF hN
    intro h tk sD sys sk hsys hoff F₁ N₁
    k_steps
    unfold Stop
    rename Fr _ _ _ _ => hF
    rename News _ _ _ _ => hN
    refine field_comp (fun i => i.cluster) rfl hF hN (by k_mem) (OT.reverse hot) (by simpa using hfl) (sub_rev (sub_up hfts8 (fun y hy => by repeat (first | exact hy | refine List.mem_cons_of_mem _ ?_)))) ?_ ?_
    · rintro i ⟨a, o⟩ j s₁ T₁ m₂ C Q' E' ⟨h, tk, rfl⟩ hR hp F₁ N₁ hns hm go
      obtain ⟨t0, t1, t2, t3, t4, t5, t6, t7, t8, t10, t11, t12, t13, ho⟩ := hR
      dsimp only at ho
      subst ho
      clear hF hN
      dsimp only at hns hm
      k_steps
      exact go _ _ _ (by assumption) (by assumption)
    clear hF hN
    intro h tk sD sys sk hsys hoff F₁ N₁
    k_steps
  )
end
end Mine
theorem PySem.Challenge.cw_pb0158_01_holds : PySem.Challenge.rw_pb0158_01.Holds := by
  exact Mine.law_holds
