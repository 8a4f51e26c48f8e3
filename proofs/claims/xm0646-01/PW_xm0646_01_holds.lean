import PyProof.Rows.All
import Wide.All
import OpenK.AllK
import Wide.FinOn
import PySem.Challenge.RW_xm0646_01
open PySem PySem.W PyProof.Rows
set_option Elab.async false
namespace Mine
set_option maxRecDepth 100000 in
set_option maxHeartbeats 8000000 in
open_top hd for PySem.Challenge.rw_xm0646_01
end Mine
open PySem.Calls PySem.Spec
set_option linter.unusedSimpArgs false
set_option maxRecDepth 100000
namespace Mine

abbrev Led := List (Addr × Obj)
/-- what a call of the text's def at f does, from a def's frame over a ledger: the ledger may turn -/
def Tell (w : World) (mean : ExcName → Option Value) (mg mb : Str → Option Value) (f : Addr) (vs : List Value) (dN uN : Nat) (news : Led) (post : Value → Led → Prop) : Prop :=
  ∀ (dp un : Nat) (gd : Option (List Code)) (env : Env) (outer : List Env) (A₀ : Around) (base h₀ : Heap) (L : Addr) (m : Str → Option Value) (s : Shared) (Q E : Value → Shared → Prop),
    Below A₀ base outer h₀ → Fr h₀ L s.heap m → (hd.heap_39 w.params).In h₀ → News h₀ L s.heap news → Top hd.view_39 (looseW hd.view_39 []) mean mg mb h₀ →
    env.frame = some L → env.scope.kind = .function → dp + dN < recursionLimit → un + uN < cLine →
    (∀ r news' h' tk', Fr h₀ L h' m → News h₀ L h' news' → post r news' → Q r { s with heap := h', toks := tk' }) →
    wpAny (model PySem.Challenge.rw_xm0646_01.row.prog w) { handled := none, depth := dp, frames := some (env :: outer), guards := gd, units := un } (call (.ref f) vs) Q E s

theorem tell_use {w : World} {mean : ExcName → Option Value} {mg mb : Str → Option Value} {f : Addr} {vs : List Value} {dN uN : Nat} {news news₀ : Led} {post : Value → Led → Prop}
    {dp un : Nat} {gd : Option (List Code)} {env : Env} {outer : List Env} {A₀ : Around} {base h₀ : Heap} {L : Addr} {m : Str → Option Value} {s : Shared} {Q E : Value → Shared → Prop}
    (B : Below A₀ base outer h₀) (F : Fr h₀ L s.heap m) (X : (hd.heap_39 w.params).In h₀) (N : News h₀ L s.heap news₀) (T : Top hd.view_39 (looseW hd.view_39 []) mean mg mb h₀)
    (hf : env.frame = some L) (hk : env.scope.kind = .function) (hd : dp + dN < recursionLimit) (hu : un + uN < cLine) (C : Tell w mean mg mb f vs dN uN news post) (sub : ∀ p ∈ news, p ∈ news₀)
    (ret : ∀ r news' h' tk', Fr h₀ L h' m → News h₀ L h' news' → post r news' → Q r { s with heap := h', toks := tk' }) :
    wpAny (model PySem.Challenge.rw_xm0646_01.row.prog w) { handled := none, depth := dp, frames := some (env :: outer), guards := gd, units := un } (call (.ref f) vs) Q E s :=
  C _ _ _ _ _ _ _ _ _ _ _ _ _ B F X (fun p hp => N p (sub p hp)) T hf hk hd hu ret

def BagOk (o : Obj) : Prop := ∃ x y t u n, 0 ≤ y ∧ y < 2147483647 ∧ o = listOf #[.int x t, .int y u] n
def Off (b : Addr) (rest : Led) : Prop := ∀ p ∈ rest, p.1 ≠ b

local macro_rules | `(tactic| k_all) => `(tactic| assumption)
theorem fm_lo (z : Int) : 0 ≤ z.fmod 2147483647 := Int.fmod_nonneg_of_pos _ (by decide)
theorem fm_hi (z : Int) : z.fmod 2147483647 < 2147483647 := Int.fmod_lt_of_pos _ (by decide)
theorem pick_mul (x z : Int) : IntMulOk ([x, z.fmod 2147483647].getD (Int.toNat 1) 0) ([x, z.fmod 2147483647].getD (Int.toNat 1) 0) := by
  refine IntMulOk.of_left (intBits_le_64 ?_ ?_)
  · show _ < z.fmod 2147483647
    have := fm_lo z; omega
  · show z.fmod 2147483647 < _
    have := fm_hi z; omega
local macro_rules | `(tactic| mul_fits) => `(tactic| exact pick_mul _ _)
set_option maxHeartbeats 8000000 in
theorem pick_tells (w : World) (mean : ExcName → Option Value) (mg mb : Str → Option Value) (b : Addr) (o : Obj) (tt : Tok) (top : Int) (rest : Led) (ho : BagOk o) (ht : 1 ≤ top ∧ top ≤ 4) (hb : Off b rest) :
    Tell w mean mg mb 42 [.ref b, .int top tt] 10 100 ((b, o) :: rest)
      (fun r news' => (∃ k tk, r = .int k tk ∧ 0 ≤ k ∧ k < top) ∧ ∃ o', BagOk o' ∧ news' = (b, o') :: rest) := by
  obtain ⟨x, y, t, u, n, hy, hy', rfl⟩ := ho
  unfold Off at hb
  (w_top off; unfold Tell; k_fill; intro dp un gd env outer A₀ base h₀ L m s Q E B F X N T hf hk hdp hun hret; refine wpAny_call ?_; k_dflt (refine' code_def ?k1 ?k2 ?k3 ?k4 ?k5 ?kA ?kF ?kK ?k6 ?k7 ?k8 ?k9 ?kB ?_ ?c2 ?c3 ?c4 ?c5; (case kA => exact rfl); (case kF => assumption); (case kK => assumption); (case k1 => k_asm); (case k2 => k_asm); (case k3 => k_asm); (case k4 => k_asm); (case k5 => k_asm); (case k6 => k_is); (case k7 => k_is); (case k8 => (simp only [recursionLimit] at *; omega)); (case k9 => exact BindsTo.of_eq rfl); (case c5 => decide); (case kB => exact locs rfl); (case c2 => exact rfl); (case c3 => exact rfl); (case c4 => exact rfl); k_whole; intro g1 L1 h1 FG1 F1 N1 B1 X1 T1; (try dsimp only); (try k_fold)))
  k_steps
  all_goals (refine hret _ _ _ _ (by assumption) (by assumption) ⟨⟨_, _, rfl, ?_, ?_⟩, ⟨_, ⟨_, _, _, _, _, ?_, ?_, rfl⟩, rfl⟩⟩)
  all_goals first | exact Int.fmod_nonneg_of_pos _ (by omega) | exact Int.fmod_lt_of_pos _ (by omega) | exact fm_lo _ | exact fm_hi _ | omega
end Mine
namespace Mine
local macro_rules | `(tactic| k_all) => `(tactic| assumption)
local macro_rules | `(tactic| k_mem) => `(tactic| assumption)
set_option maxHeartbeats 8000000 in
theorem one_tells (w : World) (mean : ExcName → Option Value) (mg mb : Str → Option Value) (b l : Addr) (o : Obj) (vs : List Value) (n : Nat) (rest : Led) (ho : BagOk o) (hv : 1 ≤ vs.length ∧ vs.length ≤ 4) (hb : Off b rest) (hl : (l, listOf vs.toArray n) ∈ rest) :
    Tell w mean mg mb 49 [.ref b, .ref l] 20 200 ((b, o) :: rest)
      (fun r news' => r ∈ vs ∧ ∃ o', BagOk o' ∧ news' = (b, o') :: rest) := by
  (w_top off; unfold Tell; k_fill; intro dp un gd env outer A₀ base h₀ L m s Q E B F X N T hf hk hdp hun hret; refine wpAny_call ?_; k_dflt (refine' code_def ?k1 ?k2 ?k3 ?k4 ?k5 ?kA ?kF ?kK ?k6 ?k7 ?k8 ?k9 ?kB ?_ ?c2 ?c3 ?c4 ?c5; (case kA => exact rfl); (case kF => assumption); (case kK => assumption); (case k1 => k_asm); (case k2 => k_asm); (case k3 => k_asm); (case k4 => k_asm); (case k5 => k_asm); (case k6 => k_is); (case k7 => k_is); (case k8 => (simp only [recursionLimit] at *; omega)); (case k9 => exact BindsTo.of_eq rfl); (case c5 => decide); (case kB => exact locs rfl); (case c2 => exact rfl); (case c3 => exact rfl); (case c4 => exact rfl); k_whole; intro g1 L1 h1 FG1 F1 N1 B1 X1 T1; (try dsimp only); (try k_fold)))
  k_steps
  refine len_list (N1.isList (.tail _ hl)) (by simp; omega) ?_
  k_steps
  (refine' tell_use ?k1 ?k2 ?k3 ?k4 ?k5 ?kF ?kK ?kd ?ku (pick_tells w mean mg mb b o _ _ rest ho ?ht hb) ?sub ?_; (case k1 => k_asm); (case k2 => k_asm); (case k3 => k_asm); (case k4 => k_asm); (case k5 => k_asm); (case kF => first | exact rfl | assumption); (case kK => first | exact rfl | assumption); (case kd => ((simp only [depth_under_make, depth_under_kw, depth_in1, depth_deeper, depth_caller, recursionLimit] at *); omega)); (case ku => ((have hcL9 := cLine_is); (simp only [units_in1, units_deeper, Around.mark_units, units_caller] at *); omega)))
  case ht => simp; omega
  case sub => exact fun p hp => hp
  rintro r news' h' tk' F' N' ⟨⟨k, tk, rfl, hk0, hk1⟩, o', ho', rfl⟩
  k_steps
  have hk2 : k.toNat < vs.length := by simp at hk1; omega
  refine item_list (N'.isList (.tail _ hl)) hk0 (by simp at hk1; omega) (x := vs[k.toNat]) (by simp [hk2]) ?_
  k_steps
  exact hret _ _ _ _ (by assumption) (by assumption) ⟨List.getElem_mem hk2, _, ho', rfl⟩
end Mine
namespace Mine
section
variable {prog : Program} {w : World} {A : Around} {E : Value → Shared → Prop} {s : Shared} {env : Env} {h₀ : Heap} {x : Str} {body : List Stmt} {Q : Flow → Shared → Prop}

/-- a turn's end: the iterator as it stood, what J says of the frame and of the rest -/
def TurnEnd (h₀ : Heap) (L I : Addr) (oI : Obj) (J : (Str → Option Value) → Led → Prop) (s₁ s₂ : Shared) : Prop :=
  ∃ h' tk m' nx, s₂ = { s₁ with heap := h', toks := tk } ∧ Fr h₀ L h' m' ∧ News h₀ L h' ((I, oI) :: nx) ∧ Off I nx ∧ J m' nx
def TurnPost (h₀ : Heap) (L I : Addr) (oI : Obj) (J : (Str → Option Value) → Led → Prop) (s₁ : Shared) (Q : Flow → Shared → Prop) (f : Flow) (s₂ : Shared) : Prop :=
  match f with
  | .ret v => Q (.ret v) s₂
  | .brk => Q .next s₂
  | _ => TurnEnd h₀ L I oI J s₁ s₂
theorem TurnEnd.intro {L I : Addr} {oI : Obj} {J : (Str → Option Value) → Led → Prop} {s₁ : Shared} {h' : Heap} {tk : Nat} {m' : Str → Option Value} {nx : Led} (F : Fr h₀ L h' m') (N : News h₀ L h' ((I, oI) :: nx)) (ho : Off I nx) (hj : J m' nx) :
    TurnEnd h₀ L I oI J s₁ { s₁ with heap := h', toks := tk } := ⟨h', tk, m', nx, rfl, F, N, ho, hj⟩

theorem loop_at {I : Addr} {fp : List Addr} {n : Nat} {P : Nat → Value → Prop} {St : Nat → Heap → Prop} {m₀ : Str → Option Value} {news : Led} (J : Nat → (Str → Option Value) → Led → Prop)
    (W : Walks prog w A I fp [I] n P St) (hst : St 0 s.heap) (hex : ∀ i h, St i h → ∃ o, h.get? I = some o) (hL : env.locals ∉ fp) (hI0 : h₀.get? I = none)
    (hfp : ∀ c ∈ fp, c = I ∨ ∃ oc, ∀ i m nx, J i m nx → (c, oc) ∈ nx)
    (F : Fr h₀ env.locals s.heap m₀) (N : News h₀ env.locals s.heap news) (hoff : Off I news) (hj : J 0 m₀ news)
    (turn : ∀ i v m₁ nx h tk oI, i < n → P i v → J i m₁ nx → Off I nx → Fr h₀ env.locals h (fun y => if y = x then some v else m₁ y) → News h₀ env.locals h ((I, oI) :: nx) →
      wpAny (model prog w) A (execs body env) (TurnPost h₀ env.locals I oI (J (i + 1)) { s with heap := h, toks := tk } Q) E { s with heap := h, toks := tk })
    (done : ∀ m₁ nx h tk, J n m₁ nx → Fr h₀ env.locals h m₁ → News h₀ env.locals h nx → Q .next { s with heap := h, toks := tk }) :
    LoopAtV prog w A h₀ env x body Q E (.ref I) s := by
  refine ⟨I, fp, [I], n, P, St, m₀, news, J, rfl, W, hL, ?_, ?_, hst, F, N, hj, ?_, ?_⟩
  · intro b hb; rw [List.mem_singleton.mp hb]; exact hI0
  · intro p hp hb; exact hoff p hp (List.mem_singleton.mp hb)
  · rintro i v m₁ news₁ s₁ own ⟨hh', tk', rfl⟩ hin hP hJ ho hown hget hfree hSt F₁ N₁
    have ho' : Off I news₁ := fun p hp e => ho p hp (List.mem_singleton.mpr e)
    obtain ⟨oI, hoI⟩ := hex _ _ hSt
    have hIfp : I ∈ fp := W.sub I (List.mem_singleton.mpr rfl)
    have hIown : (I, oI) ∈ own := hfree I hIfp hI0 oI hoI
    have N₂ : News h₀ env.locals hh' ((I, oI) :: news₁) := by
      intro p hp
      rcases List.mem_cons.mp hp with rfl | hp
      · exact N₁ _ (List.mem_append.mpr (.inl hIown))
      · exact N₁ _ (List.mem_append.mpr (.inr hp))
    refine wpAny_mono (turn i v m₁ news₁ hh' tk' oI hin hP hJ ho' F₁ N₂) (fun f s₂ p => ?_) fun _ _ e => e
    have fin : TurnEnd h₀ env.locals I oI (J (i + 1)) { s with heap := hh', toks := tk' } s₂ → LoopStepU h₀ env.locals [I] own (J (i + 1)) { s with heap := hh', toks := tk' } .next s₂ := by
      rintro ⟨h', tk, m', nx, e, F', N', ho2, hj'⟩
      refine ⟨rfl, h', tk, m', nx, e, F', ?_, fun p hp hb => ho2 p hp (List.mem_singleton.mp hb), hj'⟩
      intro p hp
      rcases List.mem_append.mp hp with hp | hp
      · have hg : hh'.get? p.1 = some p.2 := hget p hp
        rcases hfp _ (hown p hp) with h1 | ⟨oc, h1⟩
        · have hg' : hh'.get? I = some p.2 := h1 ▸ hg
          rw [hoI] at hg'
          have e2 : p = (I, oI) := Prod.ext h1 (Option.some.inj hg').symm
          rw [e2]; exact N' _ (.head _)
        · have h2 := (N₁ _ (List.mem_append.mpr (.inr (h1 _ _ _ hJ)))).1
          rw [hg] at h2
          have e2 : p = (p.1, oc) := Prod.ext rfl (Option.some.inj h2)
          rw [e2]; exact N' _ (.tail _ (h1 _ _ _ hj'))
      · exact N' _ (.tail _ hp)
    cases f with
    | ret v => exact .ret p
    | brk => exact .brk p
    | next => exact .next (fin p)
    | cont => exact .cont (fin p)
  · rintro h' tk m' news' F' N' _ hJ
    exact done m' news' h' tk hJ F' N'

theorem off_next {L : Addr} {news : Led} (N : News h₀ L s.heap news) : Off s.heap.objs.size news := fun p hp e => absurd (Heap.lt_size (N p hp).1) (by rw [e]; exact Nat.lt_irrefl _)
theorem ne_next {L : Addr} {m₀ : Str → Option Value} (F : Fr h₀ L s.heap m₀) : L ≠ s.heap.objs.size := fun e => absurd F.ns.lt (by rw [e]; exact Nat.lt_irrefl _)

theorem iter_listM {l : Addr} {vs : List Value} {nn : Nat} {m₀ : Str → Option Value} {news : Led} (J : Nat → (Str → Option Value) → Led → Prop)
    (hh : A.handled = none) (hJ : ∀ i m nx, J i m nx → (l, listOf vs.toArray nn) ∈ nx) (F : Fr h₀ env.locals s.heap m₀) (N : News h₀ env.locals s.heap news) (hj : J 0 m₀ news)
    (turn : ∀ i v m₁ nx h tk I oI, vs[i]? = some v → J i m₁ nx → Off I nx → Fr h₀ env.locals h (fun y => if y = x then some v else m₁ y) → News h₀ env.locals h ((I, oI) :: nx) →
      wpAny (model prog w) A (execs body env) (TurnPost h₀ env.locals I oI (J (i + 1)) { s with heap := h, toks := tk } Q) E { s with heap := h, toks := tk })
    (done : ∀ m₁ nx h tk, J vs.length m₁ nx → Fr h₀ env.locals h m₁ → News h₀ env.locals h nx → Q .next { s with heap := h, toks := tk }) :
    wpAny (model prog w) A (pyIter (.ref l)) (fun it s₂ => LoopAtV prog w A h₀ env x body Q E it s₂) E s := by
  have hl := hJ _ _ _ hj
  have hol : s.heap.get? l = some (listOf vs.toArray nn) := (N _ hl).1
  have hls : s.heap.IsList l vs.toArray := ⟨_, hol, rfl, nn, rfl⟩
  have hne : l ≠ s.heap.objs.size := Nat.ne_of_lt (Heap.lt_size hol)
  refine wpAny_pyIter_list hls ?_
  have W := Walks.list (prog := prog) (w := w) hh s.heap.objs.size l hne vs.toArray
  have hlen : vs.toArray.size = vs.length := by simp
  rw [hlen] at W
  refine loop_at (s := { s with heap := s.heap.push { cls := .type "list_iterator", data := .fields #[.ref l, .int 0 0] } }) J W ⟨⟨_, Heap.get?_push_size _ rfl, rfl, rfl⟩, hls.at fun o e => Heap.get?_push_of_some _ e⟩ (fun i h st => let ⟨⟨o, e, _⟩, _⟩ := st; ⟨o, e⟩) ?_ (next_is_new F) ?_ (F.push _) (fun p hp => ⟨Heap.get?_push_of_some _ (N p hp).1, (N p hp).2⟩) (off_next N) hj ?_ done
  · intro hm
    rcases List.mem_cons.mp hm with e | hm
    · exact ne_next F e
    · exact (N _ hl).2.1 ((List.mem_singleton.mp hm).symm)
  · intro c hc
    rcases List.mem_cons.mp hc with e | hc
    · exact .inl e
    · rw [List.mem_singleton.mp hc]; exact .inr ⟨_, hJ⟩
  · intro i v m₁ nx h tk oI hi hP hj' ho F' N'
    exact turn i v m₁ nx h tk _ oI (by simpa using hP) hj' ho F' N'

abbrev tupOf (vs : List Value) (n : Nat) : Obj := { cls := .type "tuple", data := .seq vs.toArray n }
theorem iter_tupM {l : Addr} {vs : List Value} {nn : Nat} {m₀ : Str → Option Value} {news : Led} (J : Nat → (Str → Option Value) → Led → Prop)
    (hh : A.handled = none) (hJ : ∀ i m nx, J i m nx → (l, tupOf vs nn) ∈ nx) (F : Fr h₀ env.locals s.heap m₀) (N : News h₀ env.locals s.heap news) (hj : J 0 m₀ news)
    (turn : ∀ i v m₁ nx h tk I oI, vs[i]? = some v → J i m₁ nx → Off I nx → Fr h₀ env.locals h (fun y => if y = x then some v else m₁ y) → News h₀ env.locals h ((I, oI) :: nx) →
      wpAny (model prog w) A (execs body env) (TurnPost h₀ env.locals I oI (J (i + 1)) { s with heap := h, toks := tk } Q) E { s with heap := h, toks := tk })
    (done : ∀ m₁ nx h tk, J vs.length m₁ nx → Fr h₀ env.locals h m₁ → News h₀ env.locals h nx → Q .next { s with heap := h, toks := tk }) :
    wpAny (model prog w) A (pyIter (.ref l)) (fun it s₂ => LoopAtV prog w A h₀ env x body Q E it s₂) E s := by
  have hl := hJ _ _ _ hj
  have hol : s.heap.get? l = some (tupOf vs nn) := (N _ hl).1
  have hls : s.heap.IsTuple l vs.toArray := ⟨_, hol, rfl, nn, rfl⟩
  have hne : l ≠ s.heap.objs.size := Nat.ne_of_lt (Heap.lt_size hol)
  refine wpAny_pyIter_tuple hls ?_
  have W := Walks.tuple (prog := prog) (w := w) hh s.heap.objs.size l hne vs.toArray
  have hlen : vs.toArray.size = vs.length := by simp
  rw [hlen] at W
  refine loop_at (s := { s with heap := s.heap.push { cls := .type "tuple_iterator", data := .fields #[.ref l, .int 0 0] } }) J W ⟨⟨_, Heap.get?_push_size _ rfl, rfl, rfl⟩, hls.at fun o e => Heap.get?_push_of_some _ e⟩ (fun i h st => let ⟨⟨o, e, _⟩, _⟩ := st; ⟨o, e⟩) ?_ (next_is_new F) ?_ (F.push _) (fun p hp => ⟨Heap.get?_push_of_some _ (N p hp).1, (N p hp).2⟩) (off_next N) hj ?_ done
  · intro hm
    rcases List.mem_cons.mp hm with e | hm
    · exact ne_next F e
    · exact (N _ hl).2.1 ((List.mem_singleton.mp hm).symm)
  · intro c hc
    rcases List.mem_cons.mp hc with e | hc
    · exact .inl e
    · rw [List.mem_singleton.mp hc]; exact .inr ⟨_, hJ⟩
  · intro i v m₁ nx h tk oI hi hP hj' ho F' N'
    exact turn i v m₁ nx h tk _ oI (by simpa using hP) hj' ho F' N'

theorem iter_rangeM {r : Addr} {a₀ b₀ c₀ : Int} {t₀ u₀ v₀ : Tok} {n : Nat} {m₀ : Str → Option Value} {news : Led} (J : Nat → (Str → Option Value) → Led → Prop)
    (hh : A.handled = none) (hr : IsRange s.heap r a₀ b₀ c₀ t₀ u₀ v₀) (hsmall : Builtin.Range.small a₀ b₀ c₀ = true) (hn : Builtin.Range.rangeSize a₀ b₀ c₀ = (n : Int))
    (F : Fr h₀ env.locals s.heap m₀) (N : News h₀ env.locals s.heap news) (hj : J 0 m₀ news)
    (turn : ∀ i t m₁ nx h tk I oI, i < n → J i m₁ nx → Off I nx → Fr h₀ env.locals h (fun y => if y = x then some (.int (a₀ + i * c₀) t) else m₁ y) → News h₀ env.locals h ((I, oI) :: nx) →
      wpAny (model prog w) A (execs body env) (TurnPost h₀ env.locals I oI (J (i + 1)) { s with heap := h, toks := tk } Q) E { s with heap := h, toks := tk })
    (done : ∀ m₁ nx h tk, J n m₁ nx → Fr h₀ env.locals h m₁ → News h₀ env.locals h nx → Q .next { s with heap := h, toks := tk }) :
    wpAny (model prog w) A (pyIter (.ref r)) (fun it s₂ => LoopAtV prog w A h₀ env x body Q E it s₂) E s := by
  refine wpAny_pyIter_range hr hsmall ?_
  have W := Walks.range (prog := prog) (w := w) hh s.heap.objs.size a₀ c₀ n
  refine loop_at (s := { s with heap := s.heap.push { cls := .type "range_iterator", data := .fields #[rawInt a₀, rawInt (Builtin.Range.rangeSize a₀ b₀ c₀), rawInt c₀] } }) J W (by show IsRangeIter _ _ _ _ _; rw [hn]; simpa using Heap.get?_push_size _ rfl) (fun i h st => ⟨_, st⟩) ?_ (next_is_new F) ?_ (F.push _) (fun p hp => ⟨Heap.get?_push_of_some _ (N p hp).1, (N p hp).2⟩) (off_next N) hj ?_ done
  · intro hm
    exact ne_next F (List.mem_singleton.mp hm)
  · intro c hc
    exact .inl (List.mem_singleton.mp hc)
  · rintro i v m₁ nx h tk oI hi ⟨t, rfl⟩ hj' ho F' N'
    exact turn i t m₁ nx h tk _ oI hi hj' ho F' N'

theorem ite_one {x y : Str} {m' m₀ : Str → Option Value} {v : Value} (ha : m' y = some v) (hm : ∀ z, z ≠ x → z ≠ y → m' z = m₀ z) : m' = fun z => if z = x then m' z else if z = y then some v else m₀ z := (done_one ha hm).symm

/-- a loop over a list of the ledger's that stores one name besides its own -/
theorem iter_list1 {σ : Type} (y : Str) (V : σ → Value) (R : Nat → σ → Led → Prop) {l : Addr} {vs : List Value} {nn : Nat} {m₀ : Str → Option Value} {news : Led} (st₀ : σ)
    (hh : A.handled = none) (hR : ∀ i st nx, R i st nx → (l, listOf vs.toArray nn) ∈ nx) (F : Fr h₀ env.locals s.heap m₀) (N : News h₀ env.locals s.heap news) (hy : m₀ y = some (V st₀)) (hj : R 0 st₀ news)
    (turn : ∀ i v st nx h tk I oI, vs[i]? = some v → R i st nx → Off I nx → Fr h₀ env.locals h (fun z => if z = x then some v else if z = y then some (V st) else m₀ z) → News h₀ env.locals h ((I, oI) :: nx) →
      wpAny (model prog w) A (execs body env) (TurnPost h₀ env.locals I oI (fun m' nx => (∃ st', m' y = some (V st') ∧ R (i + 1) st' nx) ∧ ∀ z, z ≠ x → z ≠ y → m' z = m₀ z) { s with heap := h, toks := tk } Q) E { s with heap := h, toks := tk })
    (done : ∀ (u : Str → Option Value) st nx h tk, R vs.length st nx → Fr h₀ env.locals h (fun z => if z = x then u z else if z = y then some (V st) else m₀ z) → News h₀ env.locals h nx → Q .next { s with heap := h, toks := tk }) :
    wpAny (model prog w) A (pyIter (.ref l)) (fun it s₂ => LoopAtV prog w A h₀ env x body Q E it s₂) E s := by
  refine iter_listM (nn := nn) (fun i m nx => (∃ st, m y = some (V st) ∧ R i st nx) ∧ ∀ z, z ≠ x → z ≠ y → m z = m₀ z) hh (fun i m nx hJ => let ⟨⟨st, _, hr⟩, _⟩ := hJ; hR i st nx hr) F N ⟨⟨st₀, hy, hj⟩, fun _ _ _ => rfl⟩ ?_ ?_
  · rintro i v m₁ nx h tk I oI hv ⟨⟨st, h1, h2⟩, hm⟩ ho F₁ N₁
    refine turn i v st nx h tk I oI hv h2 ho ?_ N₁
    have e : (fun z => if z = x then some v else m₁ z) = fun z => if z = x then some v else if z = y then some (V st) else m₀ z := map_one h1 hm
    rw [← e]; exact F₁
  · rintro m₁ nx h tk ⟨⟨st, h1, h2⟩, hm⟩ F₁ N₁
    refine done m₁ st nx h tk h2 ?_ N₁
    rw [done_one h1 hm]; exact F₁

/-- a loop over a tuple of the ledger's that stores no name besides its own -/
theorem iter_tup0 (R : Nat → Led → Prop) {l : Addr} {vs : List Value} {nn : Nat} {m₀ : Str → Option Value} {news : Led}
    (hh : A.handled = none) (hR : ∀ i nx, R i nx → (l, tupOf vs nn) ∈ nx) (F : Fr h₀ env.locals s.heap m₀) (N : News h₀ env.locals s.heap news) (hj : R 0 news)
    (turn : ∀ i v nx h tk I oI, vs[i]? = some v → R i nx → Off I nx → Fr h₀ env.locals h (fun z => if z = x then some v else m₀ z) → News h₀ env.locals h ((I, oI) :: nx) →
      wpAny (model prog w) A (execs body env) (TurnPost h₀ env.locals I oI (fun m' nx => R (i + 1) nx ∧ ∀ z, z ≠ x → m' z = m₀ z) { s with heap := h, toks := tk } Q) E { s with heap := h, toks := tk })
    (done : ∀ (u : Str → Option Value) nx h tk, R vs.length nx → Fr h₀ env.locals h (fun z => if z = x then u z else m₀ z) → News h₀ env.locals h nx → Q .next { s with heap := h, toks := tk }) :
    wpAny (model prog w) A (pyIter (.ref l)) (fun it s₂ => LoopAtV prog w A h₀ env x body Q E it s₂) E s := by
  refine iter_tupM (nn := nn) (fun i m nx => R i nx ∧ ∀ z, z ≠ x → m z = m₀ z) hh (fun i m nx hJ => hR i nx hJ.1) F N ⟨hj, fun _ _ => rfl⟩ ?_ ?_
  · rintro i v m₁ nx h tk I oI hv ⟨h2, hm⟩ ho F₁ N₁
    refine turn i v nx h tk I oI hv h2 ho ?_ N₁
    have e : (fun z => if z = x then some v else m₁ z) = fun z => if z = x then some v else m₀ z := map_none hm
    rw [← e]; exact F₁
  · rintro m₁ nx h tk ⟨h2, hm⟩ F₁ N₁
    refine done m₁ nx h tk h2 ?_ N₁
    rw [done_none hm]; exact F₁

/-- a loop over a range that stores no name besides its own -/
theorem iter_range0 (R : Nat → Led → Prop) {r : Addr} {a₀ b₀ c₀ : Int} {t₀ u₀ v₀ : Tok} {n : Nat} {m₀ : Str → Option Value} {news : Led}
    (hh : A.handled = none) (hr : IsRange s.heap r a₀ b₀ c₀ t₀ u₀ v₀) (hsmall : Builtin.Range.small a₀ b₀ c₀ = true) (hn : Builtin.Range.rangeSize a₀ b₀ c₀ = (n : Int))
    (F : Fr h₀ env.locals s.heap m₀) (N : News h₀ env.locals s.heap news) (hj : R 0 news)
    (turn : ∀ i t nx h tk I oI, i < n → R i nx → Off I nx → Fr h₀ env.locals h (fun z => if z = x then some (.int (a₀ + i * c₀) t) else m₀ z) → News h₀ env.locals h ((I, oI) :: nx) →
      wpAny (model prog w) A (execs body env) (TurnPost h₀ env.locals I oI (fun m' nx => R (i + 1) nx ∧ ∀ z, z ≠ x → m' z = m₀ z) { s with heap := h, toks := tk } Q) E { s with heap := h, toks := tk })
    (done : ∀ (u : Str → Option Value) nx h tk, R n nx → Fr h₀ env.locals h (fun z => if z = x then u z else m₀ z) → News h₀ env.locals h nx → Q .next { s with heap := h, toks := tk }) :
    wpAny (model prog w) A (pyIter (.ref r)) (fun it s₂ => LoopAtV prog w A h₀ env x body Q E it s₂) E s := by
  refine iter_rangeM (fun i m nx => R i nx ∧ ∀ z, z ≠ x → m z = m₀ z) hh hr hsmall hn F N ⟨hj, fun _ _ => rfl⟩ ?_ ?_
  · rintro i t m₁ nx h tk I oI hv ⟨h2, hm⟩ ho F₁ N₁
    refine turn i t nx h tk I oI hv h2 ho ?_ N₁
    have e : (fun z => if z = x then some (Value.int (a₀ + i * c₀) t) else m₁ z) = fun z => if z = x then some (.int (a₀ + i * c₀) t) else m₀ z := map_none hm
    rw [← e]; exact F₁
  · rintro m₁ nx h tk ⟨h2, hm⟩ F₁ N₁
    refine done m₁ nx h tk h2 ?_ N₁
    rw [done_none hm]; exact F₁
end
end Mine
namespace Mine
local macro_rules | `(tactic| k_all) => `(tactic| assumption)
local macro_rules | `(tactic| k_mem) => `(tactic| assumption)
def All2 {α β : Type} (R : α → β → Prop) (as : List α) (bs : List β) : Prop := as.length = bs.length ∧ ∀ (i : Nat) (a : α) (b : β), as[i]? = some a → bs[i]? = some b → R a b
def IsStr (v : Value) (t : Str) : Prop := ∃ tk, v = .str t tk
def joinStep (sg acc part : Str) : Str := if acc == Str.ofString "" then part else acc ++ sg ++ part
def joined (sg : Str) (ts : List Str) : Str := ts.foldl (joinStep sg) (Str.ofString "")
theorem joined_succ {sg t : Str} {ts : List Str} {i : Nat} (h : ts[i]? = some t) : joined sg (ts.take (i + 1)) = joinStep sg (joined sg (ts.take i)) t := by
  unfold joined
  rw [List.take_add_one, h]; simp
theorem joined_len {sg : Str} {ts : List Str} (hsg : sg.length ≤ 1) (hts : ∀ t ∈ ts, t.length ≤ 1000) : ∀ i : Nat, (joined sg (ts.take i)).length ≤ 1001 * i
  | 0 => by
    show (Str.ofString "").length ≤ 0
    decide
  | i + 1 => by
    have ih := joined_len hsg hts i
    cases h : ts[i]? with
    | none =>
      have : ts.length ≤ i := by simpa using h
      rw [List.take_of_length_le (by omega)]
      rw [List.take_of_length_le this] at ih
      omega
    | some t =>
      have ht := hts t (List.mem_of_getElem? h)
      rw [joined_succ h, joinStep]
      split
      · omega
      · rw [Str.length_append, Str.length_append]; omega
set_option maxHeartbeats 8000000 in
theorem joined_tells (w : World) (mean : ExcName → Option Value) (mg mb : Str → Option Value) (l : Addr) (vs : List Value) (ts : List Str) (sg : Str) (tk : Tok) (n : Nat) (rest : Led) (hv : All2 IsStr vs ts) (hl : (l, listOf vs.toArray n) ∈ rest)
    (hlen : ts.length ≤ 10) (hts : ∀ t ∈ ts, t.length ≤ 1000) (hsg : sg.length ≤ 1) :
    Tell w mean mg mb 56 [.ref l, .str sg tk] 20 200 rest
      (fun r news' => (∃ tk, r = .str (joined sg ts) tk) ∧ news' = rest) := by
  (w_top off; unfold Tell; k_fill; intro dp un gd env outer A₀ base h₀ L m s Q E B F X N T hf hk hdp hun hret; refine wpAny_call ?_; k_dflt (refine' code_def ?k1 ?k2 ?k3 ?k4 ?k5 ?kA ?kF ?kK ?k6 ?k7 ?k8 ?k9 ?kB ?_ ?c2 ?c3 ?c4 ?c5; (case kA => exact rfl); (case kF => assumption); (case kK => assumption); (case k1 => k_asm); (case k2 => k_asm); (case k3 => k_asm); (case k4 => k_asm); (case k5 => k_asm); (case k6 => k_is); (case k7 => k_is); (case k8 => (simp only [recursionLimit] at *; omega)); (case k9 => exact BindsTo.of_eq rfl); (case c5 => decide); (case kB => exact locs rfl); (case c2 => exact rfl); (case c3 => exact rfl); (case c4 => exact rfl); k_whole; intro g1 L1 h1 FG1 F1 N1 B1 X1 T1; (try dsimp only); (try k_fold)))
  k_steps
  ((rename Fr _ _ _ _ => lF'); (with_unfolding_all refine' For_invVF lF' ?k1 ?k2 ?_; (case k1 => exact rfl); (case k2 => exact rfl); k_whole))
  k_steps
  (rename Fr _ _ _ _ => lF); (rename News _ _ _ _ => lN)
  refine' iter_list1 (Str.ofString "found") (fun st : Str × Tok => .str st.1 st.2) (fun i st nx => nx = rest ∧ st.1 = joined sg (ts.take i)) (nn := n) (Str.ofString "", ?tk0) ?hh ?hR ?F ?N ?hy ?hj ?turn ?done
  case hh => exact rfl
  case hR => exact fun i st nx h => h.1 ▸ hl
  case F => exact lF
  case N => exact lN
  case hy => exact rfl
  case hj => exact ⟨rfl, rfl⟩
  · rintro i v ⟨acc, ta⟩ nx h tk I oI hvi ⟨rfl, rfl⟩ ho F' N'
    obtain ⟨ti, hti⟩ : ∃ ti, ts[i]? = some ti := by
      have := hv.1
      have h2 : i < vs.length := by rcases Nat.lt_or_ge i vs.length with h | h; exact h; simp [h] at hvi
      exact ⟨_, List.getElem?_eq_getElem (by omega)⟩
    obtain ⟨tki, rfl⟩ := hv.2 i v ti hvi hti
    have hacc : (joined sg (ts.take i)).length ≤ 1001 * i := joined_len hsg hts i
    have hti1 : ti.length ≤ 1000 := hts _ (List.mem_of_getElem? hti)
    have hi10 : i < ts.length := by
      rcases Nat.lt_or_ge i ts.length with h | h
      · exact h
      · simp [h] at hti
    k_steps
    · rename (joined sg (ts.take i) == Str.ofString "") = true => hb
      exact TurnEnd.intro (by assumption) (by assumption) ho ⟨⟨(_, _), rfl, rfl, by rw [joined_succ hti, joinStep, if_pos hb]⟩, fun z h1 h2 => by simp [h1, h2]⟩
    · rename (joined sg (ts.take i) == Str.ofString "") = false => hb
      exact TurnEnd.intro (by assumption) (by assumption) ho ⟨⟨(_, _), rfl, rfl, by rw [joined_succ hti, joinStep, if_neg (by rw [hb]; decide)]⟩, fun z h1 h2 => by simp [h1, h2]⟩
  · rintro u ⟨acc, ta⟩ nx h tk ⟨rfl, rfl⟩ F' N'
    k_steps
    refine hret _ _ _ _ (by assumption) (by assumption) ⟨⟨ta, ?_⟩, rfl⟩
    rw [hv.1, List.take_length]
end Mine
namespace Mine
local macro_rules | `(tactic| k_all) => `(tactic| assumption)
local macro_rules | `(tactic| k_mem) => `(tactic| assumption)
inductive It where
  | s (t : Str)
  | v (v : Value)
inductive Is : Value → It → Prop where
  | s {t : Str} {tk : Tok} : Is (.str t tk) (.s t)
  | v {v : Value} : Is v (.v v)
theorem All2.push {α β : Type} {R : α → β → Prop} {as : List α} {bs : List β} {a : α} {b : β} (h : All2 R as bs) (hab : R a b) : All2 R (as ++ [a]) (bs ++ [b]) := by
  refine ⟨by simp [h.1], fun i x y hx hy => ?_⟩
  have h1 := h.1
  rw [List.getElem?_append] at hx hy
  split at hx
  · rw [if_pos (by omega)] at hy; exact h.2 i x y hx hy
  · rw [if_neg (by omega)] at hy
    have e : bs.length = as.length := h1.symm
    rw [e] at hy
    cases hi : i - as.length with
    | zero => rw [hi] at hx hy; simp at hx hy; subst hx; subst hy; exact hab
    | succ j => rw [hi] at hx; simp at hx
/-- what group_pieces has found behind i turns: the group's items from behind -/
def gp (sign mk : Str) (vs : List Value) : Nat → List It
  | 0 => [.s (Str.ofString ")" ++ mk)]
  | i + 1 => gp sign mk vs i ++ [.v (vs.getD (vs.length - 1 - i) .none)] ++ [.s (if vs.length - 1 - i > 0 then sign else Str.ofString "(")]
theorem gp_len (sign mk : Str) (vs : List Value) : ∀ i, (gp sign mk vs i).length = 2 * i + 1
  | 0 => rfl
  | i + 1 => by simp [gp, gp_len sign mk vs i]; omega
def signOf (kind : Str) : Str := if kind == Str.ofString "choice" then Str.ofString "|" else Str.ofString ","
theorem off_of_lt {d : Addr} {l : Led} (h : AllLt d l) : Off d l := fun p hp => Nat.ne_of_lt (ktn_ltOf h p hp)
theorem off_swap {I lx : Addr} {o o' : Obj} {rest : Led} (h : Off I ((lx, o) :: rest)) : Off I ((lx, o') :: rest) := fun p hp => by
  rcases List.mem_cons.mp hp with rfl | hp
  · exact h (lx, o) (.head _)
  · exact h p (.tail _ hp)
theorem name_lt {rest : Led} {x : Addr} (h : ∀ p ∈ rest, p.1 < x) : ∃ y, y = x ∧ ∀ p ∈ rest, p.1 < y := ⟨x, rfl, h⟩
local macro_rules | `(tactic| size_fits) => `(tactic| ((simp only [List.size_toArray, Array.size_push, sizeLine_eq]); omega))
set_option maxHeartbeats 8000000 in
theorem gp_tells (w : World) (mean : ExcName → Option Value) (mg mb : Str → Option Value) (a c : Addr) (kind mk : Str) (t1 t2 : Tok) (n1 n2 : Nat) (vs : List Value) (rest : Led)
    (hmk : mk.length ≤ 1) (hvs : 1 ≤ vs.length ∧ vs.length ≤ 3)
    (ha : (a, tupOf [.str kind t1, .ref c, .str mk t2] n1) ∈ rest) (hc : (c, tupOf vs n2) ∈ rest) :
    Tell w mean mg mb 28 [.ref a] 20 200 rest
      (fun r news' => ∃ l items n, r = .ref l ∧ All2 Is items (gp (signOf kind) mk vs vs.length) ∧ news' = (l, listOf items.toArray n) :: rest ∧ Off l rest) := by
  (w_top off; unfold Tell; k_fill; intro dp un gd env outer A₀ base h₀ L m s Q E B F X N T hf hk hdp hun hret; refine wpAny_call ?_; k_dflt (refine' code_def ?k1 ?k2 ?k3 ?k4 ?k5 ?kA ?kF ?kK ?k6 ?k7 ?k8 ?k9 ?kB ?_ ?c2 ?c3 ?c4 ?c5; (case kA => exact rfl); (case kF => assumption); (case kK => assumption); (case k1 => k_asm); (case k2 => k_asm); (case k3 => k_asm); (case k4 => k_asm); (case k5 => k_asm); (case k6 => k_is); (case k7 => k_is); (case k8 => (simp only [recursionLimit] at *; omega)); (case k9 => exact BindsTo.of_eq rfl); (case c5 => decide); (case kB => exact locs rfl); (case c2 => exact rfl); (case c3 => exact rfl); (case c4 => exact rfl); k_whole; intro g1 L1 h1 FG1 F1 N1 B1 X1 T1; (try dsimp only); (try k_fold)))
  (repeat' ((fail_if_success (with_reducible show wpAny _ _ (exec (Stmt.For _ _ _ _ _) _) _ _ _)); (fail_if_success (with_reducible show wpAny _ _ (exec (Stmt.While _ _ _ _) _) _ _ _)); (fail_if_success (with_reducible show wpAny _ _ (eval (Expr.ListComp _ _ _ _) _) _ _ _)); (fail_if_success (with_reducible show wpAny _ _ (exec (Stmt.Assign _ (Expr.ListComp _ _ _ _) _) _) _ _ _)); (fail_if_success (with_reducible show wpAny _ _ (call (Value.type "range") _ _) _ _ _)); (fail_if_success (with_reducible show wpAny _ _ (pyIter _) _ _ _)); first | (k_unfold; (try dsimp only)) | (k_end; kc_close) | walk1 | (dsimp only; walk1) | (leave1; walk_say "STEP leave1"; (try dsimp only)) | fail "no step"))
  all_goals (
    (rename ∀ p ∈ rest, p.1 < _ => l1)
    obtain ⟨lx, elx, l2⟩ := name_lt l1; subst elx
    have hlR : ∀ p ∈ rest, p.1 ≠ lx := fun p hp => Nat.ne_of_lt (l2 p hp)
    (rename (kind == Str.ofString "choice") = _ => hkd)
    ((rename Fr _ _ _ _ => lF'); (with_unfolding_all refine' For_invVF lF' ?k1 ?k2 ?_; (case k1 => exact rfl); (case k2 => exact rfl); k_whole))
    (repeat' ((fail_if_success (with_reducible show wpAny _ _ (exec (Stmt.For _ _ _ _ _) _) _ _ _)); (fail_if_success (with_reducible show wpAny _ _ (exec (Stmt.While _ _ _ _) _) _ _ _)); (fail_if_success (with_reducible show wpAny _ _ (eval (Expr.ListComp _ _ _ _) _) _ _ _)); (fail_if_success (with_reducible show wpAny _ _ (exec (Stmt.Assign _ (Expr.ListComp _ _ _ _) _) _) _ _ _)); (fail_if_success (with_reducible show wpAny _ _ (call (Value.type "range") _ _) _ _ _)); (fail_if_success (with_reducible show wpAny _ _ (pyIter _) _ _ _)); first | (k_unfold; (try dsimp only)) | (k_end; kc_close) | walk1 | (dsimp only; walk1) | (leave1; walk_say "STEP leave1"; (try dsimp only)) | fail "no step"))
    (rename News _ _ _ _ => lN)
    refine len_tuple (lN.isTup (.tail _ hc)) (by simp; omega) ?_
    (repeat' ((fail_if_success (with_reducible show wpAny _ _ (exec (Stmt.For _ _ _ _ _) _) _ _ _)); (fail_if_success (with_reducible show wpAny _ _ (exec (Stmt.While _ _ _ _) _) _ _ _)); (fail_if_success (with_reducible show wpAny _ _ (eval (Expr.ListComp _ _ _ _) _) _ _ _)); (fail_if_success (with_reducible show wpAny _ _ (exec (Stmt.Assign _ (Expr.ListComp _ _ _ _) _) _) _ _ _)); (fail_if_success (with_reducible show wpAny _ _ (call (Value.type "range") _ _) _ _ _)); (fail_if_success (with_reducible show wpAny _ _ (pyIter _) _ _ _)); first | (k_unfold; (try dsimp only)) | (k_end; kc_close) | walk1 | (dsimp only; walk1) | (leave1; walk_say "STEP leave1"; (try dsimp only)) | fail "no step"))
    (rename News _ _ _ _ => lN2); (rename Fr _ _ _ _ => lF2)
    refine range3_rows lF2 lN2 (by decide) (fun h2 tk2 t2' u2 v2 hR F2 N2 _ => ?_) (Or.inl (PyProof.noPylong_small (by simp)))
    (repeat' ((fail_if_success (with_reducible show wpAny _ _ (exec (Stmt.For _ _ _ _ _) _) _ _ _)); (fail_if_success (with_reducible show wpAny _ _ (exec (Stmt.While _ _ _ _) _) _ _ _)); (fail_if_success (with_reducible show wpAny _ _ (eval (Expr.ListComp _ _ _ _) _) _ _ _)); (fail_if_success (with_reducible show wpAny _ _ (exec (Stmt.Assign _ (Expr.ListComp _ _ _ _) _) _) _ _ _)); (fail_if_success (with_reducible show wpAny _ _ (call (Value.type "range") _ _) _ _ _)); (fail_if_success (with_reducible show wpAny _ _ (pyIter _) _ _ _)); first | (k_unfold; (try dsimp only)) | (k_end; kc_close) | walk1 | (dsimp only; walk1) | (leave1; walk_say "STEP leave1"; (try dsimp only)) | fail "no step"))
    refine' iter_range0 (fun i nx => ∃ items n', nx = (lx, listOf items.toArray n') :: rest ∧ All2 Is items (gp (signOf kind) mk vs i)) ?hh hR ?hs ?hn (n := vs.length) ?F ?N ?hj ?turn ?done
    case hh => exact rfl
    case F => exact F2
    case N => exact N2
    case hs => exact small_down (by simp; omega) (by simp; omega) (by decide) (by decide)
    case hn => rw [rangeSize_downNat]; simp
    case hj => exact ⟨[_], _, rfl, ⟨rfl, fun i x y hx hy => by cases i with | zero => (simp [gp] at hx hy; subst hx; subst hy; exact .s) | succ j => simp at hx⟩⟩
    case turn =>
      rintro i t nx h tk I oI hi ⟨items, n', rfl, hit⟩ ho F' N'
      have hlI := neN (ho (lx, listOf items.toArray n') (.head _)); dsimp only at hlI
      have hil : items.length = 2 * i + 1 := hit.1.trans (gp_len _ _ _ _)
      have hvi : vs[vs.length - 1 - i]? = some (vs.getD (vs.length - 1 - i) .none) := by
        have h0 : vs.length - 1 - i < vs.length := by omega
        simp [List.getD, List.getElem?_eq_getElem h0]
      k_steps
      refine item_tupleT (N'.isTup (.tail _ (.tail _ hc))) (by simp; omega) (by simp; omega) (j := vs.length - 1 - i) ?_ hvi ?_
      · rw [seqIndex_at (by simp; omega) (by simp; omega)]
        simp; omega
      k_steps
      all_goals (
        (first | rename decide (_ > (0 : Int)) = _ => hgt | rename decide ((0 : Int) < _) = _ => hgt | rename (_ > (0 : Int)) => hgt | rename ((0 : Int) < _) => hgt | rename ¬ (_ > (0 : Int)) => hgt | rename ¬ ((0 : Int) < _) => hgt)
        have e2 : (vs.toArray.size : Int) = vs.length := by simp
        refine TurnEnd.intro (by assumption) (by assumption) (off_swap ho) ⟨⟨items ++ [_] ++ [_], _, by simp; exact ⟨rfl, rfl⟩, (hit.push .v).push ?_⟩, fun z h1 => by simp [h1]⟩
        first
          | (rw [if_pos (by simp at hgt; omega), signOf, if_pos hkd]; exact .s)
          | (rw [if_pos (by simp at hgt; omega), signOf, if_neg (by rw [hkd]; decide)]; exact .s)
          | (rw [if_neg (by simp at hgt; omega)]; exact .s))
    case done =>
      rintro u nx h tk ⟨items, n', rfl, hit⟩ F' N'
      k_steps
      exact hret _ _ _ _ (by assumption) (by assumption) ⟨lx, items, n', rfl, hit, rfl, hlR⟩)
end Mine
namespace Mine
def marks : List Str := [Str.ofString "", Str.ofString "?", Str.ofString "*", Str.ofString "+"]
def names : List Str := [Str.ofString "a", Str.ofString "b", Str.ofString "x:y", Str.ofString "long-name"]
def kinds : List Str := [Str.ofString "seq", Str.ofString "choice"]
theorem marks_ok : ∀ mk ∈ marks, mk.length ≤ 1 ∧ PyData.canLay0 (.str mk) = true ∧ PyData.canLay0 (.str (Str.ofString ")" ++ mk)) = true := by decide +kernel
theorem names_ok : ∀ nm ∈ names, 1 ≤ nm.length ∧ nm.length ≤ 9 ∧ PyData.canLay0 (.str nm) = true := by decide +kernel
theorem kinds_ok : ∀ k ∈ kinds, (signOf k).length = 1 ∧ PyData.canLay0 (.str k) = true ∧ PyData.canLay0 (.str (signOf k)) = true ∧ (k == Str.ofString "name") = false := by decide +kernel

/-- the particle that the ledger holds at a value: its depth at most, its text, how many pops write_particle takes for it -/
inductive PartIn (news : Led) : Nat → Value → Str → Nat → Prop where
  | name {d : Nat} {a : Addr} {nm mk : Str} {t0 t1 t2 : Tok} {n : Nat} (h : (a, tupOf [.str (Str.ofString "name") t0, .str nm t1, .str mk t2] n) ∈ news) (hn : nm ∈ names) (hm : mk ∈ marks) : PartIn news d (.ref a) (nm ++ mk) 1
  | group {d : Nat} {a c : Addr} {kind mk : Str} {t1 t2 : Tok} {n1 n2 : Nat} {vs : List Value} {ts : List Str} {ns : List Nat} (h : (a, tupOf [.str kind t1, .ref c, .str mk t2] n1) ∈ news) (hc : (c, tupOf vs n2) ∈ news)
      (hk : kind ∈ kinds) (hm : mk ∈ marks) (hv : 1 ≤ vs.length ∧ vs.length ≤ 3) (ht : ts.length = vs.length) (hs : ns.length = vs.length) (hp : ∀ (i : Nat) (v : Value) (t : Str) (n : Nat), vs[i]? = some v → ts[i]? = some t → ns[i]? = some n → PartIn news d v t n) :
      PartIn news (d + 1) (.ref a) (Str.ofString "(" ++ joined (signOf kind) ts ++ Str.ofString ")" ++ mk) (2 * vs.length + 2 + ns.sum)
theorem PartIn.mono {news news' : Led} {d : Nat} {v : Value} {t : Str} {n : Nat} (h : PartIn news d v t n) (hs : ∀ p ∈ news, p ∈ news') : PartIn news' d v t n := by
  induction h with
  | name h hn hm => exact .name (hs _ h) hn hm
  | group h hc hk hm hv ht hn hp ih => exact .group (hs _ h) (hs _ hc) hk hm hv ht hn ih
theorem PartIn.up {news : Led} {d : Nat} {v : Value} {t : Str} {n : Nat} (h : PartIn news d v t n) : PartIn news (d + 1) v t n := by
  induction h with
  | name h hn hm => exact .name h hn hm
  | group h hc hk hm hv ht hn hp ih => exact .group h hc hk hm hv ht hn ih
theorem len3 {α : Type} : ∀ {l : List α}, 1 ≤ l.length ∧ l.length ≤ 3 → (∃ a, l = [a]) ∨ (∃ a b, l = [a, b]) ∨ ∃ a b c, l = [a, b, c]
  | [], h => by simp at h
  | [a], _ => .inl ⟨a, rfl⟩
  | [a, b], _ => .inr (.inl ⟨a, b, rfl⟩)
  | [a, b, c], _ => .inr (.inr ⟨a, b, c, rfl⟩)
  | _ :: _ :: _ :: _ :: _, h => by simp at h
theorem ne_empty {t : Str} (h : 1 ≤ t.length) : (t == Str.ofString "") = false := by
  cases hb : t == Str.ofString "" with
  | false => rfl
  | true =>
    have e := eq_of_beq hb
    subst e
    exact absurd h (by decide)
theorem joined1 (sg t0 : Str) : joined sg [t0] = t0 := by
  show joinStep sg (Str.ofString "") t0 = t0
  unfold joinStep; rw [if_pos (by decide)]
theorem joined2 {sg t0 : Str} (h0 : 1 ≤ t0.length) (t1 : Str) : joined sg [t0, t1] = t0 ++ sg ++ t1 := by
  show joinStep sg (joined sg [t0]) t1 = _
  rw [joined1, joinStep, if_neg (by rw [ne_empty h0]; decide)]
theorem joined3 {sg t0 : Str} (h0 : 1 ≤ t0.length) (t1 t2 : Str) : joined sg [t0, t1, t2] = t0 ++ sg ++ t1 ++ sg ++ t2 := by
  show joinStep sg (joined sg [t0, t1]) t2 = _
  rw [joined2 h0, joinStep, if_neg (by rw [ne_empty (by simp only [Str.length_append]; omega)]; decide)]
def Lb : Nat → Nat
  | 0 => 10
  | d + 1 => 3 * Lb d + 10
def Nb : Nat → Nat
  | 0 => 1
  | d + 1 => 3 * Nb d + 8
theorem Lb_ge : ∀ d, 10 ≤ Lb d
  | 0 => Nat.le_refl _
  | d + 1 => by have := Lb_ge d; simp only [Lb]; omega
theorem Nb_ge : ∀ d, 1 ≤ Nb d
  | 0 => Nat.le_refl _
  | d + 1 => by simp only [Nb]; omega
theorem PartIn.bounds {news : Led} {d : Nat} {v : Value} {t : Str} {n : Nat} (h : PartIn news d v t n) : 1 ≤ t.length ∧ t.length ≤ Lb d ∧ 1 ≤ n ∧ n ≤ Nb d := by
  induction h with
  | @name d a nm mk t0 t1 t2 n h hn hm =>
    have h1 := names_ok _ hn; have h2 := marks_ok _ hm
    have := Lb_ge d; have := Nb_ge d
    rw [Str.length_append]
    exact ⟨by omega, by omega, by omega, by omega⟩
  | @group d a c kind mk t1 t2 n1 n2 vs ts ns h hc hk hm hv ht hs hp ih =>
    have h2 := marks_ok _ hm; have h3 := (kinds_ok _ hk).1
    have e1 : (Str.ofString "(").length = 1 := by decide
    have e2 : (Str.ofString ")").length = 1 := by decide
    simp only [Str.length_append, Lb, Nb, e1, e2]
    rcases len3 hv with ⟨v0, rfl⟩ | ⟨v0, v1, rfl⟩ | ⟨v0, v1, v2, rfl⟩
    · obtain ⟨s0, rfl⟩ : ∃ s0, ts = [s0] := by
        match ts, ht with
        | [s0], _ => exact ⟨s0, rfl⟩
      obtain ⟨n0, rfl⟩ : ∃ n0, ns = [n0] := by
        match ns, hs with
        | [n0], _ => exact ⟨n0, rfl⟩
      have i0 := ih 0 v0 s0 n0 rfl rfl rfl
      rw [joined1]
      simp only [List.length_cons, List.length_nil, List.sum_cons, List.sum_nil]
      exact ⟨by omega, by omega, by omega, by omega⟩
    · obtain ⟨s0, s1, rfl⟩ : ∃ s0 s1, ts = [s0, s1] := by
        match ts, ht with
        | [s0, s1], _ => exact ⟨s0, s1, rfl⟩
      obtain ⟨n0, n1', rfl⟩ : ∃ n0 n1', ns = [n0, n1'] := by
        match ns, hs with
        | [n0, n1'], _ => exact ⟨n0, n1', rfl⟩
      have i0 := ih 0 v0 s0 n0 rfl rfl rfl
      have i1 := ih 1 v1 s1 n1' rfl rfl rfl
      rw [joined2 i0.1]
      simp only [List.length_cons, List.length_nil, List.sum_cons, List.sum_nil, Str.length_append]
      exact ⟨by omega, by omega, by omega, by omega⟩
    · obtain ⟨s0, s1, s2, rfl⟩ : ∃ s0 s1 s2, ts = [s0, s1, s2] := by
        match ts, ht with
        | [s0, s1, s2], _ => exact ⟨s0, s1, s2, rfl⟩
      obtain ⟨n0, n1', n2', rfl⟩ : ∃ n0 n1' n2', ns = [n0, n1', n2'] := by
        match ns, hs with
        | [n0, n1', n2'], _ => exact ⟨n0, n1', n2', rfl⟩
      have i0 := ih 0 v0 s0 n0 rfl rfl rfl
      have i1 := ih 1 v1 s1 n1' rfl rfl rfl
      have i2 := ih 2 v2 s2 n2' rfl rfl rfl
      rw [joined3 i0.1]
      simp only [List.length_cons, List.length_nil, List.sum_cons, List.sum_nil, Str.length_append]
      exact ⟨by omega, by omega, by omega, by omega⟩

/-- a value that the ledger holds as data -/
def DataIn (h : Heap) (k : Nat) (v : Value) (d : PyData) : Prop := (∃ as, Reads h v d as) ∧ d.canLay0 = true ∧ d.depth ≤ k
theorem DataIn.str {h : Heap} {k : Nat} {t : Str} {tk : Tok} (hc : PyData.canLay0 (.str t) = true) : DataIn h k (.str t tk) (.str t) := ⟨⟨_, .str t tk⟩, hc, Nat.zero_le _⟩
theorem DataIn.all {h : Heap} {k : Nat} : ∀ {vs : List Value}, (∀ v ∈ vs, ∃ d, DataIn h k v d) → ∃ ds as, ReadsAll h vs ds as ∧ PyData.canLayAll0 ds = true ∧ PyData.depthAll ds ≤ k
  | [], _ => ⟨[], [], .nil, rfl, Nat.zero_le _⟩
  | v :: vs, H => by
    obtain ⟨d, ⟨as, h1⟩, h2, h3⟩ := H v (.head _)
    obtain ⟨ds, bs, h4, h5, h6⟩ := DataIn.all (fun v hv => H v (.tail _ hv))
    exact ⟨d :: ds, as ++ bs, .cons h1 h4, by rw [PyData.canLayAll0, h2, h5]; rfl, by rw [PyData.depthAll]; exact Nat.max_le.mpr ⟨h3, h6⟩⟩
theorem PartIn.data {news : Led} {d : Nat} {v : Value} {t : Str} {n : Nat} (h : PartIn news d v t n) {h₀ hp : Heap} {L : Addr} (N : News h₀ L hp news) : ∃ pd, DataIn hp (2 * d + 1) v pd := by
  induction h with
  | @name d a nm mk t0 t1 t2 n h hn hm =>
    have h1 := names_ok _ hn; have h2 := marks_ok _ hm
    refine ⟨.tuple [.str (Str.ofString "name"), .str nm, .str mk], ⟨_, .tuple (N.get h) rfl rfl (.cons (.str _ _) (.cons (.str _ _) (.cons (.str _ _) .nil)))⟩, ?_, ?_⟩
    · have e0 : PyData.canLay0 (.str (Str.ofString "name")) = true := by decide +kernel
      rw [PyData.canLay0, PyData.canLayAll0, PyData.canLayAll0, PyData.canLayAll0, PyData.canLayAll0, e0, h1.2.2, h2.2.1]; rfl
    · simp only [PyData.depth, PyData.depthAll]; omega
  | @group d a c kind mk t1 t2 n1 n2 vs ts ns h hc hk hm hv ht hs hq ih =>
    have h2 := marks_ok _ hm; have h3 := kinds_ok _ hk
    obtain ⟨ds, as, r1, r2, r3⟩ := DataIn.all (h := hp) (k := 2 * d + 1) (vs := vs) (fun v hv => by
      obtain ⟨i, hi, rfl⟩ := List.mem_iff_getElem.mp hv
      exact ih i _ _ _ (List.getElem?_eq_getElem hi) (List.getElem?_eq_getElem (by omega)) (List.getElem?_eq_getElem (by omega)))
    refine ⟨.tuple [.str kind, .tuple ds, .str mk], ⟨_, .tuple (N.get h) rfl rfl (.cons (.str _ _) (.cons (.tuple (N.get hc) rfl rfl r1) (.cons (.str _ _) .nil)))⟩, ?_, ?_⟩
    · rw [PyData.canLay0, PyData.canLayAll0, PyData.canLayAll0, PyData.canLayAll0, PyData.canLayAll0, h3.2.1, h2.2.1, PyData.canLay0, r2]; rfl
    · simp only [PyData.depth, PyData.depthAll]; omega
end Mine
namespace Mine
def cat : List Str → Str
  | [] => Str.empty
  | x :: r => x ++ cat r
theorem cat_append : ∀ a b : List Str, cat (a ++ b) = cat a ++ cat b
  | [], b => by rw [List.nil_append, cat, Str.empty_append]
  | x :: a, b => by rw [List.cons_append, cat, cat, cat_append a b, Str.append_assoc]
theorem cat_one (x : Str) : cat [x] = x := by rw [cat, cat, Str.append_empty]
theorem All2.cons_inv {α β : Type} {R : α → β → Prop} {as : List α} {b : β} {bs : List β} (h : All2 R as (b :: bs)) : ∃ a as', as = a :: as' ∧ R a b ∧ All2 R as' bs := by
  obtain ⟨h1, h2⟩ := h
  match as, h1 with
  | a :: as', h1 => exact ⟨a, as', rfl, h2 0 a b rfl rfl, by simpa using h1, fun i x y hx hy => h2 (i + 1) x y (by simpa using hx) (by simpa using hy)⟩
theorem All2.nil_inv {α β : Type} {R : α → β → Prop} {as : List α} (h : All2 R as ([] : List β)) : as = [] := List.eq_nil_of_length_eq_zero h.1
theorem Is.s_inv {u : Value} {t : Str} (h : Is u (.s t)) : ∃ tk, u = .str t tk := by cases h; exact ⟨_, rfl⟩
theorem Is.v_inv {u v : Value} (h : Is u (.v v)) : u = v := by cases h; rfl
/-- an item of write_particle's stack: its value, the text that comes of it, its pops -/
inductive StkIn (news : Led) (d : Nat) : Value × Str × Nat → Prop where
  | s {t : Str} {tk : Tok} (hl : t.length ≤ 3) (hc : PyData.canLay0 (.str t) = true) : StkIn news d (.str t tk, t, 1)
  | p {v : Value} {t : Str} {n : Nat} (h : PartIn news d v t n) : StkIn news d (v, t, n)
theorem StkIn.data {news : Led} {d : Nat} {x : Value × Str × Nat} (h : StkIn news d x) {h₀ hp : Heap} {L : Addr} (N : News h₀ L hp news) : ∃ pd, DataIn hp (2 * d + 1) x.1 pd := by
  cases h with
  | s hl hc => exact ⟨_, DataIn.str hc⟩
  | p h => exact h.data N
theorem StkIn.pos {news : Led} {d : Nat} {x : Value × Str × Nat} (h : StkIn news d x) : 1 ≤ x.2.2 := by
  cases h with
  | s hl hc => exact Nat.le_refl _
  | p h => exact h.bounds.2.2.1
theorem open_ok : (Str.ofString "(").length ≤ 3 ∧ PyData.canLay0 (.str (Str.ofString "(")) = true := by decide +kernel
theorem close_ok : ∀ mk ∈ marks, (Str.ofString ")" ++ mk).length ≤ 3 := by decide +kernel
theorem pieces_stk {news : Led} {d : Nat} {sg mk : Str} {vs items : List Value} {ts : List Str} {ns : List Nat} (hm : mk ∈ marks) (hg : sg.length = 1) (hgc : PyData.canLay0 (.str sg) = true) (hv : 1 ≤ vs.length ∧ vs.length ≤ 3) (ht : ts.length = vs.length) (hs : ns.length = vs.length)
    (hp : ∀ (i : Nat) (v : Value) (t : Str) (n : Nat), vs[i]? = some v → ts[i]? = some t → ns[i]? = some n → PartIn news d v t n) (hi : All2 Is items (gp sg mk vs vs.length)) :
    ∃ stk : List (Value × Str × Nat), items = stk.map (·.1) ∧ (∀ x ∈ stk, StkIn news d x) ∧ cat (stk.reverse.map (·.2.1)) = Str.ofString "(" ++ joined sg ts ++ Str.ofString ")" ++ mk ∧ (stk.map (·.2.2)).sum + 1 ≤ 2 * vs.length + 2 + ns.sum := by
  have hcl := close_ok _ hm
  have hcc := (marks_ok _ hm).2.2
  have hg3 : sg.length ≤ 3 := by omega
  rcases len3 hv with ⟨v0, rfl⟩ | ⟨v0, v1, rfl⟩ | ⟨v0, v1, v2, rfl⟩
  · obtain ⟨s0, rfl⟩ : ∃ s0, ts = [s0] := by
      match ts, ht with
      | [s0], _ => exact ⟨s0, rfl⟩
    obtain ⟨n0, rfl⟩ : ∃ n0, ns = [n0] := by
      match ns, hs with
      | [n0], _ => exact ⟨n0, rfl⟩
    have p0 := hp 0 v0 s0 n0 rfl rfl rfl
    have hi' : All2 Is items [.s (Str.ofString ")" ++ mk), .v v0, .s (Str.ofString "(")] := hi
    obtain ⟨a0, r0, rfl, i0, hi'⟩ := hi'.cons_inv
    obtain ⟨a1, r1, rfl, i1, hi'⟩ := hi'.cons_inv
    obtain ⟨a2, r2, rfl, i2, hi'⟩ := hi'.cons_inv
    obtain rfl := hi'.nil_inv
    obtain ⟨k0, rfl⟩ := i0.s_inv
    obtain rfl := i1.v_inv
    obtain ⟨k2, rfl⟩ := i2.s_inv
    refine ⟨[(_, Str.ofString ")" ++ mk, 1), (_, s0, n0), (_, Str.ofString "(", 1)], rfl, ?_, ?_, ?_⟩
    · intro x hx
      simp only [List.mem_cons, List.not_mem_nil, or_false] at hx
      rcases hx with rfl | rfl | rfl
      · exact .s hcl hcc
      · exact .p p0
      · exact .s open_ok.1 open_ok.2
    · simp only [List.reverse_cons, List.reverse_nil, List.nil_append, List.cons_append, List.map_cons, List.map_nil, cat, joined1, Str.append_assoc, Str.append_empty]
    · simp only [List.map_cons, List.map_nil, List.sum_cons, List.sum_nil, List.length_cons, List.length_nil]; omega
  · obtain ⟨s0, s1, rfl⟩ : ∃ s0 s1, ts = [s0, s1] := by
      match ts, ht with
      | [s0, s1], _ => exact ⟨s0, s1, rfl⟩
    obtain ⟨n0, n1, rfl⟩ : ∃ n0 n1, ns = [n0, n1] := by
      match ns, hs with
      | [n0, n1], _ => exact ⟨n0, n1, rfl⟩
    have p0 := hp 0 v0 s0 n0 rfl rfl rfl
    have p1 := hp 1 v1 s1 n1 rfl rfl rfl
    have hi' : All2 Is items [.s (Str.ofString ")" ++ mk), .v v1, .s sg, .v v0, .s (Str.ofString "(")] := hi
    obtain ⟨a0, r0, rfl, i0, hi'⟩ := hi'.cons_inv
    obtain ⟨a1, r1, rfl, i1, hi'⟩ := hi'.cons_inv
    obtain ⟨a2, r2, rfl, i2, hi'⟩ := hi'.cons_inv
    obtain ⟨a3, r3, rfl, i3, hi'⟩ := hi'.cons_inv
    obtain ⟨a4, r4, rfl, i4, hi'⟩ := hi'.cons_inv
    obtain rfl := hi'.nil_inv
    obtain ⟨k0, rfl⟩ := i0.s_inv
    obtain rfl := i1.v_inv
    obtain ⟨k2, rfl⟩ := i2.s_inv
    obtain rfl := i3.v_inv
    obtain ⟨k4, rfl⟩ := i4.s_inv
    refine ⟨[(_, Str.ofString ")" ++ mk, 1), (_, s1, n1), (_, sg, 1), (_, s0, n0), (_, Str.ofString "(", 1)], rfl, ?_, ?_, ?_⟩
    · intro x hx
      simp only [List.mem_cons, List.not_mem_nil, or_false] at hx
      rcases hx with rfl | rfl | rfl | rfl | rfl
      · exact .s hcl hcc
      · exact .p p1
      · exact .s hg3 hgc
      · exact .p p0
      · exact .s open_ok.1 open_ok.2
    · simp only [List.reverse_cons, List.reverse_nil, List.nil_append, List.cons_append, List.map_cons, List.map_nil, cat, joined2 p0.bounds.1, Str.append_assoc, Str.append_empty]
    · simp only [List.map_cons, List.map_nil, List.sum_cons, List.sum_nil, List.length_cons, List.length_nil]; omega
  · obtain ⟨s0, s1, s2, rfl⟩ : ∃ s0 s1 s2, ts = [s0, s1, s2] := by
      match ts, ht with
      | [s0, s1, s2], _ => exact ⟨s0, s1, s2, rfl⟩
    obtain ⟨n0, n1, n2, rfl⟩ : ∃ n0 n1 n2, ns = [n0, n1, n2] := by
      match ns, hs with
      | [n0, n1, n2], _ => exact ⟨n0, n1, n2, rfl⟩
    have p0 := hp 0 v0 s0 n0 rfl rfl rfl
    have p1 := hp 1 v1 s1 n1 rfl rfl rfl
    have p2 := hp 2 v2 s2 n2 rfl rfl rfl
    have hi' : All2 Is items [.s (Str.ofString ")" ++ mk), .v v2, .s sg, .v v1, .s sg, .v v0, .s (Str.ofString "(")] := hi
    obtain ⟨a0, r0, rfl, i0, hi'⟩ := hi'.cons_inv
    obtain ⟨a1, r1, rfl, i1, hi'⟩ := hi'.cons_inv
    obtain ⟨a2, r2, rfl, i2, hi'⟩ := hi'.cons_inv
    obtain ⟨a3, r3, rfl, i3, hi'⟩ := hi'.cons_inv
    obtain ⟨a4, r4, rfl, i4, hi'⟩ := hi'.cons_inv
    obtain ⟨a5, r5, rfl, i5, hi'⟩ := hi'.cons_inv
    obtain ⟨a6, r6, rfl, i6, hi'⟩ := hi'.cons_inv
    obtain rfl := hi'.nil_inv
    obtain ⟨k0, rfl⟩ := i0.s_inv
    obtain rfl := i1.v_inv
    obtain ⟨k2, rfl⟩ := i2.s_inv
    obtain rfl := i3.v_inv
    obtain ⟨k4, rfl⟩ := i4.s_inv
    obtain rfl := i5.v_inv
    obtain ⟨k6, rfl⟩ := i6.s_inv
    refine ⟨[(_, Str.ofString ")" ++ mk, 1), (_, s2, n2), (_, sg, 1), (_, s1, n1), (_, sg, 1), (_, s0, n0), (_, Str.ofString "(", 1)], rfl, ?_, ?_, ?_⟩
    · intro x hx
      simp only [List.mem_cons, List.not_mem_nil, or_false] at hx
      rcases hx with rfl | rfl | rfl | rfl | rfl | rfl | rfl
      · exact .s hcl hcc
      · exact .p p2
      · exact .s hg3 hgc
      · exact .p p1
      · exact .s hg3 hgc
      · exact .p p0
      · exact .s open_ok.1 open_ok.2
    · simp only [List.reverse_cons, List.reverse_nil, List.nil_append, List.cons_append, List.map_cons, List.map_nil, cat, joined3 p0.bounds.1, Str.append_assoc, Str.append_empty]
    · simp only [List.map_cons, List.map_nil, List.sum_cons, List.sum_nil, List.length_cons, List.length_nil]; omega

section
variable {prog : Program} {w : World} {A : Around} {E : Value → Shared → Prop} {Q : Flow → Shared → Prop} {s : Shared} {env : Env} {h₀ : Heap} {L : Addr}
def WhEnd (h₀ : Heap) (L : Addr) (s : Shared) (x : Str) (m₀ : Str → Option Value) (J : Nat → Led → Prop) (n : Nat) (f : Flow) (s₃ : Shared) : Prop := WhileStep h₀ L s (fun n m nx => J n nx ∧ ∀ z, z ≠ x → m z = m₀ z) n f s₃
theorem WhEnd.intro {h' : Heap} {x : Str} {m₀ m' : Str → Option Value} {J : Nat → Led → Prop} {n n' tk : Nat} {nx : Led} (F : Fr h₀ L h' m') (N : News h₀ L h' nx) (hn : n' < n) (hJ : J n' nx) (hm : ∀ z, z ≠ x → m' z = m₀ z) : WhEnd h₀ L s x m₀ J n .next { s with heap := h', toks := tk } :=
  WhileStep.intro F N hn ⟨hJ, hm⟩
theorem while0 (x : Str) {test : Expr} {body : List Stmt} {pos : Pos} {m₀ : Str → Option Value} {news : Led} (J : Nat → Led → Prop) {n₀ : Nat} (F : Fr h₀ L s.heap m₀) (N : News h₀ L s.heap news) (hJ : J n₀ news)
    (turn : ∀ n (u : Str → Option Value) nx h tk, Fr h₀ L h (fun z => if z = x then u z else m₀ z) → News h₀ L h nx → J n nx →
      wpAny (model prog w) A (isTrue test env (eval test env)) (fun b s₂ =>
        if b = true then wpAny (model prog w) A (execs body env) (WhEnd h₀ L s x m₀ J n) E s₂ else Q .next s₂) E { s with heap := h, toks := tk })
    (hE : PassesOwn (model prog w) A env E := by passes_own) :
    wpAny (model prog w) A (exec (.While test body [] pos) env) Q E s :=
  While_inv (fun n m nx => J n nx ∧ ∀ z, z ≠ x → m z = m₀ z) F N ⟨hJ, fun _ _ => rfl⟩ (fun n m₁ nx h tk F₁ N₁ hj => turn n m₁ nx h tk (by rw [done_none hj.2]; exact F₁) N₁ hj.1) hE
end
end Mine
namespace Mine
local macro_rules | `(tactic| k_all) => `(tactic| assumption)
local macro_rules | `(tactic| k_mem) => `(tactic| assumption)
theorem cat_len : ∀ l : List Str, (cat l).length = (l.map (·.length)).sum
  | [] => rfl
  | x :: r => by rw [cat, Str.length_append, cat_len r]; rfl
theorem join_cat : ∀ l : List Str, Str.join (Str.ofString "") l = cat l
  | [] => rfl
  | [x] => (cat_one x).symm
  | x :: y :: r => by
    show x ++ Str.ofString "" ++ Str.join (Str.ofString "") (y :: r) = x ++ cat (y :: r)
    rw [join_cat (y :: r)]
    have e : Str.ofString "" = Str.empty := rfl
    rw [e, Str.append_empty]
theorem snoc_or {α : Type} (l : List α) : l = [] ∨ ∃ l' b, l = l' ++ [b] := by
  rcases List.eq_nil_or_concat l with h | ⟨l', b, h⟩
  · exact .inl h
  · exact .inr ⟨l', b, by rw [h, List.concat_eq_append]⟩
theorem strs_snoc {y : Str} {tk : Tok} : ∀ {vs : List Value} {ys : List Str}, StrsAre vs ys → StrsAre (vs ++ [.str y tk]) (ys ++ [y])
  | _, _, .nil => .cons y tk .nil
  | _, _, .cons z t r => .cons z t (strs_snoc r)
theorem StkIn.up {news : Led} {d : Nat} {x : Value × Str × Nat} (h : StkIn news d x) : StkIn news (d + 1) x := by
  cases h with
  | s hl hc => exact .s hl hc
  | p h => exact .p h.up
theorem cat_rev (l l' : List (Value × Str × Nat)) : cat ((l ++ l').reverse.map (·.2.1)) = cat (l'.reverse.map (·.2.1)) ++ cat (l.reverse.map (·.2.1)) := by
  rw [List.reverse_append, List.map_append, cat_append]
theorem not_long {m n : Nat} (h : m + n ≤ 1000) (b : Bool) : ¬(b && Builtin.List.listTooLong (m + n)) = true := by
  unfold Builtin.List.listTooLong
  rw [sizeLine_eq, decide_eq_false (by omega)]; simp
def WpInv (rest : Led) (d : Nat) (t : Str) (lf pc : Addr) (n : Nat) (nx : Led) : Prop :=
  ∃ (ps : List Value) (np : Nat) (pts : List Str) (stk : List (Value × Str × Nat)) (nl : Nat), nx = (lf, listOf (stk.map (·.1)).toArray nl) :: (pc, listOf ps.toArray np) :: rest ∧ StrsAre ps pts ∧ (∀ x ∈ stk, StkIn rest d x) ∧ cat pts ++ cat (stk.reverse.map (·.2.1)) = t ∧ n = (stk.map (·.2.2)).sum ∧ pts.length + n ≤ 200
theorem name_two {rest : Led} {a b : Addr} (h : @LT.lt Nat _ a b ∧ AllLt b rest) : ∃ x y, x = a ∧ y = b ∧ @LT.lt Nat _ x y ∧ AllLt y rest := ⟨a, b, rfl, rfl, h⟩
set_option maxHeartbeats 8000000 in
theorem wp_tells (w : World) (mean : ExcName → Option Value) (mg mb : Str → Option Value) (d : Nat) (v : Value) (t : Str) (n : Nat) (rest : Led) (hp : PartIn rest d v t n) (hdd : d ≤ 10) (ht : t.length ≤ 1000) (hn : n ≤ 200) :
    Tell w mean mg mb 21 [v] 40 400 rest
      (fun r news' => (∃ tk, r = .str t tk) ∧ news' = rest) := by
  (w_top off; unfold Tell; k_fill; intro dp un gd env outer A₀ base h₀ L m s Q E B F X N T hf hk hdp hun hret; refine wpAny_call ?_; k_dflt (refine' code_def ?k1 ?k2 ?k3 ?k4 ?k5 ?kA ?kF ?kK ?k6 ?k7 ?k8 ?k9 ?kB ?_ ?c2 ?c3 ?c4 ?c5; (case kA => exact rfl); (case kF => assumption); (case kK => assumption); (case k1 => k_asm); (case k2 => k_asm); (case k3 => k_asm); (case k4 => k_asm); (case k5 => k_asm); (case k6 => k_is); (case k7 => k_is); (case k8 => (simp only [recursionLimit] at *; omega)); (case k9 => exact BindsTo.of_eq rfl); (case c5 => decide); (case kB => exact locs rfl); (case c2 => exact rfl); (case c3 => exact rfl); (case c4 => exact rfl); k_whole; intro g1 L1 h1 FG1 F1 N1 B1 X1 T1; (try dsimp only); (try k_fold)))
  (repeat' ((fail_if_success (with_reducible show wpAny _ _ (exec (Stmt.For _ _ _ _ _) _) _ _ _)); (fail_if_success (with_reducible show wpAny _ _ (exec (Stmt.While _ _ _ _) _) _ _ _)); (fail_if_success (with_reducible show wpAny _ _ (eval (Expr.ListComp _ _ _ _) _) _ _ _)); (fail_if_success (with_reducible show wpAny _ _ (exec (Stmt.Assign _ (Expr.ListComp _ _ _ _) _) _) _ _ _)); (fail_if_success (with_reducible show wpAny _ _ (call (Value.type "range") _ _) _ _ _)); (fail_if_success (with_reducible show wpAny _ _ (pyIter _) _ _ _)); first | (k_unfold; (try dsimp only)) | (k_end; kc_close) | walk1 | (dsimp only; walk1) | (leave1; walk_say "STEP leave1"; (try dsimp only)) | fail "no step"))
  (rename ∀ p ∈ rest, p.1 < _ => q1)
  (rename _ < _ ∧ AllLt _ rest => q2)
  obtain ⟨pc, lf, e1, e2, q3, q4⟩ := name_two q2
  subst e1; subst e2
  (rename Fr _ _ _ _ => lF); (rename News _ _ _ _ => lN)
  have o1 : ∀ p ∈ rest, p.1 ≠ pc := fun p hp => Nat.ne_of_lt (q1 p hp)
  have o2 : ∀ p ∈ rest, p.1 ≠ lf := off_of_lt q4
  refine' while0 (Str.ofString "one") (WpInv rest d t lf pc) (n₀ := n) lF (fun p hp => lN p (.tail _ hp)) ?hJ ?turn
  case hJ =>
    refine ⟨[], 0, [], [(v, t, n)], 0, rfl, .nil, ?_, ?_, ?_, ?_⟩
    · intro x hx
      rw [List.mem_singleton.mp hx]; exact .p hp
    · show Str.empty ++ (t ++ Str.empty) = t
      rw [Str.empty_append, Str.append_empty]
    · simp
    · simpa using hn
  rintro n u nx h tk F' N' ⟨ps, np, pts, stk, nl, rfl, hps, hstk, hcat, rfl, hlen⟩
  rcases snoc_or stk with rfl | ⟨stk', x, rfl⟩
  · simp only [List.map_nil] at N'
    k_steps
    (rename News _ _ _ _ => lN2)
    have hcat' : cat pts = t := by
      have e : cat ((List.reverse ([] : List (Value × Str × Nat))).map (·.2.1)) = Str.empty := rfl
      rw [e, Str.append_empty] at hcat; exact hcat
    refine join_list (lN2.isList (.tail _ (.tail _ (.head _)))) (ys := pts) (by simpa using hps) ?_ ?_
    · have e0 : (Str.ofString "").length = 0 := by decide
      rw [← cat_len, hcat', e0]; omega
    · intro t' k'
      k_steps
      refine hret _ _ _ _ (by assumption) (fun p hp => ?_) ⟨⟨t', ?_⟩, rfl⟩
      · (rename News _ _ _ _ => lN5)
        exact lN5 p (.tail _ (.tail _ (.tail _ hp)))
      · rw [Txt.join, StrLaws.glued_eq_join, join_cat, hcat']
  · simp only [List.map_append, List.map_cons, List.map_nil] at N'
    k_steps
    (rename News _ _ _ _ => lN2); (rename Fr _ _ _ _ => lF2)
    (rename _ < _ ∧ _ < _ ∧ AllLt _ rest => q5)
    have hxs := hstk x (List.mem_append.mpr (.inr (.head _)))
    obtain ⟨ds, as, r1, r2, r3⟩ := DataIn.all (k := 2 * d + 1) (vs := stk'.map (·.1) ++ [x.1]) (fun v hv => by
      rcases List.mem_append.mp hv with hv | hv
      · obtain ⟨y, hy, rfl⟩ := List.mem_map.mp hv
        exact (hstk y (List.mem_append.mpr (.inl hy))).data (fun p hp => lN2 p (.tail _ (.tail _ (.tail _ hp))))
      · rw [List.mem_singleton.mp hv]
        exact hxs.data (fun p hp => lN2 p (.tail _ (.tail _ (.tail _ hp)))))
    refine ne_dataH (.list (lN2.get (.tail _ (.head _))) rfl rfl (by simpa using r1)) (.list (lN2.get (.head _)) rfl rfl .nil) (da := .list ds) (db := .list []) ?_ rfl ?_ ?_
    · rw [SeqAt.shaped, PyData.canLay0, r2, Bool.true_and, decide_eq_true_eq, PyData.depth]; omega
    · ((have hcL9 := cLine_is); (simp only [units_in1, units_deeper, Around.mark_units, units_caller] at *); omega)
    have hne : (!PyData.eqv (.list ds) (.list [])) = true := by
      cases ds with
      | nil => exact absurd r1.lenAny (by simp)
      | cons d0 ds => simp [PyData.eqv, PyData.eqvAll]
    rw [hne]
    replace lN2 := fun p hp => lN2 p (.tail _ hp)
    k_steps
    dsimp only
    (rename Fr _ _ _ _ => lF3)
    have hlp : @Ne Nat lf pc := Nat.ne_of_gt q3
    have o3 : ∀ p ∈ (pc, listOf ps.toArray np) :: rest, p.1 ≠ lf := fun p hp => by
      rcases List.mem_cons.mp hp with rfl | hp
      · exact Nat.ne_of_lt q3
      · exact o2 p hp
    have hsum : ∀ l : List (Value × Str × Nat), (∀ x ∈ l, StkIn rest d x) → l.length ≤ (l.map (·.2.2)).sum := fun l => by
      induction l with
      | nil => intro _; exact Nat.le_refl _
      | cons y l ih => intro H; have := ih (fun z hz => H z (.tail _ hz)); have := (H y (.head _)).pos; simp only [List.map_cons, List.sum_cons, List.length_cons]; omega
    have hl1 := hsum _ hstk
    have hl2 := hsum stk' (fun y hy => hstk y (List.mem_append.mpr (.inl hy)))
    have hlp2 : ps.length = pts.length := hps.len_eq
    simp only [List.length_append, List.length_cons, List.length_nil, List.map_append, List.map_cons, List.map_nil, List.sum_append, List.sum_cons, List.sum_nil] at hl1 hlen
    refine kl_pop lF3 lN2 (p := stk'.map (·.1)) (y := x.1) (kpa_last _ _) (.head o3) (by rw [sizeLine_eq]; simp; omega) ?_
    intro h5 F5 N5
    clear lN2
    obtain ⟨xv, xt, xn⟩ := x
    cases hxs with
    | @s xt tks hl hc =>
      dsimp only at hlen hl1 hcat
      k_steps
      refine WhEnd.intro (by assumption) (by assumption) (n' := (stk'.map (·.2.2)).sum) (by simp) ⟨ps ++ [.str xt tks], np + 1, pts ++ [xt], stk', nl + 1, by simp, strs_snoc hps, fun y hy => hstk y (List.mem_append.mpr (.inl hy)), ?_, rfl, by simp; omega⟩ (fun z h1 => by simp [h1])
      rw [cat_rev] at hcat
      rw [cat_append, Str.append_assoc]
      exact hcat
    | p hpx =>
      cases hpx with
      | @name d a nm mk t0 t1 t2 n h1 h2 h3 =>
        have g1 := (names_ok _ h2).2.1; have g2 := (marks_ok _ h3).1
        dsimp only at hlen hl1 hcat
        k_steps
        refine WhEnd.intro (by assumption) (by assumption) (n' := (stk'.map (·.2.2)).sum) (by simp) ⟨ps ++ [.str (nm ++ mk) _], np + 1, pts ++ [nm ++ mk], stk', nl + 1, by simp; rfl, strs_snoc hps, fun y hy => hstk y (List.mem_append.mpr (.inl hy)), ?_, rfl, by simp; omega⟩ (fun z h1 => by simp [h1])
        rw [cat_rev] at hcat
        rw [cat_append, Str.append_assoc]
        exact hcat
      | @group d a c kind mk t1 t2 n1 n2 vs ts ns h1 h2 h3 h4 h5 h6 h7 h8 =>
        k_steps
        · (rename (kind == Str.ofString "name") = true => hkn)
          rw [(kinds_ok _ h3).2.2.2] at hkn; cases hkn
        (refine' tell_use ?k1 ?k2 ?k3 ?k4 ?k5 ?kF ?kK ?kd ?ku (gp_tells w mean mg mb a c kind mk t1 t2 n1 n2 vs ((lf, listOf (stk'.map (·.1)).toArray (nl + 1)) :: (pc, listOf ps.toArray np) :: rest) (marks_ok _ h4).1 h5 (.tail _ (.tail _ h1)) (.tail _ (.tail _ h2))) ?sub ?_; (case k1 => k_asm); (case k2 => k_asm); (case k3 => k_asm); (case k4 => k_asm); (case k5 => k_asm); (case kF => first | exact rfl | assumption); (case kK => first | exact rfl | assumption); (case kd => ((simp only [depth_under_make, depth_under_kw, depth_in1, depth_deeper, depth_caller, recursionLimit] at *); omega)); (case ku => ((have hcL9 := cLine_is); (simp only [units_in1, units_deeper, Around.mark_units, units_caller] at *); omega)))
        case sub => exact fun p hp => hp
        rintro r news' h6' tk6 F6 N6 ⟨lr, items, nr, rfl, hit, rfl, hoff⟩
        obtain ⟨new, rfl, hnew, hcn, hsn⟩ := pieces_stk h4 (kinds_ok _ h3).1 (kinds_ok _ h3).2.2.1 h5 h6 h7 h8 hit
        dsimp only at hlen hl1 hcat
        k_steps
        (rename News _ _ _ _ => lN7); (rename Fr _ _ _ _ => lF7)
        have hll : lr ≠ lf := fun e => hoff (lf, _) (.head _) e.symm
        have hln := hsum new (fun y hy => (hnew y hy).up)
        have hl3 : stk'.length + new.length ≤ 1000 := by omega
        refine kl_extend lF7 lN7 (.head _) rfl ?_ (.tail hll (.head o3)) (not_long (by simpa using hl3) _) (by rw [sizeLine_eq]; simp; omega) (by rw [sizeLine_eq]; simp; omega) ?_
        · have hgl := hit.1.trans (gp_len _ _ _ _)
          simp only [List.length_map] at hgl
          simp only [List.length_map]; omega
        intro h8 F8 N8
        k_steps
        refine WhEnd.intro (by assumption) (fun p hp => N8 p (.tail _ hp)) (n' := ((stk' ++ new).map (·.2.2)).sum) ?_ ⟨ps, np, pts, stk' ++ new, nl + 2, by simp, hps, ?_, ?_, rfl, ?_⟩ (fun z h1 => by simp [h1])
        · simp; omega
        · intro y hy
          rcases List.mem_append.mp hy with hy | hy
          · exact hstk y (List.mem_append.mpr (.inl hy))
          · exact (hnew y hy).up
        · rw [cat_rev] at hcat
          rw [cat_rev, hcn]
          exact hcat
        · simp; omega
end Mine
namespace Mine
local macro_rules | `(tactic| k_all) => `(tactic| assumption)
local macro_rules | `(tactic| k_mem) => `(tactic| assumption)
local macro_rules | `(tactic| size_fits) => `(tactic| ((simp only [List.size_toArray, Array.size_push, sizeLine_eq]); omega))
/-- what _law_pieces has found behind i turns -/
def lp (sign : Str) (vs : List Value) : Nat → List It
  | 0 => [.s (Str.ofString "(")]
  | i + 1 => (if i > 0 then lp sign vs i ++ [.s sign] else lp sign vs i) ++ [.v (vs.getD i .none)]
theorem lp_len (sign : Str) (vs : List Value) : ∀ i, (lp sign vs i).length = if i = 0 then 1 else 2 * i
  | 0 => rfl
  | i + 1 => by
    have := lp_len sign vs i
    simp only [lp]
    split <;> simp [this] <;> split <;> omega
theorem signOf_seq : signOf (Str.ofString "seq") = Str.ofString "," := by decide +kernel
theorem signOf_choice : signOf (Str.ofString "choice") = Str.ofString "|" := by decide +kernel
theorem lit_name {h₀ h : Heap} {L D : Addr} {items : List Value} {t : Str} {tk : Tok} {y z : Addr × Obj} {rest : Led} (N : News h₀ L h ((D, listOf (items.toArray.toList ++ #[Value.str t tk].toList).toArray 0) :: y :: z :: rest)) :
    ∃ tt, News h₀ L h ((D, listOf (items ++ [Value.str t tt]).toArray 0) :: rest) := ⟨tk, fun p hp => by
  rcases List.mem_cons.mp hp with rfl | hp
  · exact N _ (.head _)
  · exact N _ (.tail _ (.tail _ (.tail _ hp)))⟩
set_option maxHeartbeats 8000000 in
theorem lpc_tells (w : World) (mean : ExcName → Option Value) (mg mb : Str → Option Value) (a c : Addr) (kind mk : Str) (t1 t2 : Tok) (n1 n2 : Nat) (vs : List Value) (rest : Led)
    (hk : kind ∈ kinds) (hmk : mk.length ≤ 1) (hvs : 1 ≤ vs.length ∧ vs.length ≤ 3)
    (ha : (a, tupOf [.str kind t1, .ref c, .str mk t2] n1) ∈ rest) (hc : (c, tupOf vs n2) ∈ rest) :
    Tell w mean mg mb 68 [.ref a] 20 200 rest
      (fun r news' => ∃ l items n, r = .ref l ∧ All2 Is items (lp (signOf kind) vs vs.length ++ [.s (Str.ofString ")" ++ mk)]) ∧ news' = (l, listOf items.toArray n) :: rest ∧ Off l rest) := by
  have hk2 : kind = Str.ofString "seq" ∨ kind = Str.ofString "choice" := by simpa [kinds] using hk
  obtain ⟨sg, hsg⟩ : ∃ sg, sg = signOf kind := ⟨_, rfl⟩
  rw [← hsg]
  rcases hk2 with rfl | rfl
  all_goals (
    (w_top off; unfold Tell; k_fill; intro dp un gd env outer A₀ base h₀ L m s Q E B F X N T hf hk hdp hun hret; refine wpAny_call ?_; k_dflt (refine' code_def ?k1 ?k2 ?k3 ?k4 ?k5 ?kA ?kF ?kK ?k6 ?k7 ?k8 ?k9 ?kB ?_ ?c2 ?c3 ?c4 ?c5; (case kA => exact rfl); (case kF => assumption); (case kK => assumption); (case k1 => k_asm); (case k2 => k_asm); (case k3 => k_asm); (case k4 => k_asm); (case k5 => k_asm); (case k6 => k_is); (case k7 => k_is); (case k8 => (simp only [recursionLimit] at *; omega)); (case k9 => exact BindsTo.of_eq rfl); (case c5 => decide); (case kB => exact locs rfl); (case c2 => exact rfl); (case c3 => exact rfl); (case c4 => exact rfl); k_whole; intro g1 L1 h1 FG1 F1 N1 B1 X1 T1; (try dsimp only); (try k_fold)))
    (repeat' ((fail_if_success (with_reducible show wpAny _ _ (exec (Stmt.For _ _ _ _ _) _) _ _ _)); (fail_if_success (with_reducible show wpAny _ _ (exec (Stmt.While _ _ _ _) _) _ _ _)); (fail_if_success (with_reducible show wpAny _ _ (eval (Expr.ListComp _ _ _ _) _) _ _ _)); (fail_if_success (with_reducible show wpAny _ _ (exec (Stmt.Assign _ (Expr.ListComp _ _ _ _) _) _) _ _ _)); (fail_if_success (with_reducible show wpAny _ _ (call (Value.type "range") _ _) _ _ _)); (fail_if_success (with_reducible show wpAny _ _ (pyIter _) _ _ _)); first | (k_unfold; (try dsimp only)) | (k_end; kc_close) | walk1 | (dsimp only; walk1) | (leave1; walk_say "STEP leave1"; (try dsimp only)) | fail "no step"))
    (rename ∀ p ∈ rest, p.1 < _ => l1)
    obtain ⟨lx, elx, l2⟩ := name_lt l1; subst elx
    have hlR : ∀ p ∈ rest, p.1 ≠ lx := fun p hp => Nat.ne_of_lt (l2 p hp)
    ((rename Fr _ _ _ _ => lF'); (with_unfolding_all refine' For_invVF lF' ?k1 ?k2 ?_; (case k1 => exact rfl); (case k2 => exact rfl); k_whole))
    (repeat' ((fail_if_success (with_reducible show wpAny _ _ (exec (Stmt.For _ _ _ _ _) _) _ _ _)); (fail_if_success (with_reducible show wpAny _ _ (exec (Stmt.While _ _ _ _) _) _ _ _)); (fail_if_success (with_reducible show wpAny _ _ (eval (Expr.ListComp _ _ _ _) _) _ _ _)); (fail_if_success (with_reducible show wpAny _ _ (exec (Stmt.Assign _ (Expr.ListComp _ _ _ _) _) _) _ _ _)); (fail_if_success (with_reducible show wpAny _ _ (call (Value.type "range") _ _) _ _ _)); (fail_if_success (with_reducible show wpAny _ _ (pyIter _) _ _ _)); first | (k_unfold; (try dsimp only)) | (k_end; kc_close) | walk1 | (dsimp only; walk1) | (leave1; walk_say "STEP leave1"; (try dsimp only)) | fail "no step"))
    (rename News _ _ _ _ => lN2); (rename Fr _ _ _ _ => lF2)
    refine' iter_tup0 (fun i nx => ∃ items n', nx = (lx, listOf items.toArray n') :: rest ∧ All2 Is items (lp sg vs i)) ?hh (nn := n2) ?hR ?F ?N ?hj ?turn ?done (vs := vs)
    case hh => exact rfl
    case hR => rintro i nx ⟨items, n', rfl, _⟩; exact .tail _ hc
    case F => exact lF2
    case N => exact lN2
    case hj => exact ⟨[_], _, rfl, ⟨rfl, fun i x y hx hy => by cases i with | zero => (simp [lp] at hx hy; subst hx; subst hy; exact .s) | succ j => simp at hx⟩⟩
    case turn =>
      rintro i v nx h tk I oI hvi ⟨items, n', rfl, hit⟩ ho F' N'
      replace F' : Fr _ L1 _ _ := F'; replace N' : News _ L1 _ _ := N'
      have hlI := neN (ho (lx, listOf items.toArray n') (.head _)); dsimp only at hlI
      have hil : items.length = _ := hit.1.trans (lp_len _ _ _)
      have hi : i < vs.length := by
        rcases Nat.lt_or_ge i vs.length with h | h
        · exact h
        · simp [h] at hvi
      have hvd : v = vs.getD i .none := by simp [List.getD, hvi]
      have hil2 : items.length ≤ 6 := by rw [hil]; split <;> omega
      k_steps
      refine len_list (N'.isList (.tail _ (.head _))) (by simp; omega) ?_
      by_cases h0 : i = 0
      · subst h0
        have hi1 : items.length = 1 := by simpa using hil
        rw [show ((items.toArray.size : Nat) : Int) = 1 by simp [hi1]]
        k_steps
        refine TurnEnd.intro (by assumption) (by assumption) (off_swap ho) ⟨⟨items ++ [v], _, by simp; rfl, ?_⟩, fun z h1 => by simp [h1]⟩
        rw [lp, if_neg (by omega), ← hvd]
        exact hit.push .v
      · have hi1 : items.length = 2 * i := by simpa [h0] using hil
        obtain ⟨z, hz, hz1⟩ : ∃ z : Int, ((items.toArray.size : Nat) : Int) = z ∧ 1 < z := ⟨_, rfl, by simp; omega⟩
        rw [hz]
        clear hil
        (repeat' ((fail_if_success (with_reducible show wpAny _ _ (callWith _ _ _ _ _) _ _ _)); (fail_if_success (with_reducible show wpAny _ _ (exec (Stmt.For _ _ _ _ _) _) _ _ _)); (fail_if_success (with_reducible show wpAny _ _ (exec (Stmt.While _ _ _ _) _) _ _ _)); (fail_if_success (with_reducible show wpAny _ _ (eval (Expr.ListComp _ _ _ _) _) _ _ _)); (fail_if_success (with_reducible show wpAny _ _ (exec (Stmt.Assign _ (Expr.ListComp _ _ _ _) _) _) _ _ _)); (fail_if_success (with_reducible show wpAny _ _ (call (Value.type "range") _ _) _ _ _)); (fail_if_success (with_reducible show wpAny _ _ (pyIter _) _ _ _)); first | (k_unfold; (try dsimp only)) | (k_end; kc_close) | walk1 | (dsimp only; walk1) | (leave1; walk_say "STEP leave1"; (try dsimp only)) | fail "no step"))
        refine callWith_method1 ?_
        k_steps
        (rename News _ _ _ _ => lN8)
        refine TurnEnd.intro (by assumption) (fun p hp => lN8 p (.tail _ hp)) (off_swap ho) ⟨⟨items ++ [_] ++ [v], _, by simp; exact ⟨rfl, rfl⟩, ?_⟩, fun z h1 => by simp [h1]⟩
        rw [lp, if_pos (by omega), ← hvd]
        refine (hit.push ?_).push .v
        rw [hsg]; first | rw [signOf_seq] | rw [signOf_choice]
        exact .s
    case done =>
      rintro u nx h tk ⟨items, n', rfl, hit⟩ F' N'
      replace F' : Fr _ L1 _ _ := F'; replace N' : News _ L1 _ _ := N'
      k_steps
      (rename News _ _ _ _ => lN5); (rename Fr _ _ _ _ => lF5)
      (rename _ < _ ∧ AllLt _ rest => q5)
      have hil := hit.1
      rw [lp_len] at hil
      refine kmk_add_lit lF5 lN5 (lN5.isList (.tail _ (.head _))) (lN5.isList (.head _)) rfl ?_ ?_
      · intro D h' F9 N9 l9
        k_steps
        (rename News _ _ _ _ => lN8)
        obtain ⟨tt, N10⟩ := lit_name lN8
        refine hret _ _ _ _ (by assumption) N10 ⟨D, items ++ [.str (Str.ofString ")" ++ mk) tt], 0, rfl, hit.push .s, rfl, ?_⟩
        · intro p hp
          exact Nat.ne_of_lt (l9 p (.tail _ (.tail _ hp)))
      · rw [sizeLine_eq]; simp; split at hil <;> omega)
end Mine
namespace Mine
local macro_rules | `(tactic| k_all) => `(tactic| assumption)
local macro_rules | `(tactic| k_mem) => `(tactic| assumption)
theorem news_skip {h₀ h : Heap} {L : Addr} {x y : Addr × Obj} {rest : Led} (N : News h₀ L h (x :: y :: rest)) : News h₀ L h (x :: rest) := fun p hp => by
  rcases List.mem_cons.mp hp with rfl | hp
  · exact N _ (.head _)
  · exact N _ (.tail _ (.tail _ hp))
set_option maxHeartbeats 8000000 in
theorem bag_tells (w : World) (mean : ExcName → Option Value) (mg mb : Str → Option Value) (l : Addr) (vs : List Value) (ns : List Int) (rest : Led) (hlen : ns.length ≤ 63) :
  ∀ (dp un : Nat) (gd : Option (List Code)) (env : Env) (outer : List Env) (A₀ : Around) (base h₀ : Heap) (L : Addr) (m : Str → Option Value) (s : Shared) (Q E : Value → Shared → Prop),
    Below A₀ base outer h₀ → Fr h₀ L s.heap m → (hd.heap_39 w.params).In h₀ → News h₀ L s.heap rest → Top hd.view_39 (looseW hd.view_39 []) mean mg mb h₀ →
    env.frame = some L → env.scope.kind = .function → dp + 20 < recursionLimit → un + 200 < cLine → base.IsList l vs.toArray → IntsAre vs ns →
    (∀ b o h' tk', Fr h₀ L h' m → News h₀ L h' ((b, o) :: rest) → BagOk o → Off b rest → Q (.ref b) { s with heap := h', toks := tk' }) →
    wpAny (model PySem.Challenge.rw_xm0646_01.row.prog w) { handled := none, depth := dp, frames := some (env :: outer), guards := gd, units := un } (call (.ref 35) [.ref l]) Q E s := by
  k_fill
  intro dp un gd env outer A₀ base h₀ L m s Q E B F X N T hf hk hdp hun hsl hsi hret
  refine wpAny_call ?_
  k_dflt (refine' code_def ?k1 ?k2 ?k3 ?k4 ?k5 ?kA ?kF ?kK ?k6 ?k7 ?k8 ?k9 ?kB ?_ ?c2 ?c3 ?c4 ?c5; (case kA => exact rfl); (case kF => assumption); (case kK => assumption); (case k1 => k_asm); (case k2 => k_asm); (case k3 => k_asm); (case k4 => k_asm); (case k5 => k_asm); (case k6 => k_is); (case k7 => k_is); (case k8 => (simp only [recursionLimit] at *; omega)); (case k9 => exact BindsTo.of_eq rfl); (case c5 => decide); (case kB => exact locs rfl); (case c2 => exact rfl); (case c3 => exact rfl); (case c4 => exact rfl); k_whole; intro g1 L1 h1 FG1 F1 N1 B1 X1 T1; (try dsimp only); (try k_fold))
  k_lift B1
  have hsi0 := hsi
  cases hsi with
  | nil =>
    k_steps
    all_goals (
      (rename _ < _ ∧ AllLt _ rest => q9); (rename News _ _ _ _ => lN9)
      exact hret _ _ _ _ (by assumption) (news_skip lN9) ⟨_, _, _, _, _, fm_lo _, fm_hi _, rfl⟩ (off_of_lt q9.2))
  | cons n t hr =>
    k_steps
    all_goals (
      (rename _ < _ ∧ AllLt _ rest => q9); (rename News _ _ _ _ => lN9)
      exact hret _ _ _ _ (by assumption) (news_skip lN9) ⟨_, _, _, _, _, fm_lo _, fm_hi _, rfl⟩ (off_of_lt q9.2))
end Mine
namespace Mine
section
variable {prog : Program} {w : World} {A : Around} {E : Value → Shared → Prop} {s : Shared} {env : Env} {h₀ : Heap} {L : Addr}

def NsO (C : Addr) (oC : Obj) (mc : Str → Option Value) : Prop := ∀ h : Heap, h.get? C = some oC → h.Ns C mc
theorem nsO_of {h : Heap} {C : Addr} {mc : Str → Option Value} (hn : h.Ns C mc) : ∃ oC, h.get? C = some oC ∧ NsO C oC mc := by
  obtain ⟨o, es, ep, ho, r⟩ := hn
  exact ⟨o, ho, fun h' e => ⟨o, es, ep, e, r⟩⟩

/-- an element's end: what stood with what nx' tells -/
def EltEnd (h₀ : Heap) (L : Addr) (m : Str → Option Value) (I D C : Addr) (oI oD oC : Obj) (s₁ : Shared) (J : Value → Led → Prop) (y : Value) (s₂ : Shared) : Prop :=
  ∃ h' tk nx, s₂ = { s₁ with heap := h', toks := tk } ∧ Fr h₀ L h' m ∧ News h₀ L h' ((I, oI) :: (D, oD) :: (C, oC) :: nx) ∧ Off I nx ∧ Off D nx ∧ Off C nx ∧ J y nx

/-- what a comprehension wants behind its iterator -/
def CompAt (prog : Program) (w : World) (A : Around) (h₀ : Heap) (L : Addr) (scope : Scope) (cl : List (Str × Addr)) (env : Env) (x : Str) (elt : Expr) (fm : (Str → Option Value) → Addr → Str → Option Value) (QD : Addr → Shared → Prop) (it : Value) (s₂ : Shared) : Prop :=
  ∃ (I : Addr) (fp : List Addr) (n : Nat) (P : Nat → Value → Prop) (St : Nat → Heap → Prop) (m : Str → Option Value) (news : Led) (J : Nat → List Value → Led → Prop),
    it = .ref I ∧ Walks prog w A I fp [I] n P St ∧ n ≤ sizeLine ∧ St 0 s₂.heap ∧ (∀ i h, St i h → ∃ o, h.get? I = some o) ∧ L ∉ fp ∧ h₀.get? I = none ∧ (∀ c ∈ fp, c = I ∨ ∃ oc, ∀ i acc nx, J i acc nx → (c, oc) ∈ nx) ∧
    Fr h₀ L s₂.heap m ∧ News h₀ L s₂.heap news ∧ Off I news ∧ J 0 [] news ∧
    (∀ i v acc nx h tk D C oI oC nD mc E', i < n → P i v → J i acc nx → acc.length = i → Off I nx → Off D nx → Off C nx → Fr h₀ L h m → News h₀ L h ((I, oI) :: (D, listOf acc.toArray nD) :: (C, oC) :: nx) → NsO C oC mc → mc x = some v →
      wpAny (model prog w) A (eval elt (compEnvC scope cl C env)) (EltEnd h₀ L m I D C oI (listOf acc.toArray nD) oC { s₂ with heap := h, toks := tk } (fun y nx => J (i + 1) (acc ++ [y]) nx)) E' { s₂ with heap := h, toks := tk }) ∧
    ∀ acc nx h tk D nD, J n acc nx → acc.length = n → Fr h₀ L h (fm m D) → News h₀ L h ((D, listOf acc.toArray nD) :: nx) → Off D nx → QD D { s₂ with heap := h, toks := tk }

theorem fr_two {h h₁ h₂ : Heap} {m : Str → Option Value} {I C : Addr} (F : Fr h₀ L h m) (hI0 : h₀.get? I = none) (hC0 : h₀.get? C = none) (hIL : I ≠ L) (hCL : C ≠ L) (hk₁ : ∀ b o, b ∉ [I] → h.get? b = some o → h₁.get? b = some o) (hs₂ : Heap.SameBut C h₁ h₂) : Fr h₀ L h₂ m := by
  have up : ∀ b o, b ≠ I → b ≠ C → h.get? b = some o → h₂.get? b = some o := fun b o hb hc e => hs₂.extBut b o hc (hk₁ b o (fun q => hb (List.mem_singleton.mp q)) e)
  refine ⟨F.ns.at' fun o e => up L o hIL.symm hCL.symm e, fun b o e => up b o ?_ ?_ (F.keep b o e), F.above⟩
  · rintro rfl; rw [hI0] at e; cases e
  · rintro rfl; rw [hC0] at e; cases e

theorem comp_blockM {elt iter : Expr} {x : Str} {px : Pos} {scope : Scope} {cl : List (Str × Addr)} {pos : Pos} {s₂ : Shared} {I : Addr} {fp : List Addr} {n : Nat} {P : Nat → Value → Prop} {St : Nat → Heap → Prop} {m : Str → Option Value} {news : Led} {J : Nat → List Value → Led → Prop} {RR : Value → Addr → Result → Shared → Prop}
    (hcell : ∀ y ∈ scope.names, y.2 ≠ .cell) (hkind : scope.kind = .function) (hx : scope.names.lookup x = some .local)
    (W : Walks prog w A I fp [I] n P St) (hsz : n ≤ sizeLine) (hst : St 0 s₂.heap) (hex : ∀ i h, St i h → ∃ o, h.get? I = some o) (hLf : L ∉ fp) (hI0 : h₀.get? I = none) (hfp : ∀ c ∈ fp, c = I ∨ ∃ oc, ∀ i acc nx, J i acc nx → (c, oc) ∈ nx)
    (F : Fr h₀ L s₂.heap m) (N : News h₀ L s₂.heap news) (hoff : Off I news) (hj : J 0 [] news)
    (turn : ∀ i v acc nx h tk D C oI oC nD mc E', i < n → P i v → J i acc nx → acc.length = i → Off I nx → Off D nx → Off C nx → Fr h₀ L h m → News h₀ L h ((I, oI) :: (D, listOf acc.toArray nD) :: (C, oC) :: nx) → NsO C oC mc → mc x = some v →
      wpAny (model prog w) A (eval elt (compEnvC scope cl C env)) (EltEnd h₀ L m I D C oI (listOf acc.toArray nD) oC { s₂ with heap := h, toks := tk } (fun y nx => J (i + 1) (acc ++ [y]) nx)) E' { s₂ with heap := h, toks := tk })
    (hRR : ∀ D C h tk mc acc nx nD, h.Ns C mc → C ≠ L → D ≠ C → D ≠ L → h₀.get? C = none → h₀.get? D = none → Off C nx → Off D nx → Fr h₀ L h m → News h₀ L h ((D, listOf acc.toArray nD) :: nx) → J n acc nx → acc.length = n → RR (.ref D) C (.ok .next) { s₂ with heap := h, toks := tk }) :
    wpAny (model prog w) A (newList []) (fun acc s₃ => wpAny (model prog w) A (newFunctionEnv scope env.globals cl [] env.qual none .none (some env)) (fun cenv s₄ =>
      codeAny (model prog w) A (.compStart (.ListComp elt [⟨.Name x px, iter, [], 0⟩] scope pos) 0 (.ref I) acc { cenv with scope := relabel scope env }) (RR acc cenv.locals) s₄) E s₃) E s₂ := by
  refine wpAny_newObj_type (wpAny_newFunctionEnv hcell (by intro y hy; simp at hy) (fun h₁ hns₁ hsb₁ => ?_) hkind)
  dsimp only at hns₁ hsb₁ ⊢
  generalize hH2 : s₂.heap.push { cls := .type "list", dict := none, data := .seq ([] : List Value).toArray } = H2 at hns₁ hsb₁ ⊢
  have hC : H2.objs.size = s₂.heap.objs.size + 1 := by rw [← hH2, Heap.size_push]
  generalize hCd : H2.objs.size = C at hns₁ hsb₁ hC ⊢
  generalize hDd : s₂.heap.objs.size = D at hC ⊢
  have hDC : D ≠ C := by rw [hC]; exact Nat.ne_of_lt (Nat.lt_succ_self _)
  have below : ∀ b, b < D → b ≠ C ∧ b ≠ D := fun b hb => ⟨by rw [hC]; exact Nat.ne_of_lt (Nat.lt_succ_of_lt hb), Nat.ne_of_lt hb⟩
  have old : ∀ b o, s₂.heap.get? b = some o → h₁.get? b = some o := fun b o e => hsb₁.extBut b o (below b (hDd ▸ Heap.lt_size e)).1 (Heap.get?_push_of_some _ (hH2 ▸ Heap.get?_push_of_some _ e))
  have hD1 : h₁.get? D = some (listOf ([] : List Value).toArray 0) := hsb₁.extBut _ _ hDC (Heap.get?_push_of_some _ (hH2 ▸ hDd ▸ Heap.get?_push_size _ rfl))
  have hst₁ : St 0 h₁ := W.frame _ _ _ hst fun b _ o e => old b o e
  have fresh : ∀ a, D ≤ a → s₂.heap.get? a = none := fun a ha => by
    cases e : s₂.heap.get? a with
    | none => rfl
    | some o' => exact absurd (Heap.lt_size e) (hDd ▸ Nat.not_lt.mpr ha)
  have hC0 : h₀.get? C = none := by
    cases e : h₀.get? C with
    | none => rfl
    | some o => have := fresh C (by rw [hC]; exact Nat.le_succ _); rw [F.keep _ _ e] at this; cases this
  have hD0 : h₀.get? D = none := by
    cases e : h₀.get? D with
    | none => rfl
    | some o => have := fresh D (Nat.le_refl _); rw [F.keep _ _ e] at this; cases this
  have hLD : L < D := hDd ▸ F.ns.lt
  obtain ⟨oI₂, hoI₂⟩ := hex _ _ hst
  have hID : I < D := hDd ▸ Heap.lt_size hoI₂
  have hIL : I ≠ L := fun e => hLf (e ▸ W.sub I (List.mem_singleton.mpr rfl))
  have hCL : C ≠ L := (below L hLD).1.symm
  have hDL : D ≠ L := (below L hLD).2.symm
  have hIC : I ≠ C := (below I hID).1
  have hID' : I ≠ D := (below I hID).2
  have loop : ∀ s₃ : Shared, s₃ = { s₂ with heap := h₁, toks := s₂.toks + ([] : List (Str × Value)).length } →
      codeAny (model prog w) A (.compLoop (.ListComp elt [⟨.Name x px, iter, [], 0⟩] scope pos) 0 (.ref I) (.ref D) (compEnvC scope cl C env)) (RR (.ref D) C) s₃ := by
    rintro s₃ rfl
    obtain ⟨oC₁, hoC₁, hnC₁⟩ := nsO_of hns₁
    refine codeAny_compLoop_list (fun k s' => ∃ i h tk acc nD nx oI oC mc, s' = { s₂ with heap := h, toks := tk } ∧ k = n - i ∧ i ≤ n ∧ St i h ∧ acc.length = i ∧ Fr h₀ L h m ∧ News h₀ L h ((I, oI) :: (D, listOf acc.toArray nD) :: (C, oC) :: nx) ∧ NsO C oC mc ∧ Off I nx ∧ Off D nx ∧ Off C nx ∧ J i acc nx) ?_ n
      ⟨0, h₁, _, [], 0, news, oI₂, oC₁, _, rfl, rfl, Nat.zero_le _, hst₁, rfl, F.keeps old, ?_, hnC₁, hoff, fun p hp => (below _ (hDd ▸ Heap.lt_size (N p hp).1)).2, fun p hp => (below _ (hDd ▸ Heap.lt_size (N p hp).1)).1, hj⟩
    · rintro k s' ⟨i, h, tk, acc, nD, nx, oI, oC, mc, rfl, rfl, hi, hst', hacc, F', N', hnC, o1, o2, o3, hj'⟩
      have hmc := hnC h (N' _ (.tail _ (.tail _ (.head _)))).1
      rcases Nat.lt_or_ge i n with hlt | hge
      · refine W.item i _ _ _ hlt hst' fun v h₂ tk₂ hPv hst₂ hk₂ => ?_
        refine wpAny_assign_Name (wpAny_storeName_local (lookup_relabel_local hx) (hmc.at' fun o e => hk₂ _ o (fun q => hIC (List.mem_singleton.mp q).symm) e) (fun h₃ hn₃ hs₃ => ?_) (by simp [compEnvC, relabel, hkind]))
        obtain ⟨oC₃, hoC₃, hnC₃⟩ := nsO_of hn₃
        have hCf : C ∉ fp := fun hm => by
          rcases hfp C hm with e | ⟨oc, e⟩
          · exact hIC e.symm
          · exact o3 _ (e _ _ _ hj') rfl
        have hst₃ : St (i + 1) h₃ := W.frame _ _ _ hst₂ fun b hb o e => hs₃.extBut b o (fun (q : b = C) => hCf (q ▸ hb)) e
        have up : ∀ b o, b ≠ I → b ≠ C → h.get? b = some o → h₃.get? b = some o := fun b o hb hc e => hs₃.extBut b o hc (hk₂ b o (fun q => hb (List.mem_singleton.mp q)) e)
        obtain ⟨oI₃, hoI₃⟩ := hex _ _ hst₃
        have F₃ : Fr h₀ L h₃ m := fr_two F' hI0 hC0 hIL hCL hk₂ hs₃
        have N₃ : News h₀ L h₃ ((I, oI₃) :: (D, listOf acc.toArray nD) :: (C, oC₃) :: nx) := by
          intro p hp
          rcases List.mem_cons.mp hp with rfl | hp
          · exact ⟨hoI₃, hIL, hI0⟩
          · rcases List.mem_cons.mp hp with rfl | hp
            · exact ⟨up D _ hID'.symm hDC (N' _ (.tail _ (.head _))).1, hDL, hD0⟩
            · rcases List.mem_cons.mp hp with rfl | hp
              · exact ⟨hoC₃, hCL, hC0⟩
              · have q := N' p (.tail _ (.tail _ (.tail _ hp)))
                exact ⟨up _ _ (o1 p hp) (o3 p hp) q.1, q.2⟩
        refine wpAny_mono (turn i v acc nx h₃ _ D C oI₃ oC₃ nD _ _ hlt hPv hj' hacc o1 o2 o3 F₃ N₃ hnC₃ (by simp)) (fun y s₄ h₄ => ?_) fun _ _ e => e
        obtain ⟨h₅, tk₅, nx', rfl, F₅, N₅, p1, p2, p3, hj₅⟩ := h₄
        refine append_K F₅ N₅ (.tail hID' (.head fun p hp => ?_)) (fun h₆ F₆ N₆ => ?_) (by rw [List.size_toArray]; omega)
        · rcases List.mem_cons.mp hp with rfl | hp
          · exact hDC.symm
          · exact p2 p hp
        · refine ⟨n - (i + 1), by omega, i + 1, h₆, tk₅, acc ++ [y], nD + 1, nx', oI₃, oC₃, _, rfl, rfl, hlt, ?_, by simp [hacc], F₆, ?_, hnC₃, p1, p2, p3, hj₅⟩
          · refine W.frame _ _ _ hst₃ fun b hb o e => ?_
            rcases hfp b hb with rfl | ⟨oc, hc⟩
            · rw [hoI₃] at e; cases e
              exact (N₆ _ (.head _)).1
            · have e2 := (N₃ _ (.tail _ (.tail _ (.tail _ (hc _ _ _ hj'))))).1
              rw [e] at e2; cases e2
              exact (N₆ _ (.tail _ (.tail _ (.tail _ (hc _ _ _ hj₅))))).1
          · have e : (acc ++ [y]).toArray = acc.toArray.push y := by simp
            rw [e]; exact N₆
      · have hin : i = n := by omega
        subst hin
        refine W.done _ _ _ hst' fun h₂ tk₂ hk₂ => ?_
        have e1 : ∀ b o, b ≠ I → h.get? b = some o → h₂.get? b = some o := fun b o hb e => hk₂ b o (fun q => hb (List.mem_singleton.mp q)) e
        refine hRR D C h₂ _ mc acc nx nD (hmc.at' fun o e => e1 _ o hIC.symm e) hCL hDC hDL hC0 hD0 o3 o2 ?_ ?_ hj' hacc
        · refine ⟨F'.ns.at' fun o e => e1 L o hIL.symm e, fun b o e => e1 b o ?_ (F'.keep b o e), F'.above⟩
          rintro rfl; rw [hI0] at e; cases e
        · intro p hp
          rcases List.mem_cons.mp hp with rfl | hp
          · exact ⟨e1 D _ hID'.symm (N' _ (.tail _ (.head _))).1, hDL, hD0⟩
          · have q := N' p (.tail _ (.tail _ (.tail _ hp)))
            exact ⟨e1 _ _ (o1 p hp) q.1, q.2⟩
    · intro p hp
      rcases List.mem_cons.mp hp with rfl | hp
      · exact ⟨old _ _ hoI₂, hIL, hI0⟩
      · rcases List.mem_cons.mp hp with rfl | hp
        · exact ⟨hD1, hDL, hD0⟩
        · rcases List.mem_cons.mp hp with rfl | hp
          · exact ⟨hoC₁, hCL, hC0⟩
          · exact ⟨old _ _ (N p hp).1, (N p hp).2⟩
  exact codeAny_compStart_list (loop _ rfl) (W.self 0 _ _ _ hst₁ (loop _ rfl))

theorem fr_sameC {h h' : Heap} {m : Str → Option Value} {C : Addr} (F : Fr h₀ L h m) (hC0 : h₀.get? C = none) (hCL : C ≠ L) (hs : Heap.SameBut C h h') : Fr h₀ L h' m := F.change hs hCL hC0
theorem news_sameC {h h' : Heap} {C : Addr} {news : Led} (N : News h₀ L h news) (ho : Off C news) (hs : Heap.SameBut C h h') : News h₀ L h' news := fun p hp => ⟨hs.extBut _ _ (ho p hp) (N p hp).1, (N p hp).2⟩
theorem ListCompM {elt iter : Expr} {x : Str} {px : Pos} {scope : Scope} {cl : List (Str × Addr)} {pos : Pos} {Q : Value → Shared → Prop}
    (hclos : closureFor scope env = pure cl) (hcell : ∀ y ∈ scope.names, y.2 ≠ .cell) (hkind : scope.kind = .function)
    (hnames : ∀ y ∈ scope.names, y.2 = .local → scope.names.lookup y.1 = some .local) (hx : scope.names.lookup x = some .local)
    (h : wpAny (model prog w) A (eval iter env) (fun xv s₁ => wpAny (model prog w) A (pyIter xv) (fun it s₂ => CompAt prog w A h₀ L scope cl env x elt (fun m _ => m) (fun D s' => Q (.ref D) s') it s₂) E s₁) E s)
    (hs : ∀ x, foldedSetIterable iter env x = pure x := by intro _; rfl) :
    wpAny (model prog w) A (eval (.ListComp elt [⟨.Name x px, iter, [], 0⟩] scope pos) env) Q E s := by
  rw [eval_ListComp]
  refine wpAny_comprehension_free (use := none) rfl hs hclos hkind hnames (wpAny_mono h (fun xv s₁ h₁ => wpAny_mono h₁ (fun it s₂ h₂ => ?_) fun _ _ e => e) fun _ _ e => e)
  obtain ⟨I, fp, n, P, St, m, news, J, rfl, W, hsz, hst, hex, hLf, hI0, hfp, F, N, hoff, hj, turn, done⟩ := h₂
  refine comp_blockM (RR := fun acc C => compPost (model prog w) A E none Q acc C) hcell hkind hx W hsz hst hex hLf hI0 hfp F N hoff hj turn ?_
  intro D C h tk mc acc nx nD hn hCL hDC hDL hC0 hD0 o3 o2 F' N' hj' hacc
  refine ⟨mc, hn, fun h₃ hs₃ => done acc nx h₃ _ D nD hj' hacc (fr_sameC F' hC0 hCL hs₃) (news_sameC N' ?_ hs₃) o2⟩
  intro p hp
  rcases List.mem_cons.mp hp with rfl | hp
  · exact hDC
  · exact o3 p hp
theorem AssignCompM {elt iter : Expr} {x y : Str} {px py : Pos} {scope : Scope} {cl : List (Str × Addr)} {pos spos : Pos} {Q : Flow → Shared → Prop}
    (hsw : swapsWith (.ListComp elt [⟨.Name x px, iter, [], 0⟩] scope pos) (some (.Name y py)) spos.line env = pure true)
    (hclos : closureFor scope env = pure cl) (hcell : ∀ y ∈ scope.names, y.2 ≠ .cell) (hkind : scope.kind = .function)
    (hnames : ∀ y ∈ scope.names, y.2 = .local → scope.names.lookup y.1 = some .local) (hx : scope.names.lookup x = some .local)
    (hy : env.kindOf y = some .local) (hp : (env.scope.kind == .class || (env.scope.kind == .module && env.locals != env.globals)) = false) (hL : env.locals = L)
    (h : wpAny (model prog w) A (eval iter env) (fun xv s₁ => wpAny (model prog w) A (pyIter xv) (fun it s₂ => CompAt prog w A h₀ L scope cl env x elt (fun m D z => if z = y then some (.ref D) else m z) (fun _ s' => Q .next s') it s₂) E s₁) E s)
    (hs : ∀ x, foldedSetIterable iter env x = pure x := by intro _; rfl) :
    wpAny (model prog w) A (exec (.Assign [.Name y py] (.ListComp elt [⟨.Name x px, iter, [], 0⟩] scope pos) spos) env) Q E s := by
  subst hL
  rw [exec_Assign_Name_used _ _ _ _ hsw]
  refine wpAny_bind (wpAny_standAt (wpAny_bind ?_))
  show wpAny _ A (do let _ ← comprehension (.ListComp elt [⟨.Name x px, iter, [], 0⟩] scope pos) scope env _ (newList []) false (eval iter env) (some (assign (.Name y py) env))) _ _ s
  refine wpAny_bind (wpAny_mono (wpAny_comprehension_free (use := some (assign (.Name y py) env)) (Q := fun _ s' => Q .next s') rfl hs hclos hkind hnames
    (wpAny_mono h (fun xv s₁ h₁ => wpAny_mono h₁ (fun it s₂ h₂ => ?_) fun _ _ e => e) fun _ _ e => e)) (fun _ s' hq => wpAny_pure (wpAny_pure hq)) fun _ _ e => e)
  obtain ⟨I, fp, n, P, St, m, news, J, rfl, W, hsz, hst, hex, hLf, hI0, hfp, F, N, hoff, hj, turn, done⟩ := h₂
  refine comp_blockM (RR := fun acc C => compPost (model prog w) A E (some (assign (.Name y py) env)) (fun _ s' => Q .next s') acc C) hcell hkind hx W hsz hst hex hLf hI0 hfp F N hoff hj turn ?_
  intro D C h tk mc acc nx nD hn hCL hDC hDL hC0 hD0 o3 o2 F' N' hj' hacc
  show wpAny _ A (assign (.Name y py) env (.ref D)) _ _ _
  refine wpAny_assign_Name (wpAny_storeName_local hy F'.ns (fun h₂ hn₂ hs₂ => ?_) hp)
  have F₂ : Fr h₀ env.locals h₂ (fun z => if z = y then some (.ref D) else m z) := F'.set hn₂ hs₂
  have N₂ := N'.set hs₂
  refine ⟨mc, hn.sameBut hs₂ hCL, fun h₃ hs₃ => done acc nx h₃ _ D nD hj' hacc (fr_sameC F₂ hC0 hCL hs₃) (news_sameC N₂ ?_ hs₃) o2⟩
  intro p hp
  rcases List.mem_cons.mp hp with rfl | hp
  · exact hDC
  · exact o3 p hp

theorem compAt_range {scope : Scope} {cl : List (Str × Addr)} {x : Str} {elt : Expr} {fm : (Str → Option Value) → Addr → Str → Option Value} {QD : Addr → Shared → Prop} {r : Addr} {a₀ b₀ c₀ : Int} {t₀ u₀ v₀ : Tok} {n : Nat} {m : Str → Option Value} {news : Led} (J : Nat → List Value → Led → Prop)
    (hh : A.handled = none) (hr : IsRange s.heap r a₀ b₀ c₀ t₀ u₀ v₀) (hsmall : Builtin.Range.small a₀ b₀ c₀ = true) (hn : Builtin.Range.rangeSize a₀ b₀ c₀ = (n : Int)) (hz : n ≤ 1000)
    (F : Fr h₀ L s.heap m) (N : News h₀ L s.heap news) (hj : J 0 [] news)
    (turn : ∀ i acc nx h tk I D C oI oC nD, i < n → J i acc nx → acc.length = i → Off I nx → Off D nx → Off C nx → Fr h₀ L h m → News h₀ L h ((I, oI) :: (D, listOf acc.toArray nD) :: (C, oC) :: nx) → ∀ E',
      wpAny (model prog w) A (eval elt (compEnvC scope cl C env)) (EltEnd h₀ L m I D C oI (listOf acc.toArray nD) oC { s with heap := h, toks := tk } (fun y nx => J (i + 1) (acc ++ [y]) nx)) E' { s with heap := h, toks := tk })
    (done : ∀ acc nx h tk D nD, J n acc nx → acc.length = n → Fr h₀ L h (fm m D) → News h₀ L h ((D, listOf acc.toArray nD) :: nx) → Off D nx → QD D { s with heap := h, toks := tk }) :
    wpAny (model prog w) A (pyIter (.ref r)) (fun it s₂ => CompAt prog w A h₀ L scope cl env x elt fm QD it s₂) E s := by
  refine wpAny_pyIter_range hr hsmall ?_
  have W := Walks.range (prog := prog) (w := w) hh s.heap.objs.size a₀ c₀ n
  refine ⟨_, _, n, _, _, m, news, J, rfl, W, by rw [sizeLine_eq]; omega, (by show IsRangeIter _ _ _ _ _; rw [hn]; simpa using Heap.get?_push_size _ rfl), (fun i h st => ⟨_, st⟩), ?_, next_is_new F, ?_, F.push _, (fun p hp => ⟨Heap.get?_push_of_some _ (N p hp).1, (N p hp).2⟩), off_next N, hj, ?_, done⟩
  · intro hm
    exact ne_next F (List.mem_singleton.mp hm)
  · intro c hc
    exact .inl (List.mem_singleton.mp hc)
  · intro i v acc nx h tk D C oI oC nD mc E' hi _ hj' hacc o1 o2 o3 F' N' _ _
    exact turn i acc nx h tk _ D C oI oC nD hi hj' hacc o1 o2 o3 F' N' E'
end
end Mine
namespace Mine
/-- a group of the ledger's, its particles at most d deep -/
def GroupIn (news : Led) (d : Nat) (v : Value) : Prop :=
  ∃ (a c : Addr) (kind mk : Str) (t1 t2 : Tok) (n1 n2 : Nat) (vs : List Value) (ts : List Str) (ns : List Nat), v = .ref a ∧ (a, tupOf [.str kind t1, .ref c, .str mk t2] n1) ∈ news ∧ (c, tupOf vs n2) ∈ news ∧ kind ∈ kinds ∧ mk ∈ marks ∧ (1 ≤ vs.length ∧ vs.length ≤ 3) ∧ ts.length = vs.length ∧ ns.length = vs.length ∧
    ∀ (i : Nat) (v : Value) (t : Str) (n : Nat), vs[i]? = some v → ts[i]? = some t → ns[i]? = some n → PartIn news d v t n
theorem GroupIn.mono {news news' : Led} {d : Nat} {v : Value} (h : GroupIn news d v) (hs : ∀ p ∈ news, p ∈ news') : GroupIn news' d v := by
  obtain ⟨a, c, kind, mk, t1, t2, n1, n2, vs, ts, ns, e, h1, h2, h3, h4, h5, h6, h7, h8⟩ := h
  exact ⟨a, c, kind, mk, t1, t2, n1, n2, vs, ts, ns, e, hs _ h1, hs _ h2, h3, h4, h5, h6, h7, fun i v t n x y z => (h8 i v t n x y z).mono hs⟩
theorem GroupIn.up {news : Led} {d : Nat} {v : Value} (h : GroupIn news d v) : GroupIn news (d + 1) v := by
  obtain ⟨a, c, kind, mk, t1, t2, n1, n2, vs, ts, ns, e, h1, h2, h3, h4, h5, h6, h7, h8⟩ := h
  exact ⟨a, c, kind, mk, t1, t2, n1, n2, vs, ts, ns, e, h1, h2, h3, h4, h5, h6, h7, fun i v t n x y z => (h8 i v t n x y z).up⟩
def Gb : Nat → Nat
  | 0 => 0
  | d + 1 => 3 * Gb d + 1
/-- what _law_particle hands back: a particle, its text, its groups -/
def ResIn (news : Led) (d : Nat) (v : Value) (tv : Value) (text : Str) (gs : List Value) : Prop :=
  ∃ (a : Addr) (tk : Tok) (gl : Addr) (n3 ng sz : Nat), v = .ref a ∧ (a, tupOf [tv, .str text tk, .ref gl] n3) ∈ news ∧ PartIn news d tv text sz ∧ (gl, listOf gs.toArray ng) ∈ news ∧ gs.length ≤ Gb d ∧ ∀ g ∈ gs, GroupIn news d g
theorem ResIn.mono {news news' : Led} {d : Nat} {v tv : Value} {text : Str} {gs : List Value} (h : ResIn news d v tv text gs) (hs : ∀ p ∈ news, p ∈ news') : ResIn news' d v tv text gs := by
  obtain ⟨a, tk, gl, n3, ng, sz, e, h1, h2, h3, h4, h5⟩ := h
  exact ⟨a, tk, gl, n3, ng, sz, e, hs _ h1, h2.mono hs, hs _ h3, h4, fun g hg => (h5 g hg).mono hs⟩

theorem one_use {w : World} {mean : ExcName → Option Value} {mg mb : Str → Option Value} {dp un : Nat} {gd : Option (List Code)} {env : Env} {outer : List Env} {A₀ : Around} {base h₀ : Heap} {L b l : Addr} {m : Str → Option Value} {s : Shared} {Q E : Value → Shared → Prop} {o : Obj} {vs : List Value} {n : Nat} {rest : Led}
    (B : Below A₀ base outer h₀) (F : Fr h₀ L s.heap m) (X : (hd.heap_39 w.params).In h₀) (N : News h₀ L s.heap ((l, listOf vs.toArray n) :: (b, o) :: rest)) (T : Top hd.view_39 (looseW hd.view_39 []) mean mg mb h₀)
    (hf : env.frame = some L) (hk : env.scope.kind = .function) (hd' : dp + 20 < recursionLimit) (hu : un + 200 < cLine) (ho : BagOk o) (hv : 1 ≤ vs.length ∧ vs.length ≤ 4) (hb : Off b rest) (hbl : l ≠ b)
    (ret : ∀ r o' h' tk', r ∈ vs → BagOk o' → Fr h₀ L h' m → News h₀ L h' ((b, o') :: rest) → Q r { s with heap := h', toks := tk' }) :
    wpAny (model PySem.Challenge.rw_xm0646_01.row.prog w) { handled := none, depth := dp, frames := some (env :: outer), guards := gd, units := un } (call (.ref 49) [.ref b, .ref l]) Q E s := by
  refine tell_use B F X N T hf hk hd' hu (one_tells w mean mg mb b l o vs n ((l, listOf vs.toArray n) :: rest) ho hv ?_ (.head _)) ?_ ?_
  · intro p hp
    rcases List.mem_cons.mp hp with rfl | hp
    · exact hbl
    · exact hb p hp
  · intro p hp
    rcases List.mem_cons.mp hp with rfl | hp
    · exact .tail _ (.head _)
    · rcases List.mem_cons.mp hp with rfl | hp
      · exact .head _
      · exact .tail _ (.tail _ hp)
  · rintro r news' h' tk' F' N' ⟨hr, o', ho', rfl⟩
    exact ret r o' h' tk' hr ho' F' (fun p hp => N' p (by
      rcases List.mem_cons.mp hp with rfl | hp
      · exact .head _
      · exact .tail _ (.tail _ hp)))
theorem pick_use {w : World} {mean : ExcName → Option Value} {mg mb : Str → Option Value} {dp un : Nat} {gd : Option (List Code)} {env : Env} {outer : List Env} {A₀ : Around} {base h₀ : Heap} {L b : Addr} {m : Str → Option Value} {s : Shared} {Q E : Value → Shared → Prop} {o : Obj} {top : Int} {tt : Tok} {rest : Led}
    (B : Below A₀ base outer h₀) (F : Fr h₀ L s.heap m) (X : (hd.heap_39 w.params).In h₀) (N : News h₀ L s.heap ((b, o) :: rest)) (T : Top hd.view_39 (looseW hd.view_39 []) mean mg mb h₀)
    (hf : env.frame = some L) (hk : env.scope.kind = .function) (hd' : dp + 10 < recursionLimit) (hu : un + 100 < cLine) (ho : BagOk o) (ht : 1 ≤ top ∧ top ≤ 4) (hb : Off b rest)
    (ret : ∀ k tk o' h' tk', 0 ≤ k → k < top → BagOk o' → Fr h₀ L h' m → News h₀ L h' ((b, o') :: rest) → Q (.int k tk) { s with heap := h', toks := tk' }) :
    wpAny (model PySem.Challenge.rw_xm0646_01.row.prog w) { handled := none, depth := dp, frames := some (env :: outer), guards := gd, units := un } (call (.ref 42) [.ref b, .int top tt]) Q E s := by
  refine tell_use B F X N T hf hk hd' hu (pick_tells w mean mg mb b o tt top rest ho ht hb) (fun p hp => hp) ?_
  rintro r news' h' tk' F' N' ⟨⟨k, tk, rfl, h1, h2⟩, o', ho', rfl⟩
  exact ret k tk o' h' tk' h1 h2 ho' F' N'
local macro_rules | `(tactic| k_all) => `(tactic| assumption)
local macro_rules | `(tactic| k_mem) => `(tactic| assumption)
/-- made behind all that stood -/
def NewOver (tl led : Led) : Prop := ∀ p ∈ tl, ∀ q ∈ led, q.1 < p.1
def PartTells (w : World) (mean : ExcName → Option Value) (mg mb : Str → Option Value) (d : Nat) : Prop :=
  ∀ (b : Addr) (o : Obj) (rest : Led) (dt : Tok), BagOk o → Off b rest →
    Tell w mean mg mb 61 [.ref b, .int (d : Int) dt] (30 + 5 * d) (300 + 20 * d) ((b, o) :: rest)
      (fun r news' => ∃ o' tl tv text gs, BagOk o' ∧ news' = (b, o') :: (tl ++ rest) ∧ NewOver tl ((b, o) :: rest) ∧ ResIn tl d r tv text gs)
theorem news_rot {h₀ h : Heap} {L : Addr} {x y z u : Addr × Obj} {r : Led} (N : News h₀ L h (x :: y :: z :: u :: r)) : News h₀ L h (x :: u :: y :: z :: r) := fun p hp => N p (by
  simp only [List.mem_cons] at hp ⊢
  rcases hp with h | h | h | h | h <;> simp [h])
theorem news_rot2 {h₀ h : Heap} {L : Addr} {x y z : Addr × Obj} {r : Led} (N : News h₀ L h (x :: y :: z :: r)) : News h₀ L h (z :: x :: y :: r) := fun p hp => N p (by
  simp only [List.mem_cons] at hp ⊢
  rcases hp with h | h | h | h <;> simp [h])
theorem marks_of {r : Value} {a1 a2 a3 a4 : Tok} (h : r ∈ [Value.str (Str.ofString "") a1, .str (Str.ofString "?") a2, .str (Str.ofString "*") a3, .str (Str.ofString "+") a4]) : ∃ mk tk, r = .str mk tk ∧ mk ∈ marks := by
  simp only [List.mem_cons, List.not_mem_nil, or_false] at h
  rcases h with rfl | rfl | rfl | rfl <;> exact ⟨_, _, rfl, by simp [marks]⟩
theorem names_of {r : Value} {a1 a2 a3 a4 : Tok} (h : r ∈ [Value.str (Str.ofString "a") a1, .str (Str.ofString "b") a2, .str (Str.ofString "x:y") a3, .str (Str.ofString "long-name") a4]) : ∃ nm tk, r = .str nm tk ∧ nm ∈ names := by
  simp only [List.mem_cons, List.not_mem_nil, or_false] at h
  rcases h with rfl | rfl | rfl | rfl <;> exact ⟨_, _, rfl, by simp [names]⟩
theorem ne_bag_tup {h₀ h : Heap} {L a b : Addr} {o : Obj} {vs : List Value} {n : Nat} {news : Led} (N : News h₀ L h news) (hb : (b, o) ∈ news) (ho : BagOk o) (ht : (a, tupOf vs n) ∈ news) : a ≠ b := by
  rintro rfl
  have e := (N _ hb).1
  rw [(N _ ht).1] at e
  obtain ⟨x, y, t, u, n, _, _, rfl⟩ := ho
  simp at e
theorem ne_bag_list {h₀ h : Heap} {L a b : Addr} {o : Obj} {vs : List Value} {n : Nat} {news : Led} (N : News h₀ L h news) (hb : (b, o) ∈ news) (ho : BagOk o) (ht : (a, listOf vs.toArray n) ∈ news) (hl : vs.length ≠ 2) : a ≠ b := by
  rintro rfl
  have e := (N _ hb).1
  rw [(N _ ht).1] at e
  obtain ⟨x, y, t, u, n, _, _, rfl⟩ := ho
  simp at e
  exact hl (by rw [e.1]; rfl)
theorem off_cells {b L1 : Addr} {o1 o2 : Obj} {rest : Led} (h : b < L1) (hb : Off b rest) : Off b ((L1 + 1 + 1, o1) :: (L1 + 1, o2) :: rest) := by
  intro p hp
  rcases List.mem_cons.mp hp with rfl | hp
  · exact Nat.ne_of_gt (Nat.lt_succ_of_lt (Nat.lt_succ_of_lt h))
  · rcases List.mem_cons.mp hp with rfl | hp
    · exact Nat.ne_of_gt (Nat.lt_succ_of_lt h)
    · exact hb p hp
theorem allLt_mem {d : Addr} {l : Led} (h : AllLt d l) {p : Addr × Obj} (hp : p ∈ l) : p.1 < d := ktn_ltOf h p hp
theorem name_res {h₀ h : Heap} {L b D3 l0 D1 L1 : Addr} {o o2 : Obj} {nm mk : Str} {t t0 t1 t2 : Tok} {c1 c2 : Addr × Obj} {rest : Led} (d : Nat)
    (N : News h₀ L h ((D3, tupOf [.ref D1, .str (nm ++ mk) t, .ref l0] 0) :: (l0, listOf ([] : List Value).toArray 0) :: (D1, tupOf [.str (Str.ofString "name") t0, .str nm t1, .str mk t2] 0) :: (b, o2) :: c1 :: c2 :: rest)) (hn : nm ∈ names) (hm : mk ∈ marks)
    (f1 : @LT.lt Nat _ b D1 ∧ @LT.lt Nat _ (L1 + 1 + 1) D1 ∧ @LT.lt Nat _ (L1 + 1) D1 ∧ AllLt D1 rest) (f2 : @LT.lt Nat _ D1 l0 ∧ @LT.lt Nat _ b l0 ∧ @LT.lt Nat _ (L1 + 1 + 1) l0 ∧ @LT.lt Nat _ (L1 + 1) l0 ∧ AllLt l0 rest)
    (f3 : @LT.lt Nat _ l0 D3 ∧ @LT.lt Nat _ D1 D3 ∧ @LT.lt Nat _ b D3 ∧ @LT.lt Nat _ (L1 + 1 + 1) D3 ∧ @LT.lt Nat _ (L1 + 1) D3 ∧ AllLt D3 rest) :
    ∃ tl, News h₀ L h ((b, o2) :: (tl ++ rest)) ∧ NewOver tl ((b, o) :: rest) ∧ ResIn tl d (.ref D3) (.ref D1) (nm ++ mk) [] := by
  refine ⟨[(D3, tupOf [.ref D1, .str (nm ++ mk) t, .ref l0] 0), (l0, listOf ([] : List Value).toArray 0), (D1, tupOf [.str (Str.ofString "name") t0, .str nm t1, .str mk t2] 0)], fun p hp => N p ?_, ?_, D3, t, l0, 0, 0, 1, rfl, .head _, .name (.tail _ (.tail _ (.head _))) hn hm, .tail _ (.head _), Nat.zero_le _, fun _ hg => nomatch hg⟩
  · simp only [List.mem_cons, List.cons_append, List.nil_append] at hp ⊢
    rcases hp with h | h | h | h | h <;> simp [h]
  · intro p hp q hq
    simp only [List.mem_cons, List.not_mem_nil, or_false] at hp
    rcases hp with rfl | rfl | rfl <;> rcases List.mem_cons.mp hq with rfl | hq
    · exact f3.2.2.1
    · exact allLt_mem f3.2.2.2.2.2 hq
    · exact f2.2.1
    · exact allLt_mem f2.2.2.2.2 hq
    · exact f1.1
    · exact allLt_mem f1.2.2.2 hq
set_option maxHeartbeats 8000000 in
theorem part0 (w : World) (mean : ExcName → Option Value) (mg mb : Str → Option Value) : PartTells w mean mg mb 0 := by
  intro b o rest dt ho hb
  (w_top off; unfold Tell; k_fill; intro dp un gd env outer A₀ base h₀ L m s Q E B F X N T hf hk hdp hun hret; refine wpAny_call ?_; k_dflt (refine' code_defC ?k1 ?k2 ?k3 ?k4 ?k5 ?kA ?kF ?kK ?k6 ?k7 ?k8 ?k9 ?kB ?kD ?_ ?c2 ?c3 ?c4; (case kA => exact rfl); (case kF => assumption); (case kK => assumption); (case k1 => k_asm); (case k2 => k_asm); (case k3 => k_asm); (case k4 => k_asm); (case k5 => k_asm); (case k6 => k_is); (case k7 => k_is); (case k8 => (simp only [recursionLimit] at *; omega)); (case k9 => exact BindsTo.of_eq rfl); (case kB => exact rfl); (case kD => decide +kernel); (case c2 => exact rfl); (case c3 => exact rfl); (case c4 => exact rfl); k_whole; intro g1 L1 h1 tk1 cells1 FG1 F1 N1 CA1 B1 X1 T1 lt1; k_cells CA1; (try simp only [List.cons_append, List.nil_append] at N1); (try dsimp only); (try k_fold)))
  have hb1 : b < L1 := lt1 _ (.head _)
  (repeat' ((fail_if_success (with_reducible show wpAny _ _ (exec (Stmt.For _ _ _ _ _) _) _ _ _)); (fail_if_success (with_reducible show wpAny _ _ (exec (Stmt.While _ _ _ _) _) _ _ _)); (fail_if_success (with_reducible show wpAny _ _ (eval (Expr.ListComp _ _ _ _) _) _ _ _)); (fail_if_success (with_reducible show wpAny _ _ (exec (Stmt.Assign _ (Expr.ListComp _ _ _ _) _) _) _ _ _)); (fail_if_success (with_reducible show wpAny _ _ (call (Value.type "range") _ _) _ _ _)); (fail_if_success (with_reducible show wpAny _ _ (pyIter _) _ _ _)); first | (k_unfold; (try dsimp only)) | (k_end; kc_close) | walk1 | (dsimp only; walk1) | (leave1; walk_say "STEP leave1"; (try dsimp only)) | fail "no step"))
  (rename News _ _ _ _ => lN); (rename Fr _ _ _ _ => lF)
  have lN2 := news_rot lN
  refine one_use (by assumption) lF (by assumption) lN2 (by assumption) rfl rfl (by ((simp only [depth_under_make, depth_under_kw, depth_in1, depth_deeper, depth_caller, recursionLimit] at *); omega)) (by ((have hcL9 := cLine_is); (simp only [units_in1, units_deeper, Around.mark_units, units_caller] at *); omega)) ho (by simp) ?_ ?_ ?_
  · exact off_cells hb1 hb
  · exact ne_bag_list lN2 (.tail _ (.head _)) ho (.head _) (by simp)
  intro r o' h' tk' hr ho' F' N'
  obtain ⟨mk, tkm, rfl, hmk⟩ := marks_of hr
  clear lN lN2 lF
  (repeat' ((fail_if_success (with_reducible show wpAny _ _ (exec (Stmt.For _ _ _ _ _) _) _ _ _)); (fail_if_success (with_reducible show wpAny _ _ (exec (Stmt.While _ _ _ _) _) _ _ _)); (fail_if_success (with_reducible show wpAny _ _ (eval (Expr.ListComp _ _ _ _) _) _ _ _)); (fail_if_success (with_reducible show wpAny _ _ (exec (Stmt.Assign _ (Expr.ListComp _ _ _ _) _) _) _ _ _)); (fail_if_success (with_reducible show wpAny _ _ (call (Value.type "range") _ _) _ _ _)); (fail_if_success (with_reducible show wpAny _ _ (pyIter _) _ _ _)); first | (k_unfold; (try dsimp only)) | (k_end; kc_close) | walk1 | (dsimp only; walk1) | (leave1; walk_say "STEP leave1"; (try dsimp only)) | fail "no step"))
  (rename News _ _ _ _ => lN); (rename Fr _ _ _ _ => lF)
  refine one_use (by assumption) lF (by assumption) lN (by assumption) rfl rfl (by ((simp only [depth_under_make, depth_under_kw, depth_in1, depth_deeper, depth_caller, recursionLimit] at *); omega)) (by ((have hcL9 := cLine_is); (simp only [units_in1, units_deeper, Around.mark_units, units_caller] at *); omega)) ho' (by simp) ?_ ?_ ?_
  · exact off_cells hb1 hb
  · exact ne_bag_list lN (.tail _ (.head _)) ho' (.head _) (by simp)
  intro r2 o2 h2 tk2 hr2 ho2 F2 N2
  obtain ⟨nm, tkn, rfl, hnm⟩ := names_of hr2
  have b1 := (names_ok _ hnm).2.1
  have b2 := (marks_ok _ hmk).1
  clear lN lF
  (repeat' ((fail_if_success (with_reducible show wpAny _ _ (exec (Stmt.For _ _ _ _ _) _) _ _ _)); (fail_if_success (with_reducible show wpAny _ _ (exec (Stmt.While _ _ _ _) _) _ _ _)); (fail_if_success (with_reducible show wpAny _ _ (eval (Expr.ListComp _ _ _ _) _) _ _ _)); (fail_if_success (with_reducible show wpAny _ _ (exec (Stmt.Assign _ (Expr.ListComp _ _ _ _) _) _) _ _ _)); (fail_if_success (with_reducible show wpAny _ _ (call (Value.type "range") _ _) _ _ _)); (fail_if_success (with_reducible show wpAny _ _ (pyIter _) _ _ _)); first | (k_unfold; (try dsimp only)) | (k_end; kc_close) | walk1 | (dsimp only; walk1) | (leave1; walk_say "STEP leave1"; (try dsimp only)) | fail "no step"))
  (rename News _ _ _ _ => lN)
  (rename _ < _ ∧ _ < _ ∧ _ < _ ∧ AllLt _ rest => f1); (rename _ < _ ∧ _ < _ ∧ _ < _ ∧ _ < _ ∧ AllLt _ rest => f2); (rename _ < _ ∧ _ < _ ∧ _ < _ ∧ _ < _ ∧ _ < _ ∧ AllLt _ rest => f3)
  obtain ⟨tl, N9, q1, q2⟩ := name_res (o := o) 0 lN hnm hmk f1 f2 f3
  exact hret _ _ _ _ (by assumption) N9 ⟨o2, tl, _, _, _, ho2, rfl, q1, q2⟩
end Mine
namespace Mine
section
variable {prog : Program} {w : World} {A : Around} {E : Value → Shared → Prop} {s : Shared} {env : Env} {h₀ : Heap} {L : Addr}


def EltEndG (h₀ : Heap) (L : Addr) (m : Str → Option Value) (I D C : Addr) (oI oD : Obj) (s₁ : Shared) (J : Value → Led → Prop) (y : Value) (s₂ : Shared) : Prop :=
  ∃ h' tk nx oC mc, s₂ = { s₁ with heap := h', toks := tk } ∧ Fr h₀ L h' m ∧ News h₀ L h' ((I, oI) :: (D, oD) :: (C, oC) :: nx) ∧ NsO C oC mc ∧ Off I nx ∧ Off D nx ∧ Off C nx ∧ J y nx
theorem codeAny_compLoop_any {R : Result → Shared → Prop} {elt target iter : Expr} {scope : Scope} {pos : Pos} {it acc : Value} {env : Env} (I : Nat → Shared → Prop)
    (turn : ∀ n s, I n s → wpAny (model prog w) A (pyNext it) (fun r s₁ => match r with
      | none => R (.ok .next) s₁
      | some v => wpAny (model prog w) A (letOwnedTupleGo target it v) (fun _ s₁' => wpAny (model prog w) A (assign target env v) (fun _ s₂ => wpAny (model prog w) A (eval elt env) (fun x s₃ =>
          wpAny (model prog w) A (call (.builtin "list.append") [acc, x]) (fun _ s₄ => ∃ m, m < n ∧ I m s₄) (notedBy (model prog w) A env fun e s' => R (.error e) s') s₃)
          (notedBy (model prog w) A env fun e s' => R (.error e) s') s₂) (notedBy (model prog w) A env fun e s' => R (.error e) s') s₁') (notedBy (model prog w) A env fun e s' => R (.error e) s') s₁) (notedBy (model prog w) A env fun e s' => R (.error e) s') s)
    (n : Nat) (h : I n s) :
    codeAny (model prog w) A (.compLoop (.ListComp elt [⟨target, iter, [], 0⟩] scope pos) 0 it acc env) R s := by
  refine codeAny_loop rfl I (fun n s hI => ?_) n h
  show wpAny _ _ ((compTurn (.ListComp elt [⟨target, iter, [], 0⟩] scope pos) 0 it acc env).onRaise (fun x => do noteFrame x env; theTreesLotGoes x)) _ _ s
  refine wpAny_noted ?_
  rw [compTurn_list1]
  refine wpAny_bind (wpAny_standAt (wpAny_bind (wpAny_mono (turn n s hI) (fun r s₁ h₁ => ?_) fun _ _ h' => h')))
  cases r with
  | none => exact wpAny_pure h₁
  | some v =>
    refine wpAny_bind (wpAny_mono h₁ (fun _ s₁' h₁' => ?_) fun _ _ h' => h')
    exact wpAny_bind (wpAny_mono h₁' (fun _ s₂ h₂ => wpAny_bind (wpAny_bind (wpAny_mono h₂ (fun x s₃ h₃ => wpAny_bind (wpAny_mono h₃
      (fun _ s₄ h₄ => wpAny_pure (wpAny_pure ⟨rfl, h₄⟩)) fun _ _ h' => h')) fun _ _ h' => h'))) fun _ _ h' => h')
theorem comp_blockG {elt iter target : Expr} {scope : Scope} {cl : List (Str × Addr)} {pos : Pos} {s₂ : Shared} {I : Addr} {fp : List Addr} {n : Nat} {P : Nat → Value → Prop} {St : Nat → Heap → Prop} {m : Str → Option Value} {news : Led} {J : Nat → List Value → Led → Prop} {RR : Value → Addr → Result → Shared → Prop}
    (hcell : ∀ y ∈ scope.names, y.2 ≠ .cell) (hkind : scope.kind = .function)
    (W : Walks prog w A I fp [I] n P St) (hsz : n ≤ sizeLine) (hst : St 0 s₂.heap) (hex : ∀ i h, St i h → ∃ o, h.get? I = some o) (hLf : L ∉ fp) (hI0 : h₀.get? I = none) (hfp : ∀ c ∈ fp, c = I ∨ ∃ oc, ∀ i acc nx, J i acc nx → (c, oc) ∈ nx)
    (F : Fr h₀ L s₂.heap m) (N : News h₀ L s₂.heap news) (hoff : Off I news) (hj : J 0 [] news)
    (hgo : ∀ i (s' : Shared) v (Q' : Unit → Shared → Prop) E', St i s'.heap → Q' () s' → wpAny (model prog w) A (letOwnedTupleGo target (.ref I) v) Q' E' s')
    (turn : ∀ i v acc nx h tk D C oI oC nD mc E', i < n → P i v → J i acc nx → acc.length = i → Off I nx → Off D nx → Off C nx → I ≠ C → D ≠ C → h₀.get? C = none → C ≠ L → Fr h₀ L h m → News h₀ L h ((I, oI) :: (D, listOf acc.toArray nD) :: (C, oC) :: nx) → NsO C oC mc →
      wpAny (model prog w) A (assign target (compEnvC scope cl C env) v) (fun _ s₃ => wpAny (model prog w) A (eval elt (compEnvC scope cl C env)) (EltEndG h₀ L m I D C oI (listOf acc.toArray nD) { s₂ with heap := h, toks := tk } (fun y nx => J (i + 1) (acc ++ [y]) nx)) E' s₃) E' { s₂ with heap := h, toks := tk })
    (hRR : ∀ D C h tk mc acc nx nD, h.Ns C mc → C ≠ L → D ≠ C → D ≠ L → h₀.get? C = none → h₀.get? D = none → Off C nx → Off D nx → Fr h₀ L h m → News h₀ L h ((D, listOf acc.toArray nD) :: nx) → J n acc nx → acc.length = n → RR (.ref D) C (.ok .next) { s₂ with heap := h, toks := tk }) :
    wpAny (model prog w) A (newList []) (fun acc s₃ => wpAny (model prog w) A (newFunctionEnv scope env.globals cl [] env.qual none .none (some env)) (fun cenv s₄ =>
      codeAny (model prog w) A (.compStart (.ListComp elt [⟨target, iter, [], 0⟩] scope pos) 0 (.ref I) acc { cenv with scope := relabel scope env }) (RR acc cenv.locals) s₄) E s₃) E s₂ := by
  refine wpAny_newObj_type (wpAny_newFunctionEnv hcell (by intro y hy; simp at hy) (fun h₁ hns₁ hsb₁ => ?_) hkind)
  dsimp only at hns₁ hsb₁ ⊢
  generalize hH2 : s₂.heap.push { cls := .type "list", dict := none, data := .seq ([] : List Value).toArray } = H2 at hns₁ hsb₁ ⊢
  have hC : H2.objs.size = s₂.heap.objs.size + 1 := by rw [← hH2, Heap.size_push]
  generalize hCd : H2.objs.size = C at hns₁ hsb₁ hC ⊢
  generalize hDd : s₂.heap.objs.size = D at hC ⊢
  have hDC : D ≠ C := by rw [hC]; exact Nat.ne_of_lt (Nat.lt_succ_self _)
  have below : ∀ b, b < D → b ≠ C ∧ b ≠ D := fun b hb => ⟨by rw [hC]; exact Nat.ne_of_lt (Nat.lt_succ_of_lt hb), Nat.ne_of_lt hb⟩
  have old : ∀ b o, s₂.heap.get? b = some o → h₁.get? b = some o := fun b o e => hsb₁.extBut b o (below b (hDd ▸ Heap.lt_size e)).1 (Heap.get?_push_of_some _ (hH2 ▸ Heap.get?_push_of_some _ e))
  have hD1 : h₁.get? D = some (listOf ([] : List Value).toArray 0) := hsb₁.extBut _ _ hDC (Heap.get?_push_of_some _ (hH2 ▸ hDd ▸ Heap.get?_push_size _ rfl))
  have hst₁ : St 0 h₁ := W.frame _ _ _ hst fun b _ o e => old b o e
  have fresh : ∀ a, D ≤ a → s₂.heap.get? a = none := fun a ha => by
    cases e : s₂.heap.get? a with
    | none => rfl
    | some o' => exact absurd (Heap.lt_size e) (hDd ▸ Nat.not_lt.mpr ha)
  have hC0 : h₀.get? C = none := by
    cases e : h₀.get? C with
    | none => rfl
    | some o => have := fresh C (by rw [hC]; exact Nat.le_succ _); rw [F.keep _ _ e] at this; cases this
  have hD0 : h₀.get? D = none := by
    cases e : h₀.get? D with
    | none => rfl
    | some o => have := fresh D (Nat.le_refl _); rw [F.keep _ _ e] at this; cases this
  have hLD : L < D := hDd ▸ F.ns.lt
  obtain ⟨oI₂, hoI₂⟩ := hex _ _ hst
  have hID : I < D := hDd ▸ Heap.lt_size hoI₂
  have hIL : I ≠ L := fun e => hLf (e ▸ W.sub I (List.mem_singleton.mpr rfl))
  have hCL : C ≠ L := (below L hLD).1.symm
  have hDL : D ≠ L := (below L hLD).2.symm
  have hIC : I ≠ C := (below I hID).1
  have hID' : I ≠ D := (below I hID).2
  have loop : ∀ s₃ : Shared, s₃ = { s₂ with heap := h₁, toks := s₂.toks + ([] : List (Str × Value)).length } →
      codeAny (model prog w) A (.compLoop (.ListComp elt [⟨target, iter, [], 0⟩] scope pos) 0 (.ref I) (.ref D) (compEnvC scope cl C env)) (RR (.ref D) C) s₃ := by
    rintro s₃ rfl
    obtain ⟨oC₁, hoC₁, hnC₁⟩ := nsO_of hns₁
    refine codeAny_compLoop_any (fun k s' => ∃ i h tk acc nD nx oI oC mc, s' = { s₂ with heap := h, toks := tk } ∧ k = n - i ∧ i ≤ n ∧ St i h ∧ acc.length = i ∧ Fr h₀ L h m ∧ News h₀ L h ((I, oI) :: (D, listOf acc.toArray nD) :: (C, oC) :: nx) ∧ NsO C oC mc ∧ Off I nx ∧ Off D nx ∧ Off C nx ∧ J i acc nx) ?_ n
      ⟨0, h₁, _, [], 0, news, oI₂, oC₁, _, rfl, rfl, Nat.zero_le _, hst₁, rfl, F.keeps old, ?_, hnC₁, hoff, fun p hp => (below _ (hDd ▸ Heap.lt_size (N p hp).1)).2, fun p hp => (below _ (hDd ▸ Heap.lt_size (N p hp).1)).1, hj⟩
    · rintro k s' ⟨i, h, tk, acc, nD, nx, oI, oC, mc, rfl, rfl, hi, hst', hacc, F', N', hnC, o1, o2, o3, hj'⟩
      have hmc := hnC h (N' _ (.tail _ (.tail _ (.head _)))).1
      rcases Nat.lt_or_ge i n with hlt | hge
      · refine W.item i _ _ _ hlt hst' fun v h₂ tk₂ hPv hst₂ hk₂ => ?_
        have up : ∀ b o, b ≠ I → h.get? b = some o → h₂.get? b = some o := fun b o hb e => hk₂ b o (fun q => hb (List.mem_singleton.mp q)) e
        obtain ⟨oI₃, hoI₃⟩ := hex _ _ hst₂
        refine hgo _ _ _ _ _ hst₂ ?_
        have F₃ : Fr h₀ L h₂ m := by
          refine ⟨F'.ns.at' fun o e => up L o hIL.symm e, fun b o e => up b o ?_ (F'.keep b o e), F'.above⟩
          rintro rfl; rw [hI0] at e; cases e
        have N₃ : News h₀ L h₂ ((I, oI₃) :: (D, listOf acc.toArray nD) :: (C, oC) :: nx) := by
          intro p hp
          rcases List.mem_cons.mp hp with rfl | hp
          · exact ⟨hoI₃, hIL, hI0⟩
          · rcases List.mem_cons.mp hp with rfl | hp
            · exact ⟨up D _ hID'.symm (N' _ (.tail _ (.head _))).1, hDL, hD0⟩
            · rcases List.mem_cons.mp hp with rfl | hp
              · exact ⟨up C _ hIC.symm (N' _ (.tail _ (.tail _ (.head _)))).1, hCL, hC0⟩
              · have q := N' p (.tail _ (.tail _ (.tail _ hp)))
                exact ⟨up _ _ (o1 p hp) q.1, q.2⟩
        refine wpAny_mono (turn i v acc nx h₂ _ D C oI₃ oC nD _ _ hlt hPv hj' hacc o1 o2 o3 hIC hDC hC0 hCL F₃ N₃ hnC) (fun _ s₃ h₃ => wpAny_mono h₃ (fun y s₄ h₄ => ?_) fun _ _ e => e) fun _ _ e => e
        obtain ⟨h₅, tk₅, nx', oC₅, mc₅, rfl, F₅, N₅, hnC₃, p1, p2, p3, hj₅⟩ := h₄
        refine append_K F₅ N₅ (.tail hID' (.head fun p hp => ?_)) (fun h₆ F₆ N₆ => ?_) (by rw [List.size_toArray]; omega)
        · rcases List.mem_cons.mp hp with rfl | hp
          · exact hDC.symm
          · exact p2 p hp
        · refine ⟨n - (i + 1), by omega, i + 1, h₆, tk₅, acc ++ [y], nD + 1, nx', oI₃, oC₅, mc₅, rfl, rfl, hlt, ?_, by simp [hacc], F₆, ?_, hnC₃, p1, p2, p3, hj₅⟩
          · refine W.frame _ _ _ hst₂ fun b hb o e => ?_
            rcases hfp b hb with rfl | ⟨oc, hc⟩
            · rw [hoI₃] at e; cases e
              exact (N₆ _ (.head _)).1
            · have e2 := (N₃ _ (.tail _ (.tail _ (.tail _ (hc _ _ _ hj'))))).1
              rw [e] at e2; cases e2
              exact (N₆ _ (.tail _ (.tail _ (.tail _ (hc _ _ _ hj₅))))).1
          · have e : (acc ++ [y]).toArray = acc.toArray.push y := by simp
            rw [e]; exact N₆
      · have hin : i = n := by omega
        subst hin
        refine W.done _ _ _ hst' fun h₂ tk₂ hk₂ => ?_
        have e1 : ∀ b o, b ≠ I → h.get? b = some o → h₂.get? b = some o := fun b o hb e => hk₂ b o (fun q => hb (List.mem_singleton.mp q)) e
        refine hRR D C h₂ _ mc acc nx nD (hmc.at' fun o e => e1 _ o hIC.symm e) hCL hDC hDL hC0 hD0 o3 o2 ?_ ?_ hj' hacc
        · refine ⟨F'.ns.at' fun o e => e1 L o hIL.symm e, fun b o e => e1 b o ?_ (F'.keep b o e), F'.above⟩
          rintro rfl; rw [hI0] at e; cases e
        · intro p hp
          rcases List.mem_cons.mp hp with rfl | hp
          · exact ⟨e1 D _ hID'.symm (N' _ (.tail _ (.head _))).1, hDL, hD0⟩
          · have q := N' p (.tail _ (.tail _ (.tail _ hp)))
            exact ⟨e1 _ _ (o1 p hp) q.1, q.2⟩
    · intro p hp
      rcases List.mem_cons.mp hp with rfl | hp
      · exact ⟨old _ _ hoI₂, hIL, hI0⟩
      · rcases List.mem_cons.mp hp with rfl | hp
        · exact ⟨hD1, hDL, hD0⟩
        · rcases List.mem_cons.mp hp with rfl | hp
          · exact ⟨hoC₁, hCL, hC0⟩
          · exact ⟨old _ _ (N p hp).1, (N p hp).2⟩
  exact codeAny_compStart_list (loop _ rfl) (W.self 0 _ _ _ hst₁ (loop _ rfl))


theorem assign3 {cenv : Env} {n1 n2 n3 : Str} {p1 p2 p3 tp : Pos} {k : Nat} {a : Addr} {x y z : Value} {mc : Str → Option Value} {Q : Unit → Shared → Prop} {E : Value → Shared → Prop} (hh : A.handled = none) (ht : IsTup s.heap a #[x, y, z]) (hn : s.heap.Ns cenv.locals mc)
    (k1 : cenv.kindOf n1 = some .local) (k2 : cenv.kindOf n2 = some .local) (k3 : cenv.kindOf n3 = some .local) (hp : (cenv.scope.kind == .class || (cenv.scope.kind == .module && cenv.locals != cenv.globals)) = false)
    (h : ∀ h' tk, h'.Ns cenv.locals (fun q => if q = n3 then some z else if q = n2 then some y else if q = n1 then some x else mc q) → (∀ b o, b ≠ cenv.locals → s.heap.get? b = some o → h'.get? b = some o) → Q () { s with heap := h', toks := tk }) :
    wpAny (model prog w) A (assign (.Tuple [.Name n1 p1, .Name n2 p2, .Name n3 p3] k tp) cenv (.ref a)) Q E s := by
  refine assign_Tuple_tuple hh ht rfl rfl fun h₁ he => ?_
  have hCs := hn.lt
  have e1 : ∀ b o, s.heap.get? b = some o → h₁.get? b = some o := fun b o e => he b o (Nat.ne_of_lt (Heap.lt_size e)) e
  show wpAny _ A (assignInOrder [assign (.Name n1 p1) cenv, assign (.Name n2 p2) cenv, assign (.Name n3 p3) cenv] [x, y, z]) Q E _
  refine assignInOrder_cons (wpAny_assign_Name (wpAny_storeName_local k1 (hn.keeps e1) (fun h₂ hn₂ hs₂ => ?_) hp))
  refine assignInOrder_cons (wpAny_assign_Name (wpAny_storeName_local k2 hn₂ (fun h₃ hn₃ hs₃ => ?_) hp))
  refine assignInOrder_cons (wpAny_assign_Name (wpAny_storeName_local k3 hn₃ (fun h₄ hn₄ hs₄ => ?_) hp))
  exact assignInOrder_nil (h h₄ _ hn₄ fun b o hb e => hs₄.extBut b o hb (hs₃.extBut b o hb (hs₂.extBut b o hb (e1 b o e))))

def Tups (news : Led) (vs : List Value) (xs : List (Value × Value × Value)) : Prop := All2 (fun v (x : Value × Value × Value) => ∃ a n, v = .ref a ∧ (a, tupOf [x.1, x.2.1, x.2.2] n) ∈ news) vs xs
def Comp3At (h₀ : Heap) (L : Addr) (sel : Value × Value × Value → Value) (Q : Value → Shared → Prop) (it : Value) (s₂ : Shared) : Prop :=
  ∃ (I l : Addr) (vs : List Value) (nn : Nat) (m : Str → Option Value) (news : Led) (xs : List (Value × Value × Value)), it = .ref I ∧ s₂.heap.IsListIter I l 0 ∧ (l, listOf vs.toArray nn) ∈ news ∧ Tups news vs xs ∧ h₀.get? I = none ∧ I ≠ L ∧ Fr h₀ L s₂.heap m ∧ News h₀ L s₂.heap news ∧ Off I news ∧ vs.length ≤ 1000 ∧
    ∀ h tk D nD, Fr h₀ L h m → News h₀ L h ((D, listOf (xs.map sel).toArray nD) :: news) → Off D news → Q (.ref D) { s₂ with heap := h, toks := tk }
theorem comp3_list {sel : Value × Value × Value → Value} {Q : Value → Shared → Prop} {l : Addr} {vs : List Value} {nn : Nat} {m : Str → Option Value} {news : Led} {xs : List (Value × Value × Value)} (hl : (l, listOf vs.toArray nn) ∈ news) (ht : Tups news vs xs) (F : Fr h₀ L s.heap m) (N : News h₀ L s.heap news) (hz : vs.length ≤ 1000)
    (done : ∀ h tk D nD, Fr h₀ L h m → News h₀ L h ((D, listOf (xs.map sel).toArray nD) :: news) → Off D news → Q (.ref D) { s with heap := h, toks := tk }) :
    wpAny (model prog w) A (pyIter (.ref l)) (fun it s₂ => Comp3At h₀ L sel Q it s₂) E s := by
  have hol : s.heap.get? l = some (listOf vs.toArray nn) := (N _ hl).1
  refine wpAny_pyIter_list (⟨_, hol, rfl, nn, rfl⟩ : s.heap.IsList l vs.toArray) ?_
  exact ⟨_, l, vs, nn, m, news, xs, rfl, ⟨_, Heap.get?_push_size _ rfl, rfl, rfl⟩, hl, ht, next_is_new F, (ne_next F).symm, F.push _, fun p hp => ⟨Heap.get?_push_of_some _ (N p hp).1, (N p hp).2⟩, off_next N, hz, done⟩

theorem ListComp3 {n1 n2 n3 nk : Str} {p1 p2 p3 pk tp : Pos} {k : Nat} {iter : Expr} {scope : Scope} {cl : List (Str × Addr)} {pos : Pos} {Q : Value → Shared → Prop} (sel : Value × Value × Value → Value)
    (hsel : ∀ (x : Value × Value × Value) (mc : Str → Option Value), (fun (q : Str) => if q = n3 then some x.2.2 else if q = n2 then some x.2.1 else if q = n1 then some x.1 else mc q) nk = some (sel x)) (hh : A.handled = none)
    (hclos : closureFor scope env = pure cl) (hcell : ∀ y ∈ scope.names, y.2 ≠ .cell) (hkind : scope.kind = .function)
    (hnames : ∀ y ∈ scope.names, y.2 = .local → scope.names.lookup y.1 = some .local) (l1 : scope.names.lookup n1 = some .local) (l2 : scope.names.lookup n2 = some .local) (l3 : scope.names.lookup n3 = some .local) (lk : scope.names.lookup nk = some .local) (hdb : (nk == ("__debug__" : Str)) = false)
    (h : wpAny (model prog w) A (eval iter env) (fun xv s₁ => wpAny (model prog w) A (pyIter xv) (fun it s₂ => Comp3At h₀ L sel Q it s₂) E s₁) E s)
    (hs : ∀ x, foldedSetIterable iter env x = pure x := by intro _; rfl) :
    wpAny (model prog w) A (eval (.ListComp (.Name nk pk) [⟨.Tuple [.Name n1 p1, .Name n2 p2, .Name n3 p3] k tp, iter, [], 0⟩] scope pos) env) Q E s := by
  rw [eval_ListComp]
  refine wpAny_comprehension_free (use := none) rfl hs hclos hkind hnames (wpAny_mono h (fun xv s₁ h₁ => wpAny_mono h₁ (fun it s₂ h₂ => ?_) fun _ _ e => e) fun _ _ e => e)
  obtain ⟨I, l, vs, nn, m, news, xs, rfl, hit, hl, ht, hI0, hIL, F, N, hoff, hz, done⟩ := h₂
  have hol : s₂.heap.get? l = some (listOf vs.toArray nn) := (N _ hl).1
  have hls : s₂.heap.IsList l vs.toArray := ⟨_, hol, rfl, nn, rfl⟩
  have W := Walks.list (prog := prog) (w := w) hh I l (hoff _ hl) vs.toArray
  have hlen : vs.toArray.size = vs.length := by simp
  rw [hlen] at W
  have hlo : ∀ {n : Str} {C : Addr}, scope.names.lookup n = some .local → (compEnvC scope cl C env).kindOf n = some .local := fun h => lookup_relabel_local h
  have hkp : ∀ C, ((compEnvC scope cl C env).scope.kind == .class || ((compEnvC scope cl C env).scope.kind == .module && (compEnvC scope cl C env).locals != (compEnvC scope cl C env).globals)) = false := fun C => by simp [compEnvC, relabel, hkind]
  refine comp_blockG (RR := fun acc C => compPost (model prog w) A E none Q acc C) (J := fun i acc nx => nx = news ∧ acc = (xs.take i).map sel) hcell hkind W (by rw [sizeLine_eq]; omega) ⟨hit, hls⟩ (fun i h st => let ⟨⟨o, e, _⟩, _⟩ := st; ⟨o, e⟩) ?_ hI0 ?_ F N hoff ⟨rfl, rfl⟩ (fun i s' v Q' E' st hq => letGo_listiter st.1 hq) ?_ ?_
  · intro hm
    rcases List.mem_cons.mp hm with e | hm
    · exact hIL e.symm
    · exact (N _ hl).2.1 ((List.mem_singleton.mp hm).symm)
  · intro c hc
    rcases List.mem_cons.mp hc with e | hc
    · exact .inl e
    · rw [List.mem_singleton.mp hc]; exact .inr ⟨_, fun i acc nx hj => hj.1 ▸ hl⟩
  · rintro i v acc nx h tk D C oI oC nD mc E' hi hP ⟨rfl, rfl⟩ hacc o1 o2 o3 hIC hDC hC0 hCL F' N' hnC
    have hv : vs[i]? = some v := by simpa using hP
    have hxi : i < xs.length := by rw [← ht.1]; exact hi
    obtain ⟨a, ka, rfl, ha⟩ := ht.2 i v xs[i] hv (List.getElem?_eq_getElem hxi)
    have hmc := hnC h (N' _ (.tail _ (.tail _ (.head _)))).1
    refine assign3 hh (ht := ⟨_, (N' _ (.tail _ (.tail _ (.tail _ ha)))).1, rfl, ka, rfl⟩) hmc (hlo l1) (hlo l2) (hlo l3) (hkp C) fun h' tk' hn' hk' => ?_
    obtain ⟨oC', hoC', hnC'⟩ := nsO_of hn'
    refine ldVarK hn' (hsel xs[i] mc) ?_ (by simp [compEnvC, relabel, hkind]) (hlo lk) hdb
    refine ⟨h', tk', nx, oC', _, rfl, ⟨F'.ns.at' fun o e => hk' L o hCL.symm e, fun b o e => hk' b o ?_ (F'.keep b o e), F'.above⟩, ?_, hnC', o1, o2, o3, rfl, ?_⟩
    · intro (q : b = C); rw [q, hC0] at e; cases e
    · intro p hp
      rcases List.mem_cons.mp hp with rfl | hp
      · exact ⟨hk' _ _ hIC (N' _ (.head _)).1, (N' _ (.head _)).2⟩
      · rcases List.mem_cons.mp hp with rfl | hp
        · exact ⟨hk' _ _ hDC (N' _ (.tail _ (.head _))).1, (N' _ (.tail _ (.head _))).2⟩
        · rcases List.mem_cons.mp hp with rfl | hp
          · exact ⟨hoC', hCL, hC0⟩
          · have q := N' p (.tail _ (.tail _ (.tail _ hp)))
            exact ⟨hk' _ _ (o3 p hp) q.1, q.2⟩
    · rw [List.take_add_one, List.getElem?_eq_getElem hxi, List.map_append]; rfl
  · rintro D C h tk mc acc nx nD hn hCL hDC hDL hC0 hD0 o3 o2 F' N' ⟨rfl, rfl⟩ hacc
    have hx : (xs.take vs.length).map sel = xs.map sel := by rw [ht.1, List.take_length]
    rw [hx] at N'
    refine ⟨mc, hn, fun h₃ hs₃ => done h₃ _ D nD (fr_sameC F' hC0 hCL hs₃) (news_sameC N' ?_ hs₃) o2⟩
    intro p hp
    rcases List.mem_cons.mp hp with rfl | hp
    · exact hDC
    · exact o3 p hp
end
end Mine
namespace Mine
section
variable {prog : Program} {w : World} {A : Around} {E : Value → Shared → Prop} {s : Shared} {env : Env} {h₀ : Heap} {body : List Stmt} {Q : Flow → Shared → Prop}
/-- a turn's end that goes on -/
def Turn3 (h₀ : Heap) (L I : Addr) (oI : Obj) (J : (Str → Option Value) → Led → Prop) (s₁ : Shared) (f : Flow) (s₂ : Shared) : Prop := f = .next ∧ TurnEnd h₀ L I oI J s₁ s₂
/-- a loop over a list of triples of the ledger's that stores one name besides its own three -/
theorem iter_list3 {σ : Type} {n1 n2 n3 : Str} {p1 p2 p3 tp : Pos} {k : Nat} (y : Str) (V : σ → Value) (R : Nat → σ → Led → Prop) {l : Addr} {vs : List Value} {nn : Nat} {m₀ : Str → Option Value} {news base : Led} {xs : List (Value × Value × Value)} (st₀ : σ)
    (hh : A.handled = none) (k1 : env.kindOf n1 = some .local) (k2 : env.kindOf n2 = some .local) (k3 : env.kindOf n3 = some .local) (hp : (env.scope.kind == .class || (env.scope.kind == .module && env.locals != env.globals)) = false)
    (y1 : y ≠ n1) (y2 : y ≠ n2) (y3 : y ≠ n3)
    (hb : ∀ i st nx, R i st nx → ∀ p ∈ base, p ∈ nx) (hl : (l, listOf vs.toArray nn) ∈ base) (ht : Tups base vs xs)
    (F : Fr h₀ env.locals s.heap m₀) (N : News h₀ env.locals s.heap news) (hy : m₀ y = some (V st₀)) (hj : R 0 st₀ news)
    (turn : ∀ i x st nx (s₁ : Shared) I oI, xs[i]? = some x → R i st nx → Off I nx → Fr h₀ env.locals s₁.heap (fun z => if z = n3 then some x.2.2 else if z = n2 then some x.2.1 else if z = n1 then some x.1 else if z = y then some (V st) else m₀ z) → News h₀ env.locals s₁.heap ((I, oI) :: nx) →
      wpAny (model prog w) A (execs body env) (Turn3 h₀ env.locals I oI (fun m' nx => (∃ st', m' y = some (V st') ∧ R (i + 1) st' nx) ∧ ∀ z, z ≠ n1 → z ≠ n2 → z ≠ n3 → z ≠ y → m' z = m₀ z) s₁) E s₁)
    (done : ∀ (u : Str → Option Value) st nx h tk, R vs.length st nx → Fr h₀ env.locals h (fun z => if z = n3 then u z else if z = n2 then u z else if z = n1 then u z else if z = y then some (V st) else m₀ z) → News h₀ env.locals h nx → Q .next { s with heap := h, toks := tk }) :
    wpAny (model prog w) A (pyIter (.ref l)) (fun it s₂ => LoopAtT prog w A h₀ env (.Tuple [.Name n1 p1, .Name n2 p2, .Name n3 p3] k tp) body Q E it s₂) E s := by
  have hln := hb _ _ _ hj _ hl
  have hol : s.heap.get? l = some (listOf vs.toArray nn) := (N _ hln).1
  have hls : s.heap.IsList l vs.toArray := ⟨_, hol, rfl, nn, rfl⟩
  have hne : l ≠ s.heap.objs.size := Nat.ne_of_lt (Heap.lt_size hol)
  refine wpAny_pyIter_list hls ?_
  have W := Walks.list (prog := prog) (w := w) hh s.heap.objs.size l hne vs.toArray
  have hlen : vs.toArray.size = vs.length := by simp
  rw [hlen] at W
  refine ⟨_, _, _, vs.length, _, _, m₀, news, (fun i m nx => (∃ st, m y = some (V st) ∧ R i st nx) ∧ ∀ z, z ≠ n1 → z ≠ n2 → z ≠ n3 → z ≠ y → m z = m₀ z), rfl, W, ?_, ?_, ?_, ⟨⟨_, Heap.get?_push_size _ rfl, rfl, rfl⟩, hls.at fun o e => Heap.get?_push_of_some _ e⟩, F.push _, (fun p hp => ⟨Heap.get?_push_of_some _ (N p hp).1, (N p hp).2⟩), (fun i s' v Q' st hq => letGo_listiter st.1 hq), ⟨⟨st₀, hy, hj⟩, fun _ _ _ _ _ => rfl⟩, ?_, ?_⟩
  · intro hm
    rcases List.mem_cons.mp hm with e | hm
    · exact ne_next F e
    · exact (N _ hln).2.1 ((List.mem_singleton.mp hm).symm)
  · intro b hb; rw [List.mem_singleton.mp hb]; exact next_is_new F
  · intro p hp hb; exact off_next N p hp (List.mem_singleton.mp hb)
  · rintro i v m₁ nx s₁ own hi hP ⟨⟨st, h1, h2⟩, hm⟩ ho hown hget hfree hSt F₁ N₁
    obtain ⟨⟨oI, hoI, _⟩, _⟩ := id hSt
    have ho' : Off s.heap.objs.size nx := fun p hp e => ho p hp (List.mem_singleton.mpr e)
    have hIown : (s.heap.objs.size, oI) ∈ own := hfree _ (.head _) (next_is_new F) oI hoI
    have hv : vs[i]? = some v := by simpa using hP
    have hxi : i < xs.length := by rw [← ht.1]; exact hi
    obtain ⟨a, ka, rfl, ha⟩ := ht.2 i v xs[i] hv (List.getElem?_eq_getElem hxi)
    have ha' := (N₁ _ (List.mem_append.mpr (.inr (hb _ _ _ h2 _ ha)))).1
    refine assign3 hh (ht := ⟨_, ha', rfl, ka, rfl⟩) F₁.ns k1 k2 k3 hp fun h' tk' hn' hk' => ?_
    have hIL : s.heap.objs.size ≠ env.locals := (ne_next F).symm
    have F₂ : Fr h₀ env.locals h' (fun z => if z = n3 then some xs[i].2.2 else if z = n2 then some xs[i].2.1 else if z = n1 then some xs[i].1 else if z = y then some (V st) else m₀ z) := by
      have e : (fun q => if q = n3 then some xs[i].2.2 else if q = n2 then some xs[i].2.1 else if q = n1 then some xs[i].1 else m₁ q) = fun z => if z = n3 then some xs[i].2.2 else if z = n2 then some xs[i].2.1 else if z = n1 then some xs[i].1 else if z = y then some (V st) else m₀ z := by
        funext z
        by_cases a3 : z = n3
        · simp [a3]
        · by_cases a2 : z = n2
          · simp [a2]
          · by_cases a1 : z = n1
            · simp [a1]
            · by_cases a0 : z = y
              · subst a0; simp [a1, a2, a3, h1]
              · simp [a1, a2, a3, a0, hm z a1 a2 a3 a0]
      rw [← e]
      refine ⟨hn', fun b o e => hk' b o ?_ (F₁.keep b o e), F₁.above⟩
      exact Nat.ne_of_lt (Nat.lt_of_lt_of_le (Heap.lt_size e) F₁.above)
    have N₂ : News h₀ env.locals h' (own ++ nx) := fun p hp => ⟨hk' _ _ (N₁ p hp).2.1 (N₁ p hp).1, (N₁ p hp).2⟩
    refine wpAny_mono (turn i xs[i] st nx { s₁ with heap := h', toks := tk' } _ oI (List.getElem?_eq_getElem hxi) h2 ho' F₂ (fun p hp => ?_)) (fun f s₂ p => ?_) fun _ _ e => e
    · rcases List.mem_cons.mp hp with rfl | hp
      · exact N₂ _ (List.mem_append.mpr (.inl hIown))
      · exact N₂ _ (List.mem_append.mpr (.inr hp))
    · obtain ⟨rfl, h₃, tk₃, m₃, nx₃, rfl, F₃, N₃, o₃, j₃⟩ := p
      refine ⟨rfl, h₃, tk₃, m₃, nx₃, rfl, F₃, ?_, fun p hp hb => o₃ p hp (List.mem_singleton.mp hb), j₃⟩
      intro p hp
      rcases List.mem_append.mp hp with hp | hp
      · have hg : s₁.heap.get? p.1 = some p.2 := hget p hp
        rcases List.mem_cons.mp (hown p hp) with h4 | h4
        · have hg' : s₁.heap.get? s.heap.objs.size = some p.2 := h4 ▸ hg
          rw [hoI] at hg'
          have e2 : p = (s.heap.objs.size, oI) := Prod.ext h4 (Option.some.inj hg').symm
          rw [e2]; exact N₃ _ (.head _)
        · have h5 := List.mem_singleton.mp h4
          have h6 := (N₁ _ (List.mem_append.mpr (.inr (hb _ _ _ h2 _ hl)))).1
          rw [← h5, hg] at h6
          have e2 : p = (l, listOf vs.toArray nn) := Prod.ext h5 (Option.some.inj h6)
          rw [e2]; exact N₃ _ (.tail _ (hb _ _ _ (j₃.1.choose_spec.2) _ hl))
      · exact N₃ _ (.tail _ hp)
  · rintro h' tk m' news' F' N' _ ⟨⟨st, h1, h2⟩, hm⟩
    refine done m' st news' h' tk h2 ?_ N'
    have e : (fun z => if z = n3 then m' z else if z = n2 then m' z else if z = n1 then m' z else if z = y then some (V st) else m₀ z) = m' := by
      funext z
      by_cases a3 : z = n3
      · simp [a3]
      · by_cases a2 : z = n2
        · simp [a2]
        · by_cases a1 : z = n1
          · simp [a1]
          · by_cases a0 : z = y
            · subst a0; simp [a1, a2, a3, h1]
            · simp [a1, a2, a3, a0, hm z a1 a2 a3 a0]
    rw [e]; exact F'
end
end Mine
namespace Mine
local macro_rules | `(tactic| k_all) => `(tactic| assumption)
local macro_rules | `(tactic| k_mem) => `(tactic| assumption)
/-- the comprehension of particles, between two elements -/
def InJ (b : Addr) (rest : Led) (d : Nat) (CR : Led) (_ : Nat) (acc : List Value) (nx : Led) : Prop :=
  ∃ (o : Obj) (tl : Led) (items : List (Value × Str × List Value)), BagOk o ∧ nx = (b, o) :: (tl ++ CR) ∧ NewOver tl ((b, o) :: rest) ∧ All2 (fun v (x : Value × Str × List Value) => ResIn tl d v x.1 x.2.1 x.2.2) acc items
theorem off_in {b I D C : Addr} {o oI oD oC : Obj} {tl CR rest : Led} (hnew : NewOver tl ((b, o) :: rest)) (p1 : Off I ((b, o) :: (tl ++ CR))) (p2 : Off D ((b, o) :: (tl ++ CR))) (p3 : Off C ((b, o) :: (tl ++ CR))) (hc : Off b CR) :
    Off b ((I, oI) :: (D, oD) :: (C, oC) :: (tl ++ CR)) := by
  intro p hp
  simp only [List.mem_cons, List.mem_append] at hp
  rcases hp with rfl | rfl | rfl | hp | hp
  · exact (p1 (b, o) (.head _)).symm
  · exact (p2 (b, o) (.head _)).symm
  · exact (p3 (b, o) (.head _)).symm
  · exact Nat.ne_of_gt (hnew p hp (b, o) (.head _))
  · exact hc p hp
theorem elt_in {h₀ h : Heap} {L b I D C : Addr} {m : Str → Option Value} {o o7 oI oC : Obj} {acc : List Value} {nD d i tk : Nat} {s : Shared} {tl tl7 CR rest : Led} {r tv : Value} {text : Str} {gs : List Value} {items : List (Value × Str × List Value)}
    (F : Fr h₀ L h m) (N : News h₀ L h ((b, o7) :: (tl7 ++ (I, oI) :: (D, listOf acc.toArray nD) :: (C, oC) :: (tl ++ CR)))) (p1 : Off I ((b, o) :: (tl ++ CR))) (p2 : Off D ((b, o) :: (tl ++ CR))) (p3 : Off C ((b, o) :: (tl ++ CR)))
    (hnew : NewOver tl ((b, o) :: rest)) (hnew7 : NewOver tl7 ((b, o) :: (I, oI) :: (D, listOf acc.toArray nD) :: (C, oC) :: (tl ++ CR))) (hall : All2 (fun v (x : Value × Str × List Value) => ResIn tl d v x.1 x.2.1 x.2.2) acc items) (ho7 : BagOk o7) (hres : ResIn tl7 d r tv text gs)
    (hCR : ∀ p ∈ rest, p ∈ CR) :
    EltEnd h₀ L m I D C oI (listOf acc.toArray nD) oC s (fun y nx => InJ b rest d CR (i + 1) (acc ++ [y]) nx) r { s with heap := h, toks := tk } := by
  have off : ∀ {X : Addr} {oX : Obj}, (X, oX) ∈ (I, oI) :: (D, listOf acc.toArray nD) :: (C, oC) :: (tl ++ CR) → Off X ((b, o) :: (tl ++ CR)) → Off X ((b, o7) :: ((tl ++ tl7) ++ CR)) := by
    intro X oX hX hp p hq
    simp only [List.mem_cons, List.mem_append] at hq
    rcases hq with rfl | (hq | hq) | hq
    · exact hp (b, o) (.head _)
    · exact hp p (.tail _ (List.mem_append.mpr (.inl hq)))
    · exact Nat.ne_of_gt (hnew7 p hq (X, oX) (.tail _ hX))
    · exact hp p (.tail _ (List.mem_append.mpr (.inr hq)))
  refine ⟨h, tk, (b, o7) :: ((tl ++ tl7) ++ CR), rfl, F, fun p hp => N p ?_, off (.head _) p1, off (.tail _ (.head _)) p2, off (.tail _ (.tail _ (.head _))) p3, o7, tl ++ tl7, items ++ [(tv, text, gs)], ho7, rfl, ?_, ?_⟩
  · simp only [List.mem_cons, List.mem_append] at hp ⊢
    rcases hp with h | h | h | h | (h | h) | h <;> simp [h]
  · intro p hp q hq
    rcases List.mem_append.mp hp with hp | hp
    · rcases List.mem_cons.mp hq with rfl | hq
      · exact hnew p hp (b, o) (.head _)
      · exact hnew p hp q (.tail _ hq)
    · rcases List.mem_cons.mp hq with rfl | hq
      · exact hnew7 p hp (b, o) (.head _)
      · exact hnew7 p hp q (.tail _ (.tail _ (.tail _ (.tail _ (List.mem_append.mpr (.inr (hCR q hq)))))))
  · refine All2.push ⟨hall.1, fun i v x hv hx => (hall.2 i v x hv hx).mono fun p hp => List.mem_append.mpr (.inl hp)⟩ (hres.mono fun p hp => List.mem_append.mpr (.inr hp))
theorem news_rot4 {h₀ h : Heap} {L : Addr} {x y z d u : Addr × Obj} {r : Led} (N : News h₀ L h (x :: y :: z :: d :: u :: r)) : News h₀ L h (x :: u :: y :: z :: d :: r) := fun p hp => N p (by
  simp only [List.mem_cons] at hp ⊢
  rcases hp with h | h | h | h | h | h <;> simp [h])
theorem signOf_seq' : Str.ofString "," = signOf (Str.ofString "seq") := by decide +kernel
theorem signOf_choice' : Str.ofString "|" = signOf (Str.ofString "choice") := by decide +kernel
theorem kinds_of {h₀ hh : Heap} {L : Addr} {y z : Addr × Obj} {r : Value} {T1 T2 : Addr} {a1 a2 a3 a4 : Tok} {R : Led} (_N : News h₀ L hh (y :: z :: (T2, tupOf [.str (Str.ofString "choice") a3, .str (Str.ofString "|") a4] 0) :: (T1, tupOf [.str (Str.ofString "seq") a1, .str (Str.ofString ",") a2] 0) :: R)) (h : r ∈ [Value.ref T1, Value.ref T2]) :
    ∃ T kd tka tkb, r = .ref T ∧ (T, tupOf [.str kd tka, .str (signOf kd) tkb] 0) ∈ (T2, tupOf [.str (Str.ofString "choice") a3, .str (Str.ofString "|") a4] 0) :: (T1, tupOf [.str (Str.ofString "seq") a1, .str (Str.ofString ",") a2] 0) :: R ∧ kd ∈ kinds := by
  simp only [List.mem_cons, List.not_mem_nil, or_false] at h
  rcases h with rfl | rfl
  · exact ⟨T1, _, a1, a2, rfl, by rw [signOf_seq']; exact .tail _ (.head _), by simp [kinds]⟩
  · exact ⟨T2, _, a3, a4, rfl, by rw [signOf_choice']; exact .head _, by simp [kinds]⟩
theorem All2.nil {α β : Type} {R : α → β → Prop} : All2 R ([] : List α) ([] : List β) := ⟨rfl, fun i a b hx => by simp at hx⟩
theorem All2.cons {α β : Type} {R : α → β → Prop} {a : α} {b : β} {as : List α} {bs : List β} (h : R a b) (t : All2 R as bs) : All2 R (a :: as) (b :: bs) := by
  refine ⟨by simp [t.1], fun i x y hx hy => ?_⟩
  cases i with
  | zero => simp at hx hy; subst hx; subst hy; exact h
  | succ j => exact t.2 j x y (by simpa using hx) (by simpa using hy)
theorem All2.imp {α β : Type} {R S : α → β → Prop} {as : List α} {bs : List β} (h : All2 R as bs) (f : ∀ a b, R a b → S a b) : All2 S as bs := ⟨h.1, fun i a b x y => f a b (h.2 i a b x y)⟩
/-- what a triple of _law_particle's holds -/
def TripOf (news : Led) (x : Value × Value × Value) (it : Value × Str × List Value) : Prop := x.1 = it.1 ∧ (∃ tk, x.2.1 = .str it.2.1 tk) ∧ ∃ gl ng, x.2.2 = .ref gl ∧ (gl, listOf it.2.2.toArray ng) ∈ news
theorem tups_of {tl : Led} {d : Nat} : ∀ {items : List (Value × Str × List Value)} {acc : List Value}, All2 (fun v (x : Value × Str × List Value) => ResIn tl d v x.1 x.2.1 x.2.2) acc items → ∃ xs, Tups tl acc xs ∧ All2 (TripOf tl) xs items
  | [], acc, h => by
    obtain rfl := h.nil_inv
    exact ⟨[], All2.nil, All2.nil⟩
  | it :: items, acc, h => by
    obtain ⟨v, acc', rfl, ⟨a, tk, gl, n3, ng, sz, e, h1, h2, h3, h4, h5⟩, ht⟩ := h.cons_inv
    obtain ⟨xs, t1, t2⟩ := tups_of ht
    exact ⟨(it.1, .str it.2.1 tk, .ref gl) :: xs, All2.cons ⟨a, n3, e, h1⟩ t1, All2.cons ⟨rfl, ⟨tk, rfl⟩, gl, ng, rfl, h3⟩ t2⟩
theorem name_grp {h₀ h : Heap} {L l g : Addr} {o : Obj} {rest : Led} (N : News h₀ L h ((l, listOf #[.ref g] 0) :: (g, o) :: rest)) : ∃ l' g' BASE, l' = l ∧ g' = g ∧ BASE = (g, o) :: rest := ⟨l, g, _, rfl, rfl, rfl⟩
/-- the groups behind i of the inner ones -/
def grpsOf (g : Value) (items : List (Value × Str × List Value)) (i : Nat) : List Value := g :: (items.take i).flatMap (·.2.2)
theorem grpsOf_succ {g : Value} {items : List (Value × Str × List Value)} {i : Nat} {it : Value × Str × List Value} (h : items[i]? = some it) : grpsOf g items (i + 1) = grpsOf g items i ++ it.2.2 := by
  unfold grpsOf
  rw [List.take_add_one, h]; simp
theorem news_base {h₀ h : Heap} {L l g : Addr} {BASE r : Led} {items : List (Value × Str × List Value)} (N : News h₀ L h ((l, listOf #[.ref g] 0) :: r)) (e : BASE = r) : News h₀ L h ((l, listOf (grpsOf (.ref g) items 0).toArray 0) :: BASE) := by
  subst e; exact N
theorem news_turn {h₀ h : Heap} {L D9 I st : Addr} {oI : Obj} {xs ys zs : List Value} {BASE : Led} (e : zs = xs ++ ys) (N : News h₀ L h ((D9, listOf (xs.toArray.toList ++ ys.toArray.toList).toArray 0) :: (I, oI) :: (st, listOf xs.toArray 0) :: BASE)) :
    News h₀ L h ((I, oI) :: (D9, listOf zs.toArray 0) :: BASE) := by
  subst e
  intro p hp
  rcases List.mem_cons.mp hp with rfl | hp
  · exact N _ (.tail _ (.head _))
  · rcases List.mem_cons.mp hp with rfl | hp
    · exact N _ (.head _)
    · exact N _ (.tail _ (.tail _ (.tail _ hp)))
theorem items_len {tl : Led} {d : Nat} {items : List (Value × Str × List Value)} {acc : List Value} (h : All2 (fun v (x : Value × Str × List Value) => ResIn tl d v x.1 x.2.1 x.2.2) acc items) (k : Nat) (it : Value × Str × List Value) (hk : items[k]? = some it) : it.2.2.length ≤ Gb d := by
  have hl : k < acc.length := by
    rw [h.1]
    rcases Nat.lt_or_ge k items.length with h | h
    · exact h
    · simp [h] at hk
  obtain ⟨a, tk, gl, n3, ng, sz, e, h1, h2, h3, h4, h5⟩ := h.2 k _ it (List.getElem?_eq_getElem hl) hk
  exact h4
theorem grps_len {g : Value} {items : List (Value × Str × List Value)} {n : Nat} (h : ∀ (k : Nat) (it : Value × Str × List Value), items[k]? = some it → it.2.2.length ≤ n) : ∀ i : Nat, (grpsOf g items i).length ≤ 1 + i * n
  | 0 => by simp [grpsOf]
  | i + 1 => by
    have ih := grps_len (g := g) h i
    cases hk : items[i]? with
    | none =>
      have : items.length ≤ i := by simpa using hk
      unfold grpsOf at ih ⊢
      rw [List.take_of_length_le (by omega)]
      rw [List.take_of_length_le this] at ih
      rw [Nat.succ_mul]; omega
    | some it =>
      rw [grpsOf_succ hk, List.length_append, Nat.succ_mul]
      have := h i it hk; omega
theorem texts_of {tl : Led} {xs : List (Value × Value × Value)} {items : List (Value × Str × List Value)} (h : All2 (TripOf tl) xs items) : All2 IsStr (xs.map (·.2.1)) (items.map (·.2.1)) := by
  refine ⟨by simp [h.1], fun i a b ha hb => ?_⟩
  rw [List.getElem?_map] at ha hb
  obtain ⟨x, hx, rfl⟩ := Option.map_eq_some_iff.mp ha
  obtain ⟨it, hi, rfl⟩ := Option.map_eq_some_iff.mp hb
  exact (h.2 i x it hx hi).2.1
theorem texts_len {tl : Led} {d : Nat} {items : List (Value × Str × List Value)} {acc : List Value} (h : All2 (fun v (x : Value × Str × List Value) => ResIn tl d v x.1 x.2.1 x.2.2) acc items) (t : Str) (ht : t ∈ items.map (·.2.1)) : t.length ≤ Lb d := by
  obtain ⟨it, hi, rfl⟩ := List.mem_map.mp ht
  obtain ⟨k, hk, rfl⟩ := List.mem_iff_getElem.mp hi
  have hl : k < acc.length := by rw [h.1]; exact hk
  obtain ⟨a, tk, gl, n3, ng, sz, e, h1, h2, h3, h4, h5⟩ := h.2 k _ _ (List.getElem?_eq_getElem hl) (List.getElem?_eq_getElem hk)
  exact h2.bounds.2.1
theorem parts_of {tl : Led} {d : Nat} : ∀ {items : List (Value × Str × List Value)} {acc : List Value}, All2 (fun v (x : Value × Str × List Value) => ResIn tl d v x.1 x.2.1 x.2.2) acc items → ∃ ns : List Nat, All2 (fun (it : Value × Str × List Value) n => PartIn tl d it.1 it.2.1 n) items ns
  | [], acc, h => ⟨[], All2.nil⟩
  | it :: items, acc, h => by
    obtain ⟨v, acc', rfl, ⟨a, tk, gl, n3, ng, sz, e, h1, h2, h3, h4, h5⟩, ht⟩ := h.cons_inv
    obtain ⟨ns, t⟩ := parts_of ht
    exact ⟨sz :: ns, All2.cons h2 t⟩
/-- the group that is made of the inner ones -/
theorem group_of {tl tl' : Led} {d : Nat} {gA DT : Addr} {kd mk : Str} {tka tkm : Tok} {n1 n2 : Nat} {items : List (Value × Str × List Value)} {acc : List Value} {xs : List (Value × Value × Value)}
    (hall : All2 (fun v (x : Value × Str × List Value) => ResIn tl d v x.1 x.2.1 x.2.2) acc items) (ht2 : All2 (TripOf tl) xs items) (hs : ∀ p ∈ tl, p ∈ tl') (hg : (gA, tupOf [.str kd tka, .ref DT, .str mk tkm] n1) ∈ tl') (hT : (DT, tupOf (xs.map (·.1)) n2) ∈ tl')
    (hk : kd ∈ kinds) (hm : mk ∈ marks) (hl : 1 ≤ acc.length ∧ acc.length ≤ 3) :
    (∃ sz, PartIn tl' (d + 1) (.ref gA) (Str.ofString "(" ++ joined (signOf kd) (items.map (·.2.1)) ++ Str.ofString ")" ++ mk) sz) ∧ GroupIn tl' (d + 1) (.ref gA) := by
  obtain ⟨ns, hn⟩ := parts_of hall
  have e1 : (xs.map (·.1)).length = acc.length := by rw [List.length_map, ht2.1, hall.1]
  have e2 : (items.map (·.2.1)).length = (xs.map (·.1)).length := by simp [ht2.1]
  have e3 : ns.length = (xs.map (·.1)).length := by rw [← hn.1, List.length_map, ht2.1]
  have hp : ∀ (i : Nat) (v : Value) (t : Str) (n : Nat), (xs.map (·.1))[i]? = some v → (items.map (·.2.1))[i]? = some t → ns[i]? = some n → PartIn tl' d v t n := by
    intro i v t n hv ht hni
    rw [List.getElem?_map] at hv ht
    obtain ⟨x, hx, rfl⟩ := Option.map_eq_some_iff.mp hv
    obtain ⟨it, hi, rfl⟩ := Option.map_eq_some_iff.mp ht
    have := (hn.2 i it n hi hni).mono hs
    rw [(ht2.2 i x it hx hi).1]; exact this
  exact ⟨⟨_, .group hg hT hk hm (by rw [e1]; exact hl) e2 e3 hp⟩, gA, DT, kd, mk, tka, tkm, n1, n2, _, _, ns, rfl, hg, hT, hk, hm, (by rw [e1]; exact hl), e2, e3, fun i v t n a b c => (hp i v t n a b c).up⟩
theorem grps_in {tl tl' : Led} {d : Nat} {gA : Value} {items : List (Value × Str × List Value)} {acc : List Value} (hall : All2 (fun v (x : Value × Str × List Value) => ResIn tl d v x.1 x.2.1 x.2.2) acc items) (hs : ∀ p ∈ tl, p ∈ tl') (hg : GroupIn tl' (d + 1) gA) (i : Nat) :
    ∀ g ∈ grpsOf gA items i, GroupIn tl' (d + 1) g := by
  intro g hgm
  rcases List.mem_cons.mp hgm with rfl | hgm
  · exact hg
  · obtain ⟨it, hit, hgi⟩ := List.mem_flatMap.mp hgm
    obtain ⟨k, hk, rfl⟩ := List.mem_iff_getElem.mp (List.mem_of_mem_take hit)
    have hl : k < acc.length := by rw [hall.1]; exact hk
    obtain ⟨a, tk, gl, n3, ng, sz, e, h1, h2, h3, h4, h5⟩ := hall.2 k _ _ (List.getElem?_eq_getElem hl) (List.getElem?_eq_getElem hk)
    exact ((h5 g hgi).mono hs).up
theorem part_end {h₀ h : Heap} {L b D9 D11 st gA DT D10 Da Db Dc : Addr} {o o6 o8 o11 o10 oa ob oc : Obj} {c1 c2 : Addr × Obj} {d : Nat} {kd mk : Str} {t9 tka tkm : Tok} {items : List (Value × Str × List Value)} {acc : List Value} {xs : List (Value × Value × Value)} {tl BASE rest : Led}
    (hall : All2 (fun v (x : Value × Str × List Value) => ResIn tl d v x.1 x.2.1 x.2.2) acc items) (ht2 : All2 (TripOf tl) xs items) (hk : kd ∈ kinds) (hm : mk ∈ marks) (hl : 1 ≤ acc.length ∧ acc.length ≤ 3)
    (eB : BASE = (gA, tupOf [.str kd tka, .ref DT, .str mk tkm] 0) :: (DT, tupOf (xs.map (·.1)) 0) :: (D10, o10) :: (b, o8) :: (Da, oa) :: (Db, ob) :: (Dc, oc) :: (tl ++ c1 :: c2 :: rest))
    (N : News h₀ L h ((D9, tupOf [.ref gA, .str (Str.ofString "(" ++ joined (signOf kd) (items.map (·.2.1)) ++ Str.ofString ")" ++ mk) t9, .ref st] 0) :: (D11, o11) :: (st, listOf (grpsOf (.ref gA) items acc.length).toArray 0) :: BASE))
    (hnew : NewOver tl ((b, o6) :: rest)) (f1 : AllLt D9 BASE) (f2 : ∀ p ∈ BASE, p.1 < st) (f3 : @LT.lt Nat _ b gA) (f4 : AllLt gA (tl ++ c1 :: c2 :: rest))
    (f5 : ∀ p ∈ (D10, o10) :: (b, o8) :: (Da, oa) :: (Db, ob) :: (Dc, oc) :: (tl ++ c1 :: c2 :: rest), p.1 < DT) :
    ∃ tl', News h₀ L h ((b, o8) :: (tl' ++ rest)) ∧ NewOver tl' ((b, o) :: rest) ∧ ResIn tl' (d + 1) (.ref D9) (.ref gA) (Str.ofString "(" ++ joined (signOf kd) (items.map (·.2.1)) ++ Str.ofString ")" ++ mk) (grpsOf (.ref gA) items acc.length) := by
  obtain ⟨tl', etl⟩ : ∃ tl' : Led, tl' = (D9, tupOf [.ref gA, .str (Str.ofString "(" ++ joined (signOf kd) (items.map (·.2.1)) ++ Str.ofString ")" ++ mk) t9, .ref st] 0) :: (st, listOf (grpsOf (.ref gA) items acc.length).toArray 0) :: (gA, tupOf [.str kd tka, .ref DT, .str mk tkm] 0) :: (DT, tupOf (xs.map (·.1)) 0) :: tl := ⟨_, rfl⟩
  have hsub : ∀ p ∈ tl, p ∈ tl' := fun p hp => by rw [etl]; exact .tail _ (.tail _ (.tail _ (.tail _ hp)))
  have hbB : (b, o8) ∈ BASE := by rw [eB]; exact .tail _ (.tail _ (.tail _ (.head _)))
  have hrB : ∀ p ∈ rest, p ∈ BASE := fun p hp => by rw [eB]; simp [hp]
  obtain ⟨⟨sz, g1⟩, g2⟩ := group_of (tl' := tl') hall ht2 hsub (gA := gA) (DT := DT) (n1 := 0) (n2 := 0) (by rw [etl]; exact .tail _ (.tail _ (.head _))) (by rw [etl]; exact .tail _ (.tail _ (.tail _ (.head _)))) hk hm hl
  refine ⟨tl', fun p hp => N p ?_, ?_, D9, t9, st, 0, 0, sz, rfl, by rw [etl]; exact .head _, g1, by rw [etl]; exact .tail _ (.head _), ?_, grps_in hall hsub g2 _⟩
  · rw [etl] at hp
    rw [eB]
    simp only [List.mem_cons, List.mem_append] at hp ⊢
    rcases hp with h | (h | h | h | h | h) | h <;> simp [h]
  · intro p hp q hq
    rw [etl] at hp
    have hq' : ∃ q' : Addr × Obj, q'.1 = q.1 ∧ q' ∈ BASE ∧ (q' = (b, o8) ∨ q' ∈ rest) := by
      rcases List.mem_cons.mp hq with rfl | hq
      · exact ⟨(b, o8), rfl, hbB, .inl rfl⟩
      · exact ⟨q, rfl, hrB q hq, .inr hq⟩
    obtain ⟨q', e, hB, hc⟩ := hq'
    rw [← e]
    rcases List.mem_cons.mp hp with rfl | hp
    · exact allLt_mem f1 hB
    rcases List.mem_cons.mp hp with rfl | hp
    · exact f2 q' hB
    rcases List.mem_cons.mp hp with rfl | hp
    · rcases hc with rfl | hc
      · exact f3
      · exact allLt_mem f4 (List.mem_append.mpr (.inr (.tail _ (.tail _ hc))))
    rcases List.mem_cons.mp hp with rfl | hp
    · rcases hc with rfl | hc
      · exact f5 _ (.tail _ (.head _))
      · exact f5 _ (by simp [hc])
    · rcases hc with rfl | hc
      · exact hnew p hp (b, o6) (.head _)
      · exact hnew p hp q' (.tail _ hc)
  · have := grps_len (g := .ref gA) (fun k it hk => items_len hall k it hk) acc.length
    have h3 : acc.length * Gb d ≤ 3 * Gb d := Nat.mul_le_mul_right _ hl.2
    show _ ≤ 3 * Gb d + 1
    omega
set_option maxHeartbeats 16000000 in
theorem partS (w : World) (mean : ExcName → Option Value) (mg mb : Str → Option Value) (d : Nat) (hd2 : d ≤ 1) (IH : PartTells w mean mg mb d) : PartTells w mean mg mb (d + 1) := by
  intro b o rest dt ho hb
  obtain ⟨dv, hdv⟩ : ∃ dv : Int, dv = ((d + 1 : Nat) : Int) := ⟨_, rfl⟩
  rw [← hdv]
  have hdv0 : 1 ≤ dv := by omega
  have hdv1 : dv ≤ 2 := by omega
  (w_top off; unfold Tell; k_fill; intro dp un gd env outer A₀ base h₀ L m s Q E B F X N T hf hk hdp hun hret; refine wpAny_call ?_; k_dflt (refine' code_defC ?k1 ?k2 ?k3 ?k4 ?k5 ?kA ?kF ?kK ?k6 ?k7 ?k8 ?k9 ?kB ?kD ?_ ?c2 ?c3 ?c4; (case kA => exact rfl); (case kF => assumption); (case kK => assumption); (case k1 => k_asm); (case k2 => k_asm); (case k3 => k_asm); (case k4 => k_asm); (case k5 => k_asm); (case k6 => k_is); (case k7 => k_is); (case k8 => (simp only [recursionLimit] at *; omega)); (case k9 => exact BindsTo.of_eq rfl); (case kB => exact rfl); (case kD => decide +kernel); (case c2 => exact rfl); (case c3 => exact rfl); (case c4 => exact rfl); k_whole; intro g1 L1 h1 tk1 cells1 FG1 F1 N1 CA1 B1 X1 T1 lt1; k_cells CA1; (try simp only [List.cons_append, List.nil_append] at N1); (try dsimp only); (try k_fold)))
  rename_i oc1 oc2 dc1 dc2
  have hb1 : b < L1 := lt1 _ (.head _)
  (repeat' ((fail_if_success (with_reducible show wpAny _ _ (exec (Stmt.For _ _ _ _ _) _) _ _ _)); (fail_if_success (with_reducible show wpAny _ _ (exec (Stmt.While _ _ _ _) _) _ _ _)); (fail_if_success (with_reducible show wpAny _ _ (eval (Expr.ListComp _ _ _ _) _) _ _ _)); (fail_if_success (with_reducible show wpAny _ _ (exec (Stmt.Assign _ (Expr.ListComp _ _ _ _) _) _) _ _ _)); (fail_if_success (with_reducible show wpAny _ _ (call (Value.type "range") _ _) _ _ _)); (fail_if_success (with_reducible show wpAny _ _ (pyIter _) _ _ _)); first | (k_unfold; (try dsimp only)) | (k_end; kc_close) | walk1 | (dsimp only; walk1) | (leave1; walk_say "STEP leave1"; (try dsimp only)) | fail "no step"))
  (rename News _ _ _ _ => lN); (rename Fr _ _ _ _ => lF)
  have lN2 := news_rot lN
  refine one_use (by assumption) lF (by assumption) lN2 (by assumption) rfl rfl (by ((simp only [depth_under_make, depth_under_kw, depth_in1, depth_deeper, depth_caller, recursionLimit] at *); omega)) (by ((have hcL9 := cLine_is); (simp only [units_in1, units_deeper, Around.mark_units, units_caller] at *); omega)) ho (by simp) ?_ ?_ ?_
  · exact off_cells hb1 hb
  · exact ne_bag_list lN2 (.tail _ (.head _)) ho (.head _) (by simp)
  intro r o' h' tk' hr ho' F' N'
  obtain ⟨mk, tkm, rfl, hmk⟩ := marks_of hr
  clear lN lN2 lF
  have b2 := (marks_ok _ hmk).1
  (repeat' ((fail_if_success (with_reducible show wpAny _ _ (exec (Stmt.For _ _ _ _ _) _) _ _ _)); (fail_if_success (with_reducible show wpAny _ _ (exec (Stmt.While _ _ _ _) _) _ _ _)); (fail_if_success (with_reducible show wpAny _ _ (eval (Expr.ListComp _ _ _ _) _) _ _ _)); (fail_if_success (with_reducible show wpAny _ _ (exec (Stmt.Assign _ (Expr.ListComp _ _ _ _) _) _) _ _ _)); (fail_if_success (with_reducible show wpAny _ _ (call (Value.type "range") _ _) _ _ _)); (fail_if_success (with_reducible show wpAny _ _ (pyIter _) _ _ _)); first | (k_unfold; (try dsimp only)) | (k_end; kc_close) | walk1 | (dsimp only; walk1) | (leave1; walk_say "STEP leave1"; (try dsimp only)) | fail "no step"))
  · exfalso; omega
  (rename News _ _ _ _ => lN); (rename Fr _ _ _ _ => lF)
  refine pick_use (by assumption) lF (by assumption) lN (by assumption) rfl rfl (by ((simp only [depth_under_make, depth_under_kw, depth_in1, depth_deeper, depth_caller, recursionLimit] at *); omega)) (by ((have hcL9 := cLine_is); (simp only [units_in1, units_deeper, Around.mark_units, units_caller] at *); omega)) ho' (by omega) ?_ ?_
  · exact off_cells hb1 hb
  intro k3 tk3 o3 h3 tk3' hk30 hk31 ho3 F3 N3
  clear lN lF
  (repeat' ((fail_if_success (with_reducible show wpAny _ _ (exec (Stmt.For _ _ _ _ _) _) _ _ _)); (fail_if_success (with_reducible show wpAny _ _ (exec (Stmt.While _ _ _ _) _) _ _ _)); (fail_if_success (with_reducible show wpAny _ _ (eval (Expr.ListComp _ _ _ _) _) _ _ _)); (fail_if_success (with_reducible show wpAny _ _ (exec (Stmt.Assign _ (Expr.ListComp _ _ _ _) _) _) _ _ _)); (fail_if_success (with_reducible show wpAny _ _ (call (Value.type "range") _ _) _ _ _)); (fail_if_success (with_reducible show wpAny _ _ (pyIter _) _ _ _)); first | (k_unfold; (try dsimp only)) | (k_end; kc_close) | walk1 | (dsimp only; walk1) | (leave1; walk_say "STEP leave1"; (try dsimp only)) | fail "no step"))
  · (rename News _ _ _ _ => lN); (rename Fr _ _ _ _ => lF)
    refine one_use (by assumption) lF (by assumption) lN (by assumption) rfl rfl (by ((simp only [depth_under_make, depth_under_kw, depth_in1, depth_deeper, depth_caller, recursionLimit] at *); omega)) (by ((have hcL9 := cLine_is); (simp only [units_in1, units_deeper, Around.mark_units, units_caller] at *); omega)) ho3 (by simp) ?_ ?_ ?_
    · exact off_cells hb1 hb
    · exact ne_bag_list lN (.tail _ (.head _)) ho3 (.head _) (by simp)
    intro r2 o2 h2 tk2 hr2 ho2 F2 N2
    obtain ⟨nm, tkn, rfl, hnm⟩ := names_of hr2
    have b1 := (names_ok _ hnm).2.1
    clear lN lF
    (repeat' ((fail_if_success (with_reducible show wpAny _ _ (exec (Stmt.For _ _ _ _ _) _) _ _ _)); (fail_if_success (with_reducible show wpAny _ _ (exec (Stmt.While _ _ _ _) _) _ _ _)); (fail_if_success (with_reducible show wpAny _ _ (eval (Expr.ListComp _ _ _ _) _) _ _ _)); (fail_if_success (with_reducible show wpAny _ _ (exec (Stmt.Assign _ (Expr.ListComp _ _ _ _) _) _) _ _ _)); (fail_if_success (with_reducible show wpAny _ _ (call (Value.type "range") _ _) _ _ _)); (fail_if_success (with_reducible show wpAny _ _ (pyIter _) _ _ _)); first | (k_unfold; (try dsimp only)) | (k_end; kc_close) | walk1 | (dsimp only; walk1) | (leave1; walk_say "STEP leave1"; (try dsimp only)) | fail "no step"))
    (rename News _ _ _ _ => lN)
    (rename _ < _ ∧ _ < _ ∧ _ < _ ∧ AllLt _ rest => f1); (rename _ < _ ∧ _ < _ ∧ _ < _ ∧ _ < _ ∧ AllLt _ rest => f2); (rename _ < _ ∧ _ < _ ∧ _ < _ ∧ _ < _ ∧ _ < _ ∧ AllLt _ rest => f3)
    obtain ⟨tl, N9, q1, q2⟩ := name_res (o := o) (d + 1) lN hnm hmk f1 f2 f3
    exact hret _ _ _ _ (by assumption) N9 ⟨o2, tl, _, _, _, ho2, rfl, q1, q2⟩
  · (refine' AssignCompM (h₀ := g1) (L := L1) ?hsw ?hclos ?hcell ?hkind ?hnames ?hx ?hy ?hp ?hL ?h ?hs; (case hsw => with_unfolding_all rfl); (case hclos => with_unfolding_all rfl); (case hcell => decide); (case hkind => with_unfolding_all rfl); (case hnames => decide); (case hx => with_unfolding_all rfl); (case hy => with_unfolding_all rfl); (case hp => with_unfolding_all rfl); (case hL => exact rfl); (case hs => intro _; with_unfolding_all rfl))
    (repeat' ((fail_if_success (with_reducible show wpAny _ _ (exec (Stmt.For _ _ _ _ _) _) _ _ _)); (fail_if_success (with_reducible show wpAny _ _ (exec (Stmt.While _ _ _ _) _) _ _ _)); (fail_if_success (with_reducible show wpAny _ _ (eval (Expr.ListComp _ _ _ _) _) _ _ _)); (fail_if_success (with_reducible show wpAny _ _ (exec (Stmt.Assign _ (Expr.ListComp _ _ _ _) _) _) _ _ _)); (fail_if_success (with_reducible show wpAny _ _ (call (Value.type "range") _ _) _ _ _)); (fail_if_success (with_reducible show wpAny _ _ (pyIter _) _ _ _)); first | (k_unfold; (try dsimp only)) | (k_end; kc_close) | walk1 | (dsimp only; walk1) | (leave1; walk_say "STEP leave1"; (try dsimp only)) | fail "no step"))
    (rename News _ _ _ _ => lN); (rename Fr _ _ _ _ => lF)
    refine pick_use (by assumption) lF (by assumption) lN (by assumption) rfl rfl (by ((simp only [depth_under_make, depth_under_kw, depth_in1, depth_deeper, depth_caller, recursionLimit] at *); omega)) (by ((have hcL9 := cLine_is); (simp only [units_in1, units_deeper, Around.mark_units, units_caller] at *); omega)) ho3 (by omega) ?_ ?_
    · exact off_cells hb1 hb
    intro k4 tk4 o4 h4 tk4' hk40 hk41 ho4 F4 N4
    clear lN lF
    (repeat' ((fail_if_success (with_reducible show wpAny _ _ (exec (Stmt.For _ _ _ _ _) _) _ _ _)); (fail_if_success (with_reducible show wpAny _ _ (exec (Stmt.While _ _ _ _) _) _ _ _)); (fail_if_success (with_reducible show wpAny _ _ (eval (Expr.ListComp _ _ _ _) _) _ _ _)); (fail_if_success (with_reducible show wpAny _ _ (exec (Stmt.Assign _ (Expr.ListComp _ _ _ _) _) _) _ _ _)); (fail_if_success (with_reducible show wpAny _ _ (call (Value.type "range") _ _) _ _ _)); (fail_if_success (with_reducible show wpAny _ _ (pyIter _) _ _ _)); first | (k_unfold; (try dsimp only)) | (k_end; kc_close) | walk1 | (dsimp only; walk1) | (leave1; walk_say "STEP leave1"; (try dsimp only)) | fail "no step"))
    (rename News _ _ _ _ => lN); (rename Fr _ _ _ _ => lF)
    refine range1_rows lF lN (fun h5 tk5 t5 u5 v5 hR F5 N5 _ => ?_)
    clear lN lF
    (repeat' ((fail_if_success (with_reducible show wpAny _ _ (exec (Stmt.For _ _ _ _ _) _) _ _ _)); (fail_if_success (with_reducible show wpAny _ _ (exec (Stmt.While _ _ _ _) _) _ _ _)); (fail_if_success (with_reducible show wpAny _ _ (eval (Expr.ListComp _ _ _ _) _) _ _ _)); (fail_if_success (with_reducible show wpAny _ _ (exec (Stmt.Assign _ (Expr.ListComp _ _ _ _) _) _) _ _ _)); (fail_if_success (with_reducible show wpAny _ _ (call (Value.type "range") _ _) _ _ _)); (fail_if_success (with_reducible show wpAny _ _ (pyIter _) _ _ _)); first | (k_unfold; (try dsimp only)) | (k_end; kc_close) | walk1 | (dsimp only; walk1) | (leave1; walk_say "STEP leave1"; (try dsimp only)) | fail "no step"))
    refine' compAt_range (InJ b rest d ((L1 + 1 + 1, oc1) :: (L1 + 1, oc2) :: rest)) ?hh hR ?hs ?hn ?hz F5 N5 ?hj ?turn ?done (n := (1 + k4).toNat)
    case hh => exact rfl
    case hs => exact small_one (by decide) (by decide) (by omega) (by omega)
    case hn => rw [rangeSize_nat]; simp
    case hz => omega
    case hj => exact ⟨o4, [], [], ho4, rfl, fun _ hp => (nomatch hp), rfl, fun i a b hx => by simp at hx⟩
    case turn =>
      rintro i acc nx h tk I D C oI oC nD hi ⟨o6, tl, items, ho6, rfl, hnew, hall⟩ hacc p1 p2 p3 F' N' E'
      (repeat' ((fail_if_success (with_reducible show wpAny _ _ (eval (Expr.Name _ _) _) _ _ _)); (fail_if_success (with_reducible show wpAny _ _ (exec (Stmt.For _ _ _ _ _) _) _ _ _)); (fail_if_success (with_reducible show wpAny _ _ (exec (Stmt.While _ _ _ _) _) _ _ _)); (fail_if_success (with_reducible show wpAny _ _ (eval (Expr.ListComp _ _ _ _) _) _ _ _)); (fail_if_success (with_reducible show wpAny _ _ (exec (Stmt.Assign _ (Expr.ListComp _ _ _ _) _) _) _ _ _)); (fail_if_success (with_reducible show wpAny _ _ (call (Value.type "range") _ _) _ _ _)); (fail_if_success (with_reducible show wpAny _ _ (pyIter _) _ _ _)); first | (k_unfold; (try dsimp only)) | (k_end; kc_close) | walk1 | (dsimp only; walk1) | (leave1; walk_say "STEP leave1"; (try dsimp only)) | fail "no step"))
      (refine' nameG_K F' ?k1 ?k2 ?k3 ?_ ?k4 ?k5 ?k6 ?k7; (case k4 => rfl); (case k5 => rfl); (case k6 => rfl); (case k7 => decide); (case k1 => k_asm); (case k2 => k_asm); (case k3 => k_is))
      (repeat' ((fail_if_success (with_reducible show wpAny _ _ (eval (Expr.Name _ _) _) _ _ _)); (fail_if_success (with_reducible show wpAny _ _ (exec (Stmt.For _ _ _ _ _) _) _ _ _)); (fail_if_success (with_reducible show wpAny _ _ (exec (Stmt.While _ _ _ _) _) _ _ _)); (fail_if_success (with_reducible show wpAny _ _ (eval (Expr.ListComp _ _ _ _) _) _ _ _)); (fail_if_success (with_reducible show wpAny _ _ (exec (Stmt.Assign _ (Expr.ListComp _ _ _ _) _) _) _ _ _)); (fail_if_success (with_reducible show wpAny _ _ (call (Value.type "range") _ _) _ _ _)); (fail_if_success (with_reducible show wpAny _ _ (pyIter _) _ _ _)); first | (k_unfold; (try dsimp only)) | (k_end; kc_close) | walk1 | (dsimp only; walk1) | (leave1; walk_say "STEP leave1"; (try dsimp only)) | fail "no step"))
      have cb : h.IsCell (L1 + 1) (some (.ref b)) := ⟨oc2, (N' (L1 + 1, oc2) (.tail _ (.tail _ (.tail _ (.tail _ (List.mem_append.mpr (.inr (.tail _ (.head _))))))))).1, dc2⟩
      have cd : h.IsCell (L1 + 1 + 1) (some (.int dv dt)) := ⟨oc1, (N' (L1 + 1 + 1, oc1) (.tail _ (.tail _ (.tail _ (.tail _ (List.mem_append.mpr (.inr (.head _)))))))).1, dc1⟩
      refine' ldCellK (v := .ref b) ?hc ?hv ?_ ?hk ?hl ?hd
      case hc => exact rfl
      case hv => exact cb
      case hk => rfl
      case hl => rfl
      case hd => decide
      (repeat' ((fail_if_success (with_reducible show wpAny _ _ (eval (Expr.Name _ _) _) _ _ _)); (fail_if_success (with_reducible show wpAny _ _ (exec (Stmt.For _ _ _ _ _) _) _ _ _)); (fail_if_success (with_reducible show wpAny _ _ (exec (Stmt.While _ _ _ _) _) _ _ _)); (fail_if_success (with_reducible show wpAny _ _ (eval (Expr.ListComp _ _ _ _) _) _ _ _)); (fail_if_success (with_reducible show wpAny _ _ (exec (Stmt.Assign _ (Expr.ListComp _ _ _ _) _) _) _ _ _)); (fail_if_success (with_reducible show wpAny _ _ (call (Value.type "range") _ _) _ _ _)); (fail_if_success (with_reducible show wpAny _ _ (pyIter _) _ _ _)); first | (k_unfold; (try dsimp only)) | (k_end; kc_close) | walk1 | (dsimp only; walk1) | (leave1; walk_say "STEP leave1"; (try dsimp only)) | fail "no step"))
      refine' ldCellK (v := .int dv dt) ?hc ?hv ?_ ?hk ?hl ?hd
      case hc => exact rfl
      case hv => exact cd
      case hk => rfl
      case hl => rfl
      case hd => decide
      (repeat' ((fail_if_success (with_reducible show wpAny _ _ (eval (Expr.Name _ _) _) _ _ _)); (fail_if_success (with_reducible show wpAny _ _ (exec (Stmt.For _ _ _ _ _) _) _ _ _)); (fail_if_success (with_reducible show wpAny _ _ (exec (Stmt.While _ _ _ _) _) _ _ _)); (fail_if_success (with_reducible show wpAny _ _ (eval (Expr.ListComp _ _ _ _) _) _ _ _)); (fail_if_success (with_reducible show wpAny _ _ (exec (Stmt.Assign _ (Expr.ListComp _ _ _ _) _) _) _ _ _)); (fail_if_success (with_reducible show wpAny _ _ (call (Value.type "range") _ _) _ _ _)); (fail_if_success (with_reducible show wpAny _ _ (pyIter _) _ _ _)); first | (k_unfold; (try dsimp only)) | (k_end; kc_close) | walk1 | (dsimp only; walk1) | (leave1; walk_say "STEP leave1"; (try dsimp only)) | fail "no step"))
      have e1 : dv - 1 = (d : Int) := by omega
      rw [e1]
      refine tell_use B1 F' X1 N' T1 rfl rfl (by ((simp only [depth_under_make, depth_under_kw, depth_in1, depth_deeper, depth_caller, recursionLimit] at *); omega)) (by ((have hcL9 := cLine_is); (simp only [units_in1, units_deeper, Around.mark_units, units_caller] at *); omega)) (IH b o6 ((I, oI) :: (D, listOf acc.toArray nD) :: (C, oC) :: (tl ++ (L1 + 1 + 1, oc1) :: (L1 + 1, oc2) :: rest)) _ ho6 (off_in hnew p1 p2 p3 (off_cells hb1 hb))) (fun p hp => ?_) ?_
      · simp only [List.mem_cons, List.mem_append] at hp ⊢
        rcases hp with h | h | h | h | h | h <;> simp [h]
      rintro r7 news7 h7 tk7 F7 N7 ⟨o7, tl7, tv, text, gs, ho7, rfl, hnew7, hres⟩
      k_unfold
      exact elt_in F7 N7 p1 p2 p3 hnew hnew7 hall ho7 hres (fun p hp => .tail _ (.tail _ hp))
    case done =>
      rintro acc nx h tk D nD ⟨o6, tl, items, ho6, rfl, hnew, hall⟩ hacc F' N' oD
      replace F' : Fr _ L1 _ _ := F'; replace N' : News _ L1 _ _ := N'
      have cb : h.IsCell (L1 + 1) (some (.ref b)) := ⟨oc2, (N' (L1 + 1, oc2) (.tail _ (.tail _ (List.mem_append.mpr (.inr (.tail _ (.head _))))))).1, dc2⟩
      (repeat' ((fail_if_success (with_reducible show wpAny _ _ (eval (Expr.Name _ _) _) _ _ _)); (fail_if_success (with_reducible show wpAny _ _ (exec (Stmt.For _ _ _ _ _) _) _ _ _)); (fail_if_success (with_reducible show wpAny _ _ (exec (Stmt.While _ _ _ _) _) _ _ _)); (fail_if_success (with_reducible show wpAny _ _ (eval (Expr.ListComp _ _ _ _) _) _ _ _)); (fail_if_success (with_reducible show wpAny _ _ (exec (Stmt.Assign _ (Expr.ListComp _ _ _ _) _) _) _ _ _)); (fail_if_success (with_reducible show wpAny _ _ (call (Value.type "range") _ _) _ _ _)); (fail_if_success (with_reducible show wpAny _ _ (pyIter _) _ _ _)); first | (k_unfold; (try dsimp only)) | (k_end; kc_close) | walk1 | (dsimp only; walk1) | (leave1; walk_say "STEP leave1"; (try dsimp only)) | fail "no step"))
      walk1
      (repeat' ((fail_if_success (with_reducible show wpAny _ _ (eval (Expr.Name _ _) _) _ _ _)); (fail_if_success (with_reducible show wpAny _ _ (exec (Stmt.For _ _ _ _ _) _) _ _ _)); (fail_if_success (with_reducible show wpAny _ _ (exec (Stmt.While _ _ _ _) _) _ _ _)); (fail_if_success (with_reducible show wpAny _ _ (eval (Expr.ListComp _ _ _ _) _) _ _ _)); (fail_if_success (with_reducible show wpAny _ _ (exec (Stmt.Assign _ (Expr.ListComp _ _ _ _) _) _) _ _ _)); (fail_if_success (with_reducible show wpAny _ _ (call (Value.type "range") _ _) _ _ _)); (fail_if_success (with_reducible show wpAny _ _ (pyIter _) _ _ _)); first | (k_unfold; (try dsimp only)) | (k_end; kc_close) | walk1 | (dsimp only; walk1) | (leave1; walk_say "STEP leave1"; (try dsimp only)) | fail "no step"))
      refine' wpAny_Name (wpAny_loadName_cell (c := L1 + 1) (v := .ref b) ?hk ?hl ?hc ?hv ?_) ?hd
      case hk => rfl
      case hl => rfl
      case hc => rfl
      case hv => exact cb
      case hd => decide
      (repeat' ((fail_if_success (with_reducible show wpAny _ _ (exec (Stmt.For _ _ _ _ _) _) _ _ _)); (fail_if_success (with_reducible show wpAny _ _ (exec (Stmt.While _ _ _ _) _) _ _ _)); (fail_if_success (with_reducible show wpAny _ _ (eval (Expr.ListComp _ _ _ _) _) _ _ _)); (fail_if_success (with_reducible show wpAny _ _ (exec (Stmt.Assign _ (Expr.ListComp _ _ _ _) _) _) _ _ _)); (fail_if_success (with_reducible show wpAny _ _ (call (Value.type "range") _ _) _ _ _)); (fail_if_success (with_reducible show wpAny _ _ (pyIter _) _ _ _)); first | (k_unfold; (try dsimp only)) | (k_end; kc_close) | walk1 | (dsimp only; walk1) | (leave1; walk_say "STEP leave1"; (try dsimp only)) | fail "no step"))
      (rename News _ _ _ _ => lN); (rename Fr _ _ _ _ => lF)
      (rename _ < _ ∧ _ < _ ∧ _ < _ ∧ _ < _ ∧ AllLt _ (tl ++ _) => g5)
      have lN2 := news_rot4 lN
      have offD : D ≠ b := (oD (b, o6) (.head _)).symm
      refine one_use (by assumption) lF (by assumption) lN2 (by assumption) rfl rfl (by ((simp only [depth_under_make, depth_under_kw, depth_in1, depth_deeper, depth_caller, recursionLimit] at *); omega)) (by ((have hcL9 := cLine_is); (simp only [units_in1, units_deeper, Around.mark_units, units_caller] at *); omega)) ho6 (by simp) ?_ (Nat.ne_of_gt g5.2.2.2.1) ?_
      · intro p hp
        simp only [List.mem_cons, List.mem_append] at hp
        rcases hp with rfl | rfl | rfl | hp | rfl | rfl | hp
        · exact ne_bag_tup lN2 (.tail _ (.head _)) ho6 (.tail _ (.tail _ (.head _)))
        · exact ne_bag_tup lN2 (.tail _ (.head _)) ho6 (.tail _ (.tail _ (.tail _ (.head _))))
        · exact offD
        · exact Nat.ne_of_gt (hnew p hp (b, o6) (.head _))
        · exact off_cells (o1 := oc1) (o2 := oc2) hb1 hb (L1 + 1 + 1, oc1) (.head _)
        · exact off_cells (o1 := oc1) (o2 := oc2) hb1 hb (L1 + 1, oc2) (.tail _ (.head _))
        · exact hb p hp
      intro r8 o8 h8 tk8 hr8 ho8 F8 N8
      obtain ⟨T, kd, tka, tkb, rfl, hT, hkd⟩ := kinds_of lN2 hr8
      clear lN lN2 lF
      (repeat' ((fail_if_success (with_reducible show wpAny _ _ (exec (Stmt.For _ _ _ _ _) _) _ _ _)); (fail_if_success (with_reducible show wpAny _ _ (exec (Stmt.While _ _ _ _) _) _ _ _)); (fail_if_success (with_reducible show wpAny _ _ (eval (Expr.ListComp _ _ _ _) _) _ _ _)); (fail_if_success (with_reducible show wpAny _ _ (exec (Stmt.Assign _ (Expr.ListComp _ _ _ _) _) _) _ _ _)); (fail_if_success (with_reducible show wpAny _ _ (call (Value.type "range") _ _) _ _ _)); (fail_if_success (with_reducible show wpAny _ _ (pyIter _) _ _ _)); first | (k_unfold; (try dsimp only)) | (k_end; kc_close) | walk1 | (dsimp only; walk1) | (leave1; walk_say "STEP leave1"; (try dsimp only)) | fail "no step"))
      (refine' ListComp3 (h₀ := g1) (L := L1) (fun x => x.1) ?hsel ?hh ?hclos ?hcell ?hkind ?hnames ?l1 ?l2 ?l3 ?lk ?hdb ?h ?hs; (case hsel => intro _ _; rfl); (case hh => exact rfl); (case hclos => with_unfolding_all rfl); (case hcell => decide); (case hkind => with_unfolding_all rfl); (case hnames => decide); (case l1 => with_unfolding_all rfl); (case l2 => with_unfolding_all rfl); (case l3 => with_unfolding_all rfl); (case lk => with_unfolding_all rfl); (case hdb => decide); (case hs => intro _; with_unfolding_all rfl))
      (repeat' ((fail_if_success (with_reducible show wpAny _ _ (exec (Stmt.For _ _ _ _ _) _) _ _ _)); (fail_if_success (with_reducible show wpAny _ _ (exec (Stmt.While _ _ _ _) _) _ _ _)); (fail_if_success (with_reducible show wpAny _ _ (eval (Expr.ListComp _ _ _ _) _) _ _ _)); (fail_if_success (with_reducible show wpAny _ _ (exec (Stmt.Assign _ (Expr.ListComp _ _ _ _) _) _) _ _ _)); (fail_if_success (with_reducible show wpAny _ _ (call (Value.type "range") _ _) _ _ _)); (fail_if_success (with_reducible show wpAny _ _ (pyIter _) _ _ _)); first | (k_unfold; (try dsimp only)) | (k_end; kc_close) | walk1 | (dsimp only; walk1) | (leave1; walk_say "STEP leave1"; (try dsimp only)) | fail "no step"))
      (rename News _ _ _ _ => lN); (rename Fr _ _ _ _ => lF)
      obtain ⟨xs, ht1, ht2⟩ := tups_of hall
      have hacc3 : 1 ≤ acc.length ∧ acc.length ≤ 3 := by omega
      refine comp3_list (.tail _ (.tail _ (.tail _ (.head _)))) (ht1.imp fun v x hx => ?_) lF lN (by omega) ?_
      · obtain ⟨a, na, e1, e2⟩ := hx
        exact ⟨a, na, e1, .tail _ (.tail _ (.tail _ (.tail _ (List.mem_append.mpr (.inl e2)))))⟩
      intro h10 tk10 D10 nD10 F10 N10 off10
      clear lN lF
      (repeat' ((fail_if_success (with_reducible show wpAny _ _ (exec (Stmt.For _ _ _ _ _) _) _ _ _)); (fail_if_success (with_reducible show wpAny _ _ (exec (Stmt.While _ _ _ _) _) _ _ _)); (fail_if_success (with_reducible show wpAny _ _ (eval (Expr.ListComp _ _ _ _) _) _ _ _)); (fail_if_success (with_reducible show wpAny _ _ (exec (Stmt.Assign _ (Expr.ListComp _ _ _ _) _) _) _ _ _)); (fail_if_success (with_reducible show wpAny _ _ (call (Value.type "range") _ _) _ _ _)); (fail_if_success (with_reducible show wpAny _ _ (pyIter _) _ _ _)); first | (k_unfold; (try dsimp only)) | (k_end; kc_close) | walk1 | (dsimp only; walk1) | (leave1; walk_say "STEP leave1"; (try dsimp only)) | fail "no step"))
      (rename News _ _ _ _ => lN); (rename Fr _ _ _ _ => lF)
      have hxl : xs.length = acc.length := ht1.1.symm
      refine kde_tupleOf lF lN (lN.isList (.head _)) (by simp; omega) rfl ?_
      intro DT hT' FT NT lT
      clear lN lF
      (repeat' ((fail_if_success (with_reducible show wpAny _ _ (exec (Stmt.For _ _ _ _ _) _) _ _ _)); (fail_if_success (with_reducible show wpAny _ _ (exec (Stmt.While _ _ _ _) _) _ _ _)); (fail_if_success (with_reducible show wpAny _ _ (eval (Expr.ListComp _ _ _ _) _) _ _ _)); (fail_if_success (with_reducible show wpAny _ _ (exec (Stmt.Assign _ (Expr.ListComp _ _ _ _) _) _) _ _ _)); (fail_if_success (with_reducible show wpAny _ _ (call (Value.type "range") _ _) _ _ _)); (fail_if_success (with_reducible show wpAny _ _ (pyIter _) _ _ _)); first | (k_unfold; (try dsimp only)) | (k_end; kc_close) | walk1 | (dsimp only; walk1) | (leave1; walk_say "STEP leave1"; (try dsimp only)) | fail "no step"))
      (rename News _ _ _ _ => lN); (rename Fr _ _ _ _ => lF)
      refine' For_invTF (h₀ := g1) lF ?hfor ?hsf
      case hsf => intro _; with_unfolding_all rfl
      (repeat' ((fail_if_success (with_reducible show wpAny _ _ (exec (Stmt.For _ _ _ _ _) _) _ _ _)); (fail_if_success (with_reducible show wpAny _ _ (exec (Stmt.While _ _ _ _) _) _ _ _)); (fail_if_success (with_reducible show wpAny _ _ (eval (Expr.ListComp _ _ _ _) _) _ _ _)); (fail_if_success (with_reducible show wpAny _ _ (exec (Stmt.Assign _ (Expr.ListComp _ _ _ _) _) _) _ _ _)); (fail_if_success (with_reducible show wpAny _ _ (call (Value.type "range") _ _) _ _ _)); (fail_if_success (with_reducible show wpAny _ _ (pyIter _) _ _ _)); first | (k_unfold; (try dsimp only)) | (k_end; kc_close) | walk1 | (dsimp only; walk1) | (leave1; walk_say "STEP leave1"; (try dsimp only)) | fail "no step"))
      (rename News _ _ _ _ => lN3); (rename Fr _ _ _ _ => lF3)
      obtain ⟨gl0, gA, BASE, e1, e2, eB⟩ := name_grp lN3
      subst e1; subst e2
      have hDB : (D, listOf acc.toArray nD) ∈ BASE := by rw [eB]; simp
      have htB : ∀ p ∈ tl, p ∈ BASE := fun p hp => by rw [eB]; simp [hp]
      have lN4 := news_base (items := items) lN3 eB
      refine' iter_list3 (Str.ofString "groups") (fun st : Addr => .ref st) (fun i st nx => nx = (st, listOf (grpsOf (.ref gA) items i).toArray 0) :: BASE ∧ ∀ p ∈ BASE, p.1 < st) (base := BASE) (xs := xs) gl0 ?hh ?k1 ?k2 ?k3 ?hp ?y1 ?y2 ?y3 ?hb hDB ?ht lF3 lN4 ?hy ?hj ?turn ?done
      case hh => exact rfl
      case k1 => rfl
      case k2 => rfl
      case k3 => rfl
      case hp => rfl
      case y1 => decide
      case y2 => decide
      case y3 => decide
      case hb => rintro i st nx ⟨rfl, _⟩ p hp; exact .tail _ hp
      case ht => exact ht1.imp fun v x hx => let ⟨a, na, e1, e2⟩ := hx; ⟨a, na, e1, htB _ e2⟩
      case hy => exact rfl
      case hj =>
        (rename _ < _ ∧ _ < _ ∧ _ < _ ∧ _ < _ ∧ _ < _ ∧ _ < _ ∧ _ < _ ∧ AllLt _ (tl ++ _) => gB)
        refine ⟨rfl, fun p hp => ?_⟩
        rw [eB] at hp
        obtain ⟨q1, q2, q3, q4, q5, q6, q7, q8⟩ := gB
        rcases List.mem_cons.mp hp with rfl | hp
        · exact q1
        rcases List.mem_cons.mp hp with rfl | hp
        · exact q2
        rcases List.mem_cons.mp hp with rfl | hp
        · exact q3
        rcases List.mem_cons.mp hp with rfl | hp
        · exact q4
        rcases List.mem_cons.mp hp with rfl | hp
        · exact q5
        rcases List.mem_cons.mp hp with rfl | hp
        · exact q6
        rcases List.mem_cons.mp hp with rfl | hp
        · exact q7
        exact allLt_mem q8 hp
      case turn =>
        rintro i x st nx s₁ I oI hxi ⟨rfl, hlt⟩ ho F' N'
        replace F' : Fr _ L1 _ _ := F'; replace N' : News _ L1 _ _ := N'
        have hil : i < items.length := by
          rw [← ht2.1]
          rcases Nat.lt_or_ge i xs.length with h | h
          · exact h
          · simp [h] at hxi
        obtain ⟨x1, x2, x3⟩ := x
        obtain ⟨e1, ⟨tkx, e2⟩, gx, ngx, e3, hgx⟩ := ht2.2 i _ _ hxi (List.getElem?_eq_getElem hil)
        dsimp only at e1 e2 e3
        subst e1; subst e2; subst e3
        k_steps
        dsimp only
        (rename News _ _ _ _ => lN5); (rename Fr _ _ _ _ => lF5)
        refine kmk_add_lit lF5 lN5 (lN5.isList (.tail _ (.head _))) (lN5.isList (.tail _ (.tail _ (htB _ hgx)))) rfl ?_ ?_
        · intro D9 h9 F9 N9 l9
          k_steps
          (rename News _ _ _ _ => lN6)
          refine ⟨rfl, TurnEnd.intro (by assumption) (news_turn (grpsOf_succ (List.getElem?_eq_getElem hil)) lN6) ?_ ⟨⟨D9, rfl, rfl, fun p hp => l9 p (.tail _ (.tail _ hp))⟩, fun z h1 h2 h3 h4 => by simp [h1, h2, h3, h4]⟩⟩
          intro p hp
          rcases List.mem_cons.mp hp with rfl | hp
          · exact Nat.ne_of_gt (l9 (I, oI) (.head _))
          · exact ho p (.tail _ hp)
        · have hgl := grps_len (g := .ref gA) (fun k it hk => items_len hall k it hk) i
          have hgi := items_len hall i _ (List.getElem?_eq_getElem hil)
          have hG : Gb d ≤ 1 := by
            rcases Nat.le_one_iff_eq_zero_or_eq_one.mp hd2 with rfl | rfl
            · decide
            · decide
          have hi3 : i * Gb d ≤ 3 := Nat.le_trans (Nat.mul_le_mul_left i hG) (by have := hall.1; omega)
          rw [sizeLine_eq]; simp; omega
      case done =>
        rintro u st nx hd9 tkd ⟨rfl, hlt⟩ F' N'
        replace F' : Fr _ L1 _ _ := F'; replace N' : News _ L1 _ _ := N'
        (repeat' ((fail_if_success (with_reducible show wpAny _ _ (exec (Stmt.For _ _ _ _ _) _) _ _ _)); (fail_if_success (with_reducible show wpAny _ _ (exec (Stmt.While _ _ _ _) _) _ _ _)); (fail_if_success (with_reducible show wpAny _ _ (eval (Expr.ListComp _ _ _ _) _) _ _ _)); (fail_if_success (with_reducible show wpAny _ _ (exec (Stmt.Assign _ (Expr.ListComp _ _ _ _) _) _) _ _ _)); (fail_if_success (with_reducible show wpAny _ _ (call (Value.type "range") _ _) _ _ _)); (fail_if_success (with_reducible show wpAny _ _ (pyIter _) _ _ _)); first | (k_unfold; (try dsimp only)) | (k_end; kc_close) | walk1 | (dsimp only; walk1) | (leave1; walk_say "STEP leave1"; (try dsimp only)) | fail "no step"))
        (refine' ListComp3 (h₀ := g1) (L := L1) (fun x => x.2.1) ?hsel ?hh ?hclos ?hcell ?hkind ?hnames ?l1 ?l2 ?l3 ?lk ?hdb ?h ?hs; (case hsel => intro _ _; rfl); (case hh => exact rfl); (case hclos => with_unfolding_all rfl); (case hcell => decide); (case hkind => with_unfolding_all rfl); (case hnames => decide); (case l1 => with_unfolding_all rfl); (case l2 => with_unfolding_all rfl); (case l3 => with_unfolding_all rfl); (case lk => with_unfolding_all rfl); (case hdb => decide); (case hs => intro _; with_unfolding_all rfl))
        (repeat' ((fail_if_success (with_reducible show wpAny _ _ (exec (Stmt.For _ _ _ _ _) _) _ _ _)); (fail_if_success (with_reducible show wpAny _ _ (exec (Stmt.While _ _ _ _) _) _ _ _)); (fail_if_success (with_reducible show wpAny _ _ (eval (Expr.ListComp _ _ _ _) _) _ _ _)); (fail_if_success (with_reducible show wpAny _ _ (exec (Stmt.Assign _ (Expr.ListComp _ _ _ _) _) _) _ _ _)); (fail_if_success (with_reducible show wpAny _ _ (call (Value.type "range") _ _) _ _ _)); (fail_if_success (with_reducible show wpAny _ _ (pyIter _) _ _ _)); first | (k_unfold; (try dsimp only)) | (k_end; kc_close) | walk1 | (dsimp only; walk1) | (leave1; walk_say "STEP leave1"; (try dsimp only)) | fail "no step"))
        (rename News _ _ _ _ => lN7); (rename Fr _ _ _ _ => lF7)
        refine comp3_list (.tail _ hDB) (ht1.imp fun v x hx => let ⟨a, na, e1, e2⟩ := hx; ⟨a, na, e1, .tail _ (htB _ e2)⟩) lF7 lN7 (by omega) ?_
        intro h11 tk11 D11 nD11 F11 N11 off11
        clear lN7 lF7
        (repeat' ((fail_if_success (with_reducible show wpAny _ _ (exec (Stmt.For _ _ _ _ _) _) _ _ _)); (fail_if_success (with_reducible show wpAny _ _ (exec (Stmt.While _ _ _ _) _) _ _ _)); (fail_if_success (with_reducible show wpAny _ _ (eval (Expr.ListComp _ _ _ _) _) _ _ _)); (fail_if_success (with_reducible show wpAny _ _ (exec (Stmt.Assign _ (Expr.ListComp _ _ _ _) _) _) _ _ _)); (fail_if_success (with_reducible show wpAny _ _ (call (Value.type "range") _ _) _ _ _)); (fail_if_success (with_reducible show wpAny _ _ (pyIter _) _ _ _)); first | (k_unfold; (try dsimp only)) | (k_end; kc_close) | walk1 | (dsimp only; walk1) | (leave1; walk_say "STEP leave1"; (try dsimp only)) | fail "no step"))
        have hts : All2 IsStr (xs.map (·.2.1)) (items.map (·.2.1)) := texts_of ht2
        (refine' tell_use ?k1 ?k2 ?k3 ?k4 ?k5 ?kF ?kK ?kd ?ku (joined_tells w mean mg mb D11 (xs.map (·.2.1)) (items.map (·.2.1)) (signOf kd) tkb nD11 ((D11, listOf (xs.map (·.2.1)).toArray nD11) :: (st, listOf (grpsOf (.ref gA) items acc.length).toArray 0) :: BASE) hts (.head _) ?hlen ?htl ?hsg) ?sub ?_; (case k1 => k_asm); (case k2 => k_asm); (case k3 => k_asm); (case k4 => k_asm); (case k5 => k_asm); (case kF => first | exact rfl | assumption); (case kK => first | exact rfl | assumption); (case kd => ((simp only [depth_under_make, depth_under_kw, depth_in1, depth_deeper, depth_caller, recursionLimit] at *); omega)); (case ku => ((have hcL9 := cLine_is); (simp only [units_in1, units_deeper, Around.mark_units, units_caller] at *); omega)))
        case hlen => have := hall.1; simp; omega
        case htl => exact fun t ht => Nat.le_trans (texts_len hall t ht) (by rcases Nat.le_one_iff_eq_zero_or_eq_one.mp hd2 with rfl | rfl <;> decide)
        case hsg => exact Nat.le_of_eq (kinds_ok _ hkd).1
        case sub => exact fun p hp => hp
        rintro r12 news12 h12 tk12 F12 N12 ⟨⟨tkj, rfl⟩, rfl⟩
        have hjl : (joined (signOf kd) (items.map (·.2.1))).length ≤ 3003 := by
          have q := joined_len (sg := signOf kd) (ts := items.map (·.2.1)) (Nat.le_of_eq (kinds_ok _ hkd).1) (fun t ht => Nat.le_trans (texts_len hall t ht) (by rcases Nat.le_one_iff_eq_zero_or_eq_one.mp hd2 with rfl | rfl <;> decide)) items.length
          rw [List.take_of_length_le (by simp)] at q
          have := hall.1; omega
        (repeat' ((fail_if_success (with_reducible show wpAny _ _ (exec (Stmt.For _ _ _ _ _) _) _ _ _)); (fail_if_success (with_reducible show wpAny _ _ (exec (Stmt.While _ _ _ _) _) _ _ _)); (fail_if_success (with_reducible show wpAny _ _ (eval (Expr.ListComp _ _ _ _) _) _ _ _)); (fail_if_success (with_reducible show wpAny _ _ (exec (Stmt.Assign _ (Expr.ListComp _ _ _ _) _) _) _ _ _)); (fail_if_success (with_reducible show wpAny _ _ (call (Value.type "range") _ _) _ _ _)); (fail_if_success (with_reducible show wpAny _ _ (pyIter _) _ _ _)); first | (k_unfold; (try dsimp only)) | (k_end; kc_close) | walk1 | (dsimp only; walk1) | (leave1; walk_say "STEP leave1"; (try dsimp only)) | fail "no step"))
        (rename News h₀ _ _ _ => lN8)
        (rename _ < _ ∧ _ < _ ∧ AllLt _ BASE => f1)
        (rename _ < gA ∧ _ < gA ∧ _ < gA ∧ _ < gA ∧ _ < gA ∧ _ < gA ∧ AllLt gA (tl ++ _) => f3)
        obtain ⟨tl', N9, q1, q2⟩ := part_end (o := o) hall ht2 hkd hmk hacc3 eB lN8 hnew f1.2.2 hlt f3.2.2.1 f3.2.2.2.2.2.2 lT
        exact hret _ _ _ _ (by assumption) N9 ⟨o8, tl', _, _, _, ho8, rfl, q1, q2⟩
end Mine
namespace Mine
theorem part1 (w : World) (mean : ExcName → Option Value) (mg mb : Str → Option Value) : PartTells w mean mg mb 1 := partS w mean mg mb 0 (by decide) (part0 w mean mg mb)
theorem part2 (w : World) (mean : ExcName → Option Value) (mg mb : Str → Option Value) : PartTells w mean mg mb 2 := partS w mean mg mb 1 (by decide) (part1 w mean mg mb)
end Mine
namespace Mine
section
variable {prog : Program} {w : World} {A : Around} {E : Value → Shared → Prop} {s : Shared} {env : Env} {h₀ : Heap} {L : Addr}
/-- a test's end: it is false, and what stood stands -/
def FiltEnd (h₀ : Heap) (L : Addr) (m : Str → Option Value) (led : Led) (s₁ : Shared) (b : Bool) (s₂ : Shared) : Prop :=
  b = false ∧ ∃ h' tk, s₂ = { s₁ with heap := h', toks := tk } ∧ Fr h₀ L h' m ∧ News h₀ L h' led
theorem FiltEnd.intro {m : Str → Option Value} {led : Led} {s₁ : Shared} {h' : Heap} {tk : Nat} (F : Fr h₀ L h' m) (N : News h₀ L h' led) : FiltEnd h₀ L m led s₁ false { s₁ with heap := h', toks := tk } := ⟨rfl, h', tk, rfl, F, N⟩

theorem comp_blockF {elt iter ct : Expr} {x : Str} {px : Pos} {scope : Scope} {cl : List (Str × Addr)} {pos : Pos} {s₂ : Shared} {I : Addr} {fp : List Addr} {n : Nat} {P : Nat → Value → Prop} {St : Nat → Heap → Prop} {m : Str → Option Value} {news : Led} {RR : Value → Addr → Result → Shared → Prop}
    (hcell : ∀ y ∈ scope.names, y.2 ≠ .cell) (hkind : scope.kind = .function) (hx : scope.names.lookup x = some .local)
    (W : Walks prog w A I fp [I] n P St) (hst : St 0 s₂.heap) (hex : ∀ i h, St i h → ∃ o, h.get? I = some o) (hLf : L ∉ fp) (hI0 : h₀.get? I = none) (hfp : ∀ c ∈ fp, c = I ∨ ∃ oc, (c, oc) ∈ news)
    (F : Fr h₀ L s₂.heap m) (N : News h₀ L s₂.heap news) (hoff : Off I news)
    (turn : ∀ i v h tk D C oI oC mc E', i < n → P i v → Fr h₀ L h m → News h₀ L h ((I, oI) :: (D, listOf #[] 0) :: (C, oC) :: news) → NsO C oC mc → mc x = some v →
      wpAny (model prog w) A (isTrue ct (compEnvC scope cl C env) (eval ct (compEnvC scope cl C env))) (FiltEnd h₀ L m ((I, oI) :: (D, listOf #[] 0) :: (C, oC) :: news) { s₂ with heap := h, toks := tk }) E' { s₂ with heap := h, toks := tk })
    (hRR : ∀ D C h tk mc, h.Ns C mc → C ≠ L → D ≠ C → D ≠ L → h₀.get? C = none → h₀.get? D = none → Off C news → Off D news → Fr h₀ L h m → News h₀ L h ((D, listOf #[] 0) :: news) → RR (.ref D) C (.ok .next) { s₂ with heap := h, toks := tk }) :
    wpAny (model prog w) A (newList []) (fun acc s₃ => wpAny (model prog w) A (newFunctionEnv scope env.globals cl [] env.qual none .none (some env)) (fun cenv s₄ =>
      codeAny (model prog w) A (.compStart (.ListComp elt [⟨.Name x px, iter, [ct], 0⟩] scope pos) 0 (.ref I) acc { cenv with scope := relabel scope env }) (RR acc cenv.locals) s₄) E s₃) E s₂ := by
  refine wpAny_newObj_type (wpAny_newFunctionEnv hcell (by intro y hy; simp at hy) (fun h₁ hns₁ hsb₁ => ?_) hkind)
  dsimp only at hns₁ hsb₁ ⊢
  generalize hH2 : s₂.heap.push { cls := .type "list", dict := none, data := .seq ([] : List Value).toArray } = H2 at hns₁ hsb₁ ⊢
  have hC : H2.objs.size = s₂.heap.objs.size + 1 := by rw [← hH2, Heap.size_push]
  generalize hCd : H2.objs.size = C at hns₁ hsb₁ hC ⊢
  generalize hDd : s₂.heap.objs.size = D at hC ⊢
  have hDC : D ≠ C := by rw [hC]; exact Nat.ne_of_lt (Nat.lt_succ_self _)
  have below : ∀ b, b < D → b ≠ C ∧ b ≠ D := fun b hb => ⟨by rw [hC]; exact Nat.ne_of_lt (Nat.lt_succ_of_lt hb), Nat.ne_of_lt hb⟩
  have old : ∀ b o, s₂.heap.get? b = some o → h₁.get? b = some o := fun b o e => hsb₁.extBut b o (below b (hDd ▸ Heap.lt_size e)).1 (Heap.get?_push_of_some _ (hH2 ▸ Heap.get?_push_of_some _ e))
  have hD1 : h₁.get? D = some (listOf #[] 0) := hsb₁.extBut _ _ hDC (Heap.get?_push_of_some _ (hH2 ▸ hDd ▸ Heap.get?_push_size _ rfl))
  have hst₁ : St 0 h₁ := W.frame _ _ _ hst fun b _ o e => old b o e
  have fresh : ∀ a, D ≤ a → s₂.heap.get? a = none := fun a ha => by
    cases e : s₂.heap.get? a with
    | none => rfl
    | some o' => exact absurd (Heap.lt_size e) (hDd ▸ Nat.not_lt.mpr ha)
  have hC0 : h₀.get? C = none := by
    cases e : h₀.get? C with
    | none => rfl
    | some o => have := fresh C (by rw [hC]; exact Nat.le_succ _); rw [F.keep _ _ e] at this; cases this
  have hD0 : h₀.get? D = none := by
    cases e : h₀.get? D with
    | none => rfl
    | some o => have := fresh D (Nat.le_refl _); rw [F.keep _ _ e] at this; cases this
  have hLD : L < D := hDd ▸ F.ns.lt
  obtain ⟨oI₂, hoI₂⟩ := hex _ _ hst
  have hID : I < D := hDd ▸ Heap.lt_size hoI₂
  have hIL : I ≠ L := fun e => hLf (e ▸ W.sub I (List.mem_singleton.mpr rfl))
  have hCL : C ≠ L := (below L hLD).1.symm
  have hDL : D ≠ L := (below L hLD).2.symm
  have hIC : I ≠ C := (below I hID).1
  have hID' : I ≠ D := (below I hID).2
  have o2 : Off D news := fun p hp => (below _ (hDd ▸ Heap.lt_size (N p hp).1)).2
  have o3 : Off C news := fun p hp => (below _ (hDd ▸ Heap.lt_size (N p hp).1)).1
  have hCf : C ∉ fp := fun hm => by
    rcases hfp C hm with e | ⟨oc, e⟩
    · exact hIC e.symm
    · exact o3 _ e rfl
  have loop : ∀ s₃ : Shared, s₃ = { s₂ with heap := h₁, toks := s₂.toks + ([] : List (Str × Value)).length } →
      codeAny (model prog w) A (.compLoop (.ListComp elt [⟨.Name x px, iter, [ct], 0⟩] scope pos) 0 (.ref I) (.ref D) (compEnvC scope cl C env)) (RR (.ref D) C) s₃ := by
    rintro s₃ rfl
    obtain ⟨oC₁, hoC₁, hnC₁⟩ := nsO_of hns₁
    refine codeAny_compLoop_tests (fun k s' => ∃ i h tk oI oC mc, s' = { s₂ with heap := h, toks := tk } ∧ k = n - i ∧ i ≤ n ∧ St i h ∧ Fr h₀ L h m ∧ News h₀ L h ((I, oI) :: (D, listOf #[] 0) :: (C, oC) :: news) ∧ NsO C oC mc) ?_ n
      ⟨0, h₁, _, oI₂, oC₁, _, rfl, rfl, Nat.zero_le _, hst₁, F.keeps old, ?_, hnC₁⟩
    · rintro k s' ⟨i, h, tk, oI, oC, mc, rfl, rfl, hi, hst', F', N', hnC⟩
      have hmc := hnC h (N' _ (.tail _ (.tail _ (.head _)))).1
      rcases Nat.lt_or_ge i n with hlt | hge
      · refine W.item i _ _ _ hlt hst' fun v h₂ tk₂ hPv hst₂ hk₂ => ?_
        refine wpAny_assign_Name (wpAny_storeName_local (lookup_relabel_local hx) (hmc.at' fun o e => hk₂ _ o (fun q => hIC (List.mem_singleton.mp q).symm) e) (fun h₃ hn₃ hs₃ => ?_) (by simp [compEnvC, relabel, hkind]))
        refine wpAny_tests_one ?_
        obtain ⟨oC₃, hoC₃, hnC₃⟩ := nsO_of hn₃
        have hst₃ : St (i + 1) h₃ := W.frame _ _ _ hst₂ fun b hb o e => hs₃.extBut b o (fun (q : b = C) => hCf (q ▸ hb)) e
        have up : ∀ b o, b ≠ I → b ≠ C → h.get? b = some o → h₃.get? b = some o := fun b o hb hc e => hs₃.extBut b o hc (hk₂ b o (fun q => hb (List.mem_singleton.mp q)) e)
        obtain ⟨oI₃, hoI₃⟩ := hex _ _ hst₃
        have F₃ : Fr h₀ L h₃ m := fr_two F' hI0 hC0 hIL hCL hk₂ hs₃
        have N₃ : News h₀ L h₃ ((I, oI₃) :: (D, listOf #[] 0) :: (C, oC₃) :: news) := by
          intro p hp
          rcases List.mem_cons.mp hp with rfl | hp
          · exact ⟨hoI₃, hIL, hI0⟩
          · rcases List.mem_cons.mp hp with rfl | hp
            · exact ⟨up D _ hID'.symm hDC (N' _ (.tail _ (.head _))).1, hDL, hD0⟩
            · rcases List.mem_cons.mp hp with rfl | hp
              · exact ⟨hoC₃, hCL, hC0⟩
              · have q := N' p (.tail _ (.tail _ (.tail _ hp)))
                exact ⟨up _ _ (hoff p hp) (o3 p hp) q.1, q.2⟩
        refine wpAny_mono (turn i v h₃ _ D C oI₃ oC₃ _ _ hlt hPv F₃ N₃ hnC₃ (by simp)) (fun ok s₄ h₄ => ?_) fun _ _ e => e
        obtain ⟨rfl, h₅, tk₅, rfl, F₅, N₅⟩ := h₄
        simp only [Bool.false_eq_true, if_false]
        refine ⟨n - (i + 1), by omega, i + 1, h₅, tk₅, oI₃, oC₃, _, rfl, rfl, hlt, ?_, F₅, N₅, hnC₃⟩
        refine W.frame _ _ _ hst₃ fun b hb o e => ?_
        rcases hfp b hb with rfl | ⟨oc, hc⟩
        · rw [hoI₃] at e; cases e
          exact (N₅ _ (.head _)).1
        · have e2 := (N₃ _ (.tail _ (.tail _ (.tail _ hc)))).1
          rw [e] at e2; cases e2
          exact (N₅ _ (.tail _ (.tail _ (.tail _ hc)))).1
      · have hin : i = n := by omega
        subst hin
        refine W.done _ _ _ hst' fun h₂ tk₂ hk₂ => ?_
        have e1 : ∀ b o, b ≠ I → h.get? b = some o → h₂.get? b = some o := fun b o hb e => hk₂ b o (fun q => hb (List.mem_singleton.mp q)) e
        refine hRR D C h₂ _ mc (hmc.at' fun o e => e1 _ o hIC.symm e) hCL hDC hDL hC0 hD0 o3 o2 ?_ ?_
        · refine ⟨F'.ns.at' fun o e => e1 L o hIL.symm e, fun b o e => e1 b o ?_ (F'.keep b o e), F'.above⟩
          rintro rfl; rw [hI0] at e; cases e
        · intro p hp
          rcases List.mem_cons.mp hp with rfl | hp
          · exact ⟨e1 D _ hID'.symm (N' _ (.tail _ (.head _))).1, hDL, hD0⟩
          · have q := N' p (.tail _ (.tail _ (.tail _ hp)))
            exact ⟨e1 _ _ (hoff p hp) q.1, q.2⟩
    · intro p hp
      rcases List.mem_cons.mp hp with rfl | hp
      · exact ⟨old _ _ hoI₂, hIL, hI0⟩
      · rcases List.mem_cons.mp hp with rfl | hp
        · exact ⟨hD1, hDL, hD0⟩
        · rcases List.mem_cons.mp hp with rfl | hp
          · exact ⟨hoC₁, hCL, hC0⟩
          · exact ⟨old _ _ (N p hp).1, (N p hp).2⟩
  exact codeAny_compStart_list (loop _ rfl) (W.self 0 _ _ _ hst₁ (loop _ rfl))

def FiltAt (prog : Program) (w : World) (A : Around) (h₀ : Heap) (L : Addr) (scope : Scope) (cl : List (Str × Addr)) (env : Env) (x : Str) (ct : Expr) (Q : Value → Shared → Prop) (it : Value) (s₂ : Shared) : Prop :=
  ∃ (I l : Addr) (vs : List Value) (nn : Nat) (m : Str → Option Value) (news : Led), it = .ref I ∧ s₂.heap.IsListIter I l 0 ∧ (l, listOf vs.toArray nn) ∈ news ∧ h₀.get? I = none ∧ I ≠ L ∧ Fr h₀ L s₂.heap m ∧ News h₀ L s₂.heap news ∧ Off I news ∧
    (∀ (i : Nat) (v : Value) h tk I' D C oI oC mc E', vs[i]? = some v → Fr h₀ L h m → News h₀ L h ((I', oI) :: (D, listOf #[] 0) :: (C, oC) :: news) → NsO C oC mc → mc x = some v →
      wpAny (model prog w) A (isTrue ct (compEnvC scope cl C env) (eval ct (compEnvC scope cl C env))) (FiltEnd h₀ L m ((I', oI) :: (D, listOf #[] 0) :: (C, oC) :: news) { s₂ with heap := h, toks := tk }) E' { s₂ with heap := h, toks := tk }) ∧
    ∀ h tk D, Fr h₀ L h m → News h₀ L h ((D, listOf #[] 0) :: news) → Off D news → Q (.ref D) { s₂ with heap := h, toks := tk }
theorem filt_list {scope : Scope} {cl : List (Str × Addr)} {x : Str} {ct : Expr} {Q : Value → Shared → Prop} {l : Addr} {vs : List Value} {nn : Nat} {m : Str → Option Value} {news : Led} (hl : (l, listOf vs.toArray nn) ∈ news) (F : Fr h₀ L s.heap m) (N : News h₀ L s.heap news)
    (turn : ∀ (i : Nat) (v : Value) h tk I D C oI oC mc E', vs[i]? = some v → Fr h₀ L h m → News h₀ L h ((I, oI) :: (D, listOf #[] 0) :: (C, oC) :: news) → NsO C oC mc → mc x = some v →
      wpAny (model prog w) A (isTrue ct (compEnvC scope cl C env) (eval ct (compEnvC scope cl C env))) (FiltEnd h₀ L m ((I, oI) :: (D, listOf #[] 0) :: (C, oC) :: news) { s with heap := h, toks := tk }) E' { s with heap := h, toks := tk })
    (done : ∀ h tk D, Fr h₀ L h m → News h₀ L h ((D, listOf #[] 0) :: news) → Off D news → Q (.ref D) { s with heap := h, toks := tk }) :
    wpAny (model prog w) A (pyIter (.ref l)) (fun it s₂ => FiltAt prog w A h₀ L scope cl env x ct Q it s₂) E s := by
  have hol : s.heap.get? l = some (listOf vs.toArray nn) := (N _ hl).1
  refine wpAny_pyIter_list (⟨_, hol, rfl, nn, rfl⟩ : s.heap.IsList l vs.toArray) ?_
  exact ⟨_, l, vs, nn, m, news, rfl, ⟨_, Heap.get?_push_size _ rfl, rfl, rfl⟩, hl, next_is_new F, (ne_next F).symm, F.push _, fun p hp => ⟨Heap.get?_push_of_some _ (N p hp).1, (N p hp).2⟩, off_next N, turn, done⟩
theorem ListCompF {elt iter ct : Expr} {x : Str} {px : Pos} {scope : Scope} {cl : List (Str × Addr)} {pos : Pos} {Q : Value → Shared → Prop} (hh : A.handled = none)
    (hclos : closureFor scope env = pure cl) (hcell : ∀ y ∈ scope.names, y.2 ≠ .cell) (hkind : scope.kind = .function)
    (hnames : ∀ y ∈ scope.names, y.2 = .local → scope.names.lookup y.1 = some .local) (hx : scope.names.lookup x = some .local)
    (h : wpAny (model prog w) A (eval iter env) (fun xv s₁ => wpAny (model prog w) A (pyIter xv) (fun it s₂ => FiltAt prog w A h₀ L scope cl env x ct Q it s₂) E s₁) E s)
    (hs : ∀ x, foldedSetIterable iter env x = pure x := by intro _; rfl) :
    wpAny (model prog w) A (eval (.ListComp elt [⟨.Name x px, iter, [ct], 0⟩] scope pos) env) Q E s := by
  rw [eval_ListComp]
  refine wpAny_comprehension_free (use := none) rfl hs hclos hkind hnames (wpAny_mono h (fun xv s₁ h₁ => wpAny_mono h₁ (fun it s₂ h₂ => ?_) fun _ _ e => e) fun _ _ e => e)
  obtain ⟨I, l, vs, nn, m, news, rfl, hit, hl, hI0, hIL, F, N, hoff, turn, done⟩ := h₂
  have hol : s₂.heap.get? l = some (listOf vs.toArray nn) := (N _ hl).1
  have hls : s₂.heap.IsList l vs.toArray := ⟨_, hol, rfl, nn, rfl⟩
  have W := Walks.list (prog := prog) (w := w) hh I l (hoff _ hl) vs.toArray
  refine comp_blockF (RR := fun acc C => compPost (model prog w) A E none Q acc C) hcell hkind hx W ⟨hit, hls⟩ (fun i h st => let ⟨⟨o, e, _⟩, _⟩ := st; ⟨o, e⟩) ?_ hI0 ?_ F N hoff ?_ ?_
  · intro hm
    rcases List.mem_cons.mp hm with e | hm
    · exact hIL e.symm
    · exact (N _ hl).2.1 ((List.mem_singleton.mp hm).symm)
  · intro c hc
    rcases List.mem_cons.mp hc with e | hc
    · exact .inl e
    · rw [List.mem_singleton.mp hc]; exact .inr ⟨_, hl⟩
  · intro i v h tk D C oI oC mc E' hi hP F' N' hnC hm
    exact turn i v h tk I D C oI oC mc E' (by simpa using hP) F' N' hnC hm
  · intro D C h tk mc hn hCL hDC hDL hC0 hD0 o3 o2 F' N'
    refine ⟨mc, hn, fun h₃ hs₃ => done h₃ _ D (fr_sameC F' hC0 hCL hs₃) (news_sameC N' ?_ hs₃) o2⟩
    intro p hp
    rcases List.mem_cons.mp hp with rfl | hp
    · exact hDC
    · exact o3 p hp
end
end Mine
namespace Mine
def ItOk (h : Heap) (k : Nat) : It → Prop
  | .s t => PyData.canLay0 (.str t) = true
  | .v v => ∃ d, DataIn h k v d
theorem it_data {h : Heap} {k : Nat} : ∀ {X : List It}, (∀ x ∈ X, ItOk h k x) → ∃ ds, PyData.canLayAll0 ds = true ∧ PyData.depthAll ds ≤ k ∧ ∀ items, All2 Is items X → ∃ as, ReadsAll h items ds as
  | [], _ => ⟨[], rfl, Nat.zero_le _, fun items hi => by obtain rfl := hi.nil_inv; exact ⟨[], .nil⟩⟩
  | x :: X, H => by
    obtain ⟨ds, c1, c2, c3⟩ := it_data (X := X) (fun y hy => H y (.tail _ hy))
    cases x with
    | s t =>
      have hc : PyData.canLay0 (.str t) = true := H (.s t) (.head _)
      refine ⟨.str t :: ds, by rw [PyData.canLayAll0, hc, c1]; rfl, by rw [PyData.depthAll]; exact Nat.max_le.mpr ⟨Nat.zero_le _, c2⟩, fun items hi => ?_⟩
      obtain ⟨a, as', rfl, i0, hi2⟩ := hi.cons_inv
      obtain ⟨tk, rfl⟩ := i0.s_inv
      obtain ⟨as, hr⟩ := c3 _ hi2
      exact ⟨_, .cons (.str t tk) hr⟩
    | v u =>
      have hd : ∃ d, DataIn h k u d := H (.v u) (.head _)
      obtain ⟨d, ⟨as1, r1⟩, r2, r3⟩ := hd
      refine ⟨d :: ds, by rw [PyData.canLayAll0, r2, c1]; rfl, by rw [PyData.depthAll]; exact Nat.max_le.mpr ⟨r3, c2⟩, fun items hi => ?_⟩
      obtain ⟨a, as', rfl, i0, hi2⟩ := hi.cons_inv
      obtain rfl := i0.v_inv
      obtain ⟨as, hr⟩ := c3 _ hi2
      exact ⟨_, .cons r1 hr⟩
theorem All2.reverse {α β : Type} {R : α → β → Prop} {as : List α} {bs : List β} (h : All2 R as bs) : All2 R as.reverse bs.reverse := by
  refine ⟨by simp [h.1], fun i x y hx hy => ?_⟩
  have hi : i < as.length := by
    rcases Nat.lt_or_ge i as.length with h | h
    · exact h
    · simp [h] at hx
  have hi2 : i < bs.length := h.1 ▸ hi
  rw [List.getElem?_reverse hi] at hx
  rw [List.getElem?_reverse hi2] at hy
  exact h.2 _ x y hx (by rw [h.1]; exact hy)
theorem gp_rev {sg mk : Str} {vs : List Value} (hv : 1 ≤ vs.length ∧ vs.length ≤ 3) : (gp sg mk vs vs.length).reverse = lp sg vs vs.length ++ [.s (Str.ofString ")" ++ mk)] := by
  rcases len3 hv with ⟨v0, rfl⟩ | ⟨v0, v1, rfl⟩ | ⟨v0, v1, v2, rfl⟩ <;> simp [gp, lp]
theorem lp_ok {h : Heap} {k : Nat} {sg mk : Str} {vs : List Value} (hm : mk ∈ marks) (hg : PyData.canLay0 (.str sg) = true) (hv : 1 ≤ vs.length ∧ vs.length ≤ 3) (hd : ∀ v ∈ vs, ∃ d, DataIn h k v d) :
    ∀ x ∈ lp sg vs vs.length ++ [.s (Str.ofString ")" ++ mk)], ItOk h k x := by
  have hc := (marks_ok _ hm).2.2
  have ho := open_ok.2
  rcases len3 hv with ⟨v0, rfl⟩ | ⟨v0, v1, rfl⟩ | ⟨v0, v1, v2, rfl⟩ <;>
    (intro x hx
     simp [lp, or_assoc] at hx)
  · rcases hx with rfl | rfl | rfl
    · exact ho
    · exact hd _ (.head _)
    · exact hc
  · rcases hx with rfl | rfl | rfl | rfl | rfl
    · exact ho
    · exact hd _ (.head _)
    · exact hg
    · exact hd _ (.tail _ (.head _))
    · exact hc
  · rcases hx with rfl | rfl | rfl | rfl | rfl | rfl | rfl
    · exact ho
    · exact hd _ (.head _)
    · exact hg
    · exact hd _ (.tail _ (.head _))
    · exact hg
    · exact hd _ (.tail _ (.tail _ (.head _)))
    · exact hc
/-- both piece lists are the same data -/
theorem pieces_eq {h : Heap} {k : Nat} {sg mk : Str} {vs items items' : List Value} (hm : mk ∈ marks) (hg : PyData.canLay0 (.str sg) = true) (hv : 1 ≤ vs.length ∧ vs.length ≤ 3) (hd : ∀ v ∈ vs, ∃ d, DataIn h k v d)
    (h1 : All2 Is items (gp sg mk vs vs.length)) (h2 : All2 Is items' (lp sg vs vs.length ++ [.s (Str.ofString ")" ++ mk)])) :
    ∃ ds, PyData.canLayAll0 ds = true ∧ PyData.depthAll ds ≤ k ∧ (∃ as, ReadsAll h items.reverse ds as) ∧ ∃ as, ReadsAll h items' ds as := by
  obtain ⟨ds, c1, c2, c3⟩ := it_data (lp_ok (h := h) (k := k) hm hg hv hd)
  refine ⟨ds, c1, c2, c3 _ ?_, c3 _ h2⟩
  rw [← gp_rev hv]
  exact h1.reverse
end Mine
namespace Mine
local macro_rules | `(tactic| k_all) => `(tactic| assumption)
local macro_rules | `(tactic| k_mem) => `(tactic| assumption)
def getD {q : Program} {loose : List Str} {XP : (Str → Option Value) → Heap → Prop} {YP : World → Heap → Prop} {r : RowW} {d : DefRec} {kwd : List (Str × Expr)} {run : Value → List Value → Sem Value} {H : Prop} (_ : WalkO q loose XP YP r d kwd run → H) : DefRec := d
theorem tups_sub {news news' : Led} {vs : List Value} {xs : List (Value × Value × Value)} (h : Tups news vs xs) (hs : ∀ p ∈ news, p ∈ news') : Tups news' vs xs := h.imp fun _ _ ⟨a, n, e, m⟩ => ⟨a, n, e, hs _ m⟩
theorem name_third {h₀ h : Heap} {L g : Addr} {x y : Addr × Obj} {o : Obj} {rest : Led} (_N : News h₀ L h (x :: y :: (g, o) :: rest)) : ∃ g', g' = g := ⟨g, rfl⟩
theorem base_of {h₀ h : Heap} {L l l0 g : Addr} {o0 : Obj} {r r5 : Value} {acc : List Value} {items : List (Value × Str × List Value)} {D : Addr × Obj} {LB : Led} (N : News h₀ L h ((l, listOf ([r5] ++ acc).toArray 0) :: (l0, o0) :: (g, listOf #[r] 0) :: D :: LB)) :
    ∃ BASE, News h₀ L h ((g, listOf (grpsOf r items 0).toArray 0) :: BASE) ∧ (l, listOf (r5 :: acc).toArray 0) ∈ BASE ∧ D ∈ BASE ∧ ∀ p ∈ LB, p ∈ BASE :=
  ⟨(l, listOf (r5 :: acc).toArray 0) :: D :: LB, fun p hp => by
    rcases List.mem_cons.mp hp with rfl | hp
    · exact N _ (.tail _ (.tail _ (.head _)))
    · rcases List.mem_cons.mp hp with rfl | hp
      · exact N _ (.head _)
      · exact N _ (.tail _ (.tail _ (.tail _ hp))), .head _, .tail _ (.head _), fun p hp => .tail _ (.tail _ hp)⟩
/-- law's own record, read off the head -/
def lawD : DefRec := getD hd
set_option maxHeartbeats 16000000 in
theorem law_tail {w : World} {s₁ : Shared} {fa cdr : Addr} {mean : ExcName → Option Value} {mg mb : Str → Option Value} (K0 : Below callerA s₁.heap [] s₁.heap) (KX : (hd.heap_39 w.params).In s₁.heap) (T : Top hd.view_39 (looseW hd.view_39 []) mean mg mb s₁.heap)
    {kd due : Str} {tv5 : Value} {text5 : Str} {a5 gW D gl5 : Addr} {n5 nD sz5 szW tk : Nat} {tk5 td tkk : Tok} {m1 : Str → Option Value} {acc : List Value} {xs : List (Value × Value × Value)} {its : List (Value × Str × List Value)} {LB TL : Led} {h : Heap}
    (hall : All2 (fun v (x : Value × Str × List Value) => ResIn TL 2 v x.1 x.2.1 x.2.2) (.ref a5 :: acc) its) (ht1 : Tups TL (.ref a5 :: acc) xs) (ht2 : All2 (TripOf TL) xs its) (hTL : ∀ p ∈ TL, p ∈ LB)
    (hm5 : (a5, tupOf [tv5, .str text5 tk5, .ref gl5] n5) ∈ LB) (hp5 : PartIn LB 2 tv5 text5 sz5) (hpW : PartIn LB 3 (.ref gW) due szW) (hgrW : GroupIn LB 3 (.ref gW)) (hacc : acc.length ≤ 2)
    (F : Fr s₁.heap s₁.heap.objs.size h (fun y => if y = Str.ofString "due" then some (.str due td) else if y = Str.ofString "whole" then some (.ref gW) else if y = Str.ofString "behind" then some (.ref D) else if y = Str.ofString "kind" then some (.str kd tkk) else if y = Str.ofString "first" then some (.ref a5) else m1 y))
    (N : News s₁.heap s₁.heap.objs.size h ((D, listOf acc.toArray nD) :: LB)) {Q : Flow → Shared → Prop} {E : Value → Shared → Prop} (hE : PassesOwn (model PySem.Challenge.rw_xm0646_01.row.prog w) (callerA.deeper (envOfC (Str.ofString "law") lawD.scope s₁.heap.objs.size fa (.ref cdr))) (envOfC (Str.ofString "law") lawD.scope s₁.heap.objs.size fa (.ref cdr)) E) (hQ : ∀ h' tk' m', Fr s₁.heap s₁.heap.objs.size h' m' → Q (.ret (.bool true)) { s₁ with heap := h', toks := tk' }) :
    wpAny (model PySem.Challenge.rw_xm0646_01.row.prog w) (callerA.deeper (envOfC (Str.ofString "law") lawD.scope s₁.heap.objs.size fa (.ref cdr))) (execs (lawD.body.drop 7) (envOfC (Str.ofString "law") lawD.scope s₁.heap.objs.size fa (.ref cdr))) Q E { s₁ with heap := h, toks := tk } := by
  w_top off
  simp only [lawD, getD, List.drop_succ_cons, List.drop_zero]
  revert KX
  k_fill
  intro KX
  (repeat' ((fail_if_success (with_reducible show wpAny _ _ (call (Value.ref _) _) _ _ _)); (fail_if_success (with_reducible show wpAny _ _ (exec (Stmt.For _ _ _ _ _) _) _ _ _)); (fail_if_success (with_reducible show wpAny _ _ (exec (Stmt.While _ _ _ _) _) _ _ _)); (fail_if_success (with_reducible show wpAny _ _ (eval (Expr.ListComp _ _ _ _) _) _ _ _)); (fail_if_success (with_reducible show wpAny _ _ (exec (Stmt.Assign _ (Expr.ListComp _ _ _ _) _) _) _ _ _)); (fail_if_success (with_reducible show wpAny _ _ (call (Value.type "range") _ _) _ _ _)); (fail_if_success (with_reducible show wpAny _ _ (pyIter _) _ _ _)); first | (k_unfold; (try dsimp only)) | (k_end; kc_close) | walk1 | (dsimp only; walk1) | (leave1; walk_say "STEP leave1"; (try dsimp only)) | fail "no step"))
  refine tell_use K0 F KX N T rfl rfl (by ((simp only [depth_under_make, depth_under_kw, depth_in1, depth_deeper, depth_caller, recursionLimit] at *); omega)) (by ((have hcL9 := cLine_is); (simp only [units_in1, units_deeper, Around.mark_units, units_caller] at *); omega)) (wp_tells w _ _ _ 3 (.ref gW) due szW _ (hpW.mono fun p hp => .tail _ hp) (by decide) (Nat.le_trans hpW.bounds.2.1 (by decide)) (Nat.le_trans hpW.bounds.2.2.2 (by decide))) (fun p hp => hp) ?_
  rintro r2 news2 h2 tk2 F2 N2 ⟨⟨t2, rfl⟩, rfl⟩
  (repeat' ((fail_if_success (with_reducible show wpAny _ _ (call (Value.ref _) _) _ _ _)); (fail_if_success (with_reducible show wpAny _ _ (exec (Stmt.For _ _ _ _ _) _) _ _ _)); (fail_if_success (with_reducible show wpAny _ _ (exec (Stmt.While _ _ _ _) _) _ _ _)); (fail_if_success (with_reducible show wpAny _ _ (eval (Expr.ListComp _ _ _ _) _) _ _ _)); (fail_if_success (with_reducible show wpAny _ _ (exec (Stmt.Assign _ (Expr.ListComp _ _ _ _) _) _) _ _ _)); (fail_if_success (with_reducible show wpAny _ _ (call (Value.type "range") _ _) _ _ _)); (fail_if_success (with_reducible show wpAny _ _ (pyIter _) _ _ _)); first | (k_unfold; (try dsimp only)) | (k_end; kc_close) | walk1 | (dsimp only; walk1) | (leave1; walk_say "STEP leave1"; (try dsimp only)) | fail "no step"))
  · (rename (due != due) = true => hc)
    exact absurd hc (by simp)
  refine tell_use K0 F2 KX N2 T rfl rfl (by ((simp only [depth_under_make, depth_under_kw, depth_in1, depth_deeper, depth_caller, recursionLimit] at *); omega)) (by ((have hcL9 := cLine_is); (simp only [units_in1, units_deeper, Around.mark_units, units_caller] at *); omega)) (wp_tells w _ _ _ 2 tv5 text5 sz5 _ (hp5.mono fun p hp => .tail _ hp) (by decide) (Nat.le_trans hp5.bounds.2.1 (by decide)) (Nat.le_trans hp5.bounds.2.2.2 (by decide))) (fun p hp => hp) ?_
  rintro r3 news3 h3 tk3 F3 N3 ⟨⟨t3, rfl⟩, rfl⟩
  clear F2 N2 F N
  (repeat' ((fail_if_success (with_reducible show wpAny _ _ (call (Value.ref _) _) _ _ _)); (fail_if_success (with_reducible show wpAny _ _ (exec (Stmt.For _ _ _ _ _) _) _ _ _)); (fail_if_success (with_reducible show wpAny _ _ (exec (Stmt.While _ _ _ _) _) _ _ _)); (fail_if_success (with_reducible show wpAny _ _ (eval (Expr.ListComp _ _ _ _) _) _ _ _)); (fail_if_success (with_reducible show wpAny _ _ (exec (Stmt.Assign _ (Expr.ListComp _ _ _ _) _) _) _ _ _)); (fail_if_success (with_reducible show wpAny _ _ (call (Value.type "range") _ _) _ _ _)); (fail_if_success (with_reducible show wpAny _ _ (pyIter _) _ _ _)); first | (k_unfold; (try dsimp only)) | (k_end; kc_close) | walk1 | (dsimp only; walk1) | (leave1; walk_say "STEP leave1"; (try dsimp only)) | fail "no step"))
  · (rename (text5 != text5) = true => hc)
    exact absurd hc (by simp)
  (rename News s₁.heap _ _ _ => lN); (rename Fr s₁.heap _ _ _ => lF)
  refine' For_invTF (h₀ := s₁.heap) (hE := hE) lF ?hfor ?hsf
  case hsf => intro _; with_unfolding_all rfl
  (repeat' ((fail_if_success (with_reducible show wpAny _ _ (call (Value.ref _) _) _ _ _)); (fail_if_success (with_reducible show wpAny _ _ (exec (Stmt.For _ _ _ _ _) _) _ _ _)); (fail_if_success (with_reducible show wpAny _ _ (exec (Stmt.While _ _ _ _) _) _ _ _)); (fail_if_success (with_reducible show wpAny _ _ (eval (Expr.ListComp _ _ _ _) _) _ _ _)); (fail_if_success (with_reducible show wpAny _ _ (exec (Stmt.Assign _ (Expr.ListComp _ _ _ _) _) _) _ _ _)); (fail_if_success (with_reducible show wpAny _ _ (call (Value.type "range") _ _) _ _ _)); (fail_if_success (with_reducible show wpAny _ _ (pyIter _) _ _ _)); first | (k_unfold; (try dsimp only)) | (k_end; kc_close) | walk1 | (dsimp only; walk1) | (leave1; walk_say "STEP leave1"; (try dsimp only)) | fail "no step"))
  dsimp only
  (rename News s₁.heap _ _ _ => lN); (rename Fr s₁.heap _ _ _ => lF)
  obtain ⟨lG, e0⟩ := name_third lN
  subst e0
  obtain ⟨BASE, N5, hlB, hDB, hLB⟩ := base_of (items := its) lN
  clear lN
  refine' iter_list3 (Str.ofString "groups") (fun st : Addr => .ref st) (fun i st nx => nx = (st, listOf (grpsOf (.ref gW) its i).toArray 0) :: BASE) (base := BASE) (xs := xs) (vs := .ref a5 :: acc) (nn := 0) lG ?hh ?k1 ?k2 ?k3 ?hp ?y1 ?y2 ?y3 ?hb hlB ?ht lF N5 ?hy ?hj ?turn ?done
  case hh => exact rfl
  case k1 => rfl
  case k2 => rfl
  case k3 => rfl
  case hp => rfl
  case y1 => decide
  case y2 => decide
  case y3 => decide
  case hb => rintro i st nx rfl p hp; exact .tail _ hp
  case ht => exact tups_sub ht1 fun p hp => hLB p (hTL p hp)
  case hy => exact rfl
  case hj => exact rfl
  case turn =>
    rintro i x st nx s₂ I oI hxi rfl ho F' N'
    have hil : i < its.length := by
      rw [← ht2.1]
      rcases Nat.lt_or_ge i xs.length with h | h
      · exact h
      · simp [h] at hxi
    obtain ⟨x1, x2, x3⟩ := x
    obtain ⟨e1, ⟨tkx, e2⟩, gx, ngx, e3, hgx⟩ := ht2.2 i _ _ hxi (List.getElem?_eq_getElem hil)
    dsimp only at e1 e2 e3
    subst e1; subst e2; subst e3
    replace F' : Fr s₁.heap s₁.heap.objs.size _ _ := F'; replace N' : News s₁.heap s₁.heap.objs.size _ _ := N'
    (repeat' ((fail_if_success (with_reducible show wpAny _ _ (call (Value.ref _) _) _ _ _)); (fail_if_success (with_reducible show wpAny _ _ (exec (Stmt.For _ _ _ _ _) _) _ _ _)); (fail_if_success (with_reducible show wpAny _ _ (exec (Stmt.While _ _ _ _) _) _ _ _)); (fail_if_success (with_reducible show wpAny _ _ (eval (Expr.ListComp _ _ _ _) _) _ _ _)); (fail_if_success (with_reducible show wpAny _ _ (exec (Stmt.Assign _ (Expr.ListComp _ _ _ _) _) _) _ _ _)); (fail_if_success (with_reducible show wpAny _ _ (call (Value.type "range") _ _) _ _ _)); (fail_if_success (with_reducible show wpAny _ _ (pyIter _) _ _ _)); first | (k_unfold; (try dsimp only)) | (k_end; kc_close) | walk1 | (dsimp only; walk1) | (leave1; walk_say "STEP leave1"; (try dsimp only)) | fail "no step"))
    dsimp only
    (rename News s₁.heap _ _ _ => lN5); (rename Fr s₁.heap _ _ _ => lF5)
    refine kmk_add_lit lF5 lN5 (lN5.isList (.tail _ (.head _))) (lN5.isList (.tail _ (.tail _ (hLB _ (hTL _ hgx))))) rfl ?_ ?_
    · intro D9 h9 F9 N9 l9
      (repeat' ((fail_if_success (with_reducible show wpAny _ _ (call (Value.ref _) _) _ _ _)); (fail_if_success (with_reducible show wpAny _ _ (exec (Stmt.For _ _ _ _ _) _) _ _ _)); (fail_if_success (with_reducible show wpAny _ _ (exec (Stmt.While _ _ _ _) _) _ _ _)); (fail_if_success (with_reducible show wpAny _ _ (eval (Expr.ListComp _ _ _ _) _) _ _ _)); (fail_if_success (with_reducible show wpAny _ _ (exec (Stmt.Assign _ (Expr.ListComp _ _ _ _) _) _) _ _ _)); (fail_if_success (with_reducible show wpAny _ _ (call (Value.type "range") _ _) _ _ _)); (fail_if_success (with_reducible show wpAny _ _ (pyIter _) _ _ _)); first | (k_unfold; (try dsimp only)) | (k_end; kc_close) | walk1 | (dsimp only; walk1) | (leave1; walk_say "STEP leave1"; (try dsimp only)) | fail "no step"))
      (rename News s₁.heap _ _ _ => lN6)
      refine ⟨rfl, TurnEnd.intro (by assumption) (news_turn (grpsOf_succ (List.getElem?_eq_getElem hil)) lN6) ?_ ⟨⟨D9, rfl, rfl⟩, fun z h1 h2 h3 h4 => by simp [h1, h2, h3, h4]⟩⟩
      intro p hp
      rcases List.mem_cons.mp hp with rfl | hp
      · exact Nat.ne_of_gt (l9 (I, oI) (.head _))
      · exact ho p (.tail _ hp)
    · have hgl := grps_len (g := .ref gW) (fun k it hk => items_len hall k it hk) i
      have hgi := items_len hall i _ (List.getElem?_eq_getElem hil)
      have hG : Gb 2 = 4 := by decide
      rw [hG] at hgl hgi
      have hal := hall.1
      simp only [List.length_cons] at hal
      rw [sizeLine_eq]; simp; omega
  case done =>
    rintro u st nx h6 tk6 rfl F6 N6
    replace F6 : Fr s₁.heap s₁.heap.objs.size _ _ := F6; replace N6 : News s₁.heap s₁.heap.objs.size _ _ := N6
    clear lF N5
    (repeat' ((fail_if_success (with_reducible show wpAny _ _ (call (Value.ref _) _) _ _ _)); (fail_if_success (with_reducible show wpAny _ _ (exec (Stmt.For _ _ _ _ _) _) _ _ _)); (fail_if_success (with_reducible show wpAny _ _ (exec (Stmt.While _ _ _ _) _) _ _ _)); (fail_if_success (with_reducible show wpAny _ _ (eval (Expr.ListComp _ _ _ _) _) _ _ _)); (fail_if_success (with_reducible show wpAny _ _ (exec (Stmt.Assign _ (Expr.ListComp _ _ _ _) _) _) _ _ _)); (fail_if_success (with_reducible show wpAny _ _ (call (Value.type "range") _ _) _ _ _)); (fail_if_success (with_reducible show wpAny _ _ (pyIter _) _ _ _)); first | (k_unfold; (try dsimp only)) | (k_end; kc_close) | walk1 | (dsimp only; walk1) | (leave1; walk_say "STEP leave1"; (try dsimp only)) | fail "no step"))
    (refine' ListCompF (h₀ := s₁.heap) (L := s₁.heap.objs.size) ?hh ?hclos ?hcell ?hkind ?hnames ?hx ?h ?hs; (case hh => exact rfl); (case hclos => with_unfolding_all rfl); (case hcell => decide); (case hkind => with_unfolding_all rfl); (case hnames => decide); (case hx => with_unfolding_all rfl); (case hs => intro _; with_unfolding_all rfl))
    (repeat' ((fail_if_success (with_reducible show wpAny _ _ (call (Value.ref _) _) _ _ _)); (fail_if_success (with_reducible show wpAny _ _ (exec (Stmt.For _ _ _ _ _) _) _ _ _)); (fail_if_success (with_reducible show wpAny _ _ (exec (Stmt.While _ _ _ _) _) _ _ _)); (fail_if_success (with_reducible show wpAny _ _ (eval (Expr.ListComp _ _ _ _) _) _ _ _)); (fail_if_success (with_reducible show wpAny _ _ (exec (Stmt.Assign _ (Expr.ListComp _ _ _ _) _) _) _ _ _)); (fail_if_success (with_reducible show wpAny _ _ (call (Value.type "range") _ _) _ _ _)); (fail_if_success (with_reducible show wpAny _ _ (pyIter _) _ _ _)); first | (k_unfold; (try dsimp only)) | (k_end; kc_close) | walk1 | (dsimp only; walk1) | (leave1; walk_say "STEP leave1"; (try dsimp only)) | fail "no step"))
    refine filt_list (vs := grpsOf (.ref gW) its (Value.ref a5 :: acc).length) (nn := 0) (.head _) F6 N6 ?_ ?_
    · intro i v h tk I D' C oI oC mc E' hv F' N' hnC hm
      have hG : GroupIn LB 3 v := grps_in hall hTL hgrW _ v (List.mem_of_getElem? hv)
      obtain ⟨a, c, kind, mk, t1, t2, n1, n2, vs, ts, ns, rfl, g1, g2, g3, g4, g5, g6, g7, g8⟩ := hG
      have ma : (a, tupOf [.str kind t1, .ref c, .str mk t2] n1) ∈ (I, oI) :: (D', listOf #[] 0) :: (C, oC) :: (st, listOf (grpsOf (Value.ref gW) its (Value.ref a5 :: acc).length).toArray 0) :: BASE := .tail _ (.tail _ (.tail _ (.tail _ (hLB _ g1))))
      have mc' : (c, tupOf vs n2) ∈ (I, oI) :: (D', listOf #[] 0) :: (C, oC) :: (st, listOf (grpsOf (Value.ref gW) its (Value.ref a5 :: acc).length).toArray 0) :: BASE := .tail _ (.tail _ (.tail _ (.tail _ (hLB _ g2))))
      (repeat' ((fail_if_success (with_reducible show wpAny _ _ (eval (Expr.Name _ _) _) _ _ _)); (fail_if_success (with_reducible show wpAny _ _ (exec (Stmt.For _ _ _ _ _) _) _ _ _)); (fail_if_success (with_reducible show wpAny _ _ (exec (Stmt.While _ _ _ _) _) _ _ _)); (fail_if_success (with_reducible show wpAny _ _ (eval (Expr.ListComp _ _ _ _) _) _ _ _)); (fail_if_success (with_reducible show wpAny _ _ (exec (Stmt.Assign _ (Expr.ListComp _ _ _ _) _) _) _ _ _)); (fail_if_success (with_reducible show wpAny _ _ (call (Value.type "range") _ _) _ _ _)); (fail_if_success (with_reducible show wpAny _ _ (pyIter _) _ _ _)); first | (k_unfold; (try dsimp only)) | (k_end; kc_close) | walk1 | (dsimp only; walk1) | (leave1; walk_say "STEP leave1"; (try dsimp only)) | fail "no step"))
      (refine' nameG_K F' ?k1 ?k2 ?k3 ?_ ?k4 ?k5 ?k6 ?k7; (case k4 => rfl); (case k5 => rfl); (case k6 => rfl); (case k7 => decide); (case k1 => k_asm); (case k2 => k_asm); (case k3 => k_is))
      (repeat' ((fail_if_success (with_reducible show wpAny _ _ (eval (Expr.Name _ _) _) _ _ _)); (fail_if_success (with_reducible show wpAny _ _ (exec (Stmt.For _ _ _ _ _) _) _ _ _)); (fail_if_success (with_reducible show wpAny _ _ (exec (Stmt.While _ _ _ _) _) _ _ _)); (fail_if_success (with_reducible show wpAny _ _ (eval (Expr.ListComp _ _ _ _) _) _ _ _)); (fail_if_success (with_reducible show wpAny _ _ (exec (Stmt.Assign _ (Expr.ListComp _ _ _ _) _) _) _ _ _)); (fail_if_success (with_reducible show wpAny _ _ (call (Value.type "range") _ _) _ _ _)); (fail_if_success (with_reducible show wpAny _ _ (pyIter _) _ _ _)); first | (k_unfold; (try dsimp only)) | (k_end; kc_close) | walk1 | (dsimp only; walk1) | (leave1; walk_say "STEP leave1"; (try dsimp only)) | fail "no step"))
      refine ldVarK (hnC h (N' _ (.tail _ (.tail _ (.head _)))).1) hm ?_
      (repeat' ((fail_if_success (with_reducible show wpAny _ _ (call (Value.ref _) _) _ _ _)); (fail_if_success (with_reducible show wpAny _ _ (eval (Expr.Name _ _) _) _ _ _)); (fail_if_success (with_reducible show wpAny _ _ (exec (Stmt.For _ _ _ _ _) _) _ _ _)); (fail_if_success (with_reducible show wpAny _ _ (exec (Stmt.While _ _ _ _) _) _ _ _)); (fail_if_success (with_reducible show wpAny _ _ (eval (Expr.ListComp _ _ _ _) _) _ _ _)); (fail_if_success (with_reducible show wpAny _ _ (exec (Stmt.Assign _ (Expr.ListComp _ _ _ _) _) _) _ _ _)); (fail_if_success (with_reducible show wpAny _ _ (call (Value.type "range") _ _) _ _ _)); (fail_if_success (with_reducible show wpAny _ _ (pyIter _) _ _ _)); first | (k_unfold; (try dsimp only)) | (k_end; kc_close) | walk1 | (dsimp only; walk1) | (leave1; walk_say "STEP leave1"; (try dsimp only)) | fail "no step"))
      refine tell_use K0 F' KX N' T rfl rfl (by ((simp only [depth_under_make, depth_under_kw, depth_in1, depth_deeper, depth_caller, recursionLimit] at *); omega)) (by ((have hcL9 := cLine_is); (simp only [units_in1, units_deeper, Around.mark_units, units_caller] at *); omega)) (gp_tells w _ _ _ a c kind mk t1 t2 n1 n2 vs _ (marks_ok _ g4).1 g5 ma mc') (fun p hp => hp) ?_
      rintro r9 news9 h9 tk9 F9 N9 ⟨lr, items, nr, rfl, hit, rfl, hoff9⟩
      (repeat' ((fail_if_success (with_reducible show wpAny _ _ (subscriptTail _ _ _ _) _ _ _)); (fail_if_success (with_reducible show wpAny _ _ (call (Value.ref _) _) _ _ _)); (fail_if_success (with_reducible show wpAny _ _ (exec (Stmt.For _ _ _ _ _) _) _ _ _)); (fail_if_success (with_reducible show wpAny _ _ (exec (Stmt.While _ _ _ _) _) _ _ _)); (fail_if_success (with_reducible show wpAny _ _ (eval (Expr.ListComp _ _ _ _) _) _ _ _)); (fail_if_success (with_reducible show wpAny _ _ (exec (Stmt.Assign _ (Expr.ListComp _ _ _ _) _) _) _ _ _)); (fail_if_success (with_reducible show wpAny _ _ (call (Value.type "range") _ _) _ _ _)); (fail_if_success (with_reducible show wpAny _ _ (pyIter _) _ _ _)); first | (k_unfold; (try dsimp only)) | (k_end; kc_close) | walk1 | (dsimp only; walk1) | (leave1; walk_say "STEP leave1"; (try dsimp only)) | fail "no step"))
      dsimp only
      have hil : items.length ≤ 7 := by have := hit.1.trans (gp_len _ _ _ _); omega
      refine kba_turn (value' := PySem.Expr.Name (PySem.Str.ofString "_") ⟨0, 0, 0, 0⟩) (fun _ => rfl) ?_
      refine' krv_lit (s := { s₁ with heap := h9, toks := tk9 + 1 + 1 }) (its := items.toArray) (zs := items.reverse) F9 N9 (N9.isList (.head _)) (IsPart.int _ _) ?he ?_ ?hs ?ht ?hz
      case he => simp
      case hs => with_unfolding_all rfl
      case ht => intro _; rfl
      case hz => rw [sizeLine_eq]; simp; omega
      intro DR h10 F' N10 lR
      replace N10 := news_skip N10
      (repeat' ((fail_if_success (with_reducible show wpAny _ _ (eval (Expr.Name _ _) _) _ _ _)); (fail_if_success (with_reducible show wpAny _ _ (exec (Stmt.For _ _ _ _ _) _) _ _ _)); (fail_if_success (with_reducible show wpAny _ _ (exec (Stmt.While _ _ _ _) _) _ _ _)); (fail_if_success (with_reducible show wpAny _ _ (eval (Expr.ListComp _ _ _ _) _) _ _ _)); (fail_if_success (with_reducible show wpAny _ _ (exec (Stmt.Assign _ (Expr.ListComp _ _ _ _) _) _) _ _ _)); (fail_if_success (with_reducible show wpAny _ _ (call (Value.type "range") _ _) _ _ _)); (fail_if_success (with_reducible show wpAny _ _ (pyIter _) _ _ _)); first | (k_unfold; (try dsimp only)) | (k_end; kc_close) | walk1 | (dsimp only; walk1) | (leave1; walk_say "STEP leave1"; (try dsimp only)) | fail "no step"))
      (refine' nameG_K F' ?k1 ?k2 ?k3 ?_ ?k4 ?k5 ?k6 ?k7; (case k4 => rfl); (case k5 => rfl); (case k6 => rfl); (case k7 => decide); (case k1 => k_asm); (case k2 => k_asm); (case k3 => k_is))
      (repeat' ((fail_if_success (with_reducible show wpAny _ _ (eval (Expr.Name _ _) _) _ _ _)); (fail_if_success (with_reducible show wpAny _ _ (exec (Stmt.For _ _ _ _ _) _) _ _ _)); (fail_if_success (with_reducible show wpAny _ _ (exec (Stmt.While _ _ _ _) _) _ _ _)); (fail_if_success (with_reducible show wpAny _ _ (eval (Expr.ListComp _ _ _ _) _) _ _ _)); (fail_if_success (with_reducible show wpAny _ _ (exec (Stmt.Assign _ (Expr.ListComp _ _ _ _) _) _) _ _ _)); (fail_if_success (with_reducible show wpAny _ _ (call (Value.type "range") _ _) _ _ _)); (fail_if_success (with_reducible show wpAny _ _ (pyIter _) _ _ _)); first | (k_unfold; (try dsimp only)) | (k_end; kc_close) | walk1 | (dsimp only; walk1) | (leave1; walk_say "STEP leave1"; (try dsimp only)) | fail "no step"))
      refine ldVarK (hnC h10 (N10 _ (.tail _ (.tail _ (.tail _ (.head _))))).1) hm ?_
      (repeat' ((fail_if_success (with_reducible show wpAny _ _ (call (Value.ref _) _) _ _ _)); (fail_if_success (with_reducible show wpAny _ _ (eval (Expr.Name _ _) _) _ _ _)); (fail_if_success (with_reducible show wpAny _ _ (exec (Stmt.For _ _ _ _ _) _) _ _ _)); (fail_if_success (with_reducible show wpAny _ _ (exec (Stmt.While _ _ _ _) _) _ _ _)); (fail_if_success (with_reducible show wpAny _ _ (eval (Expr.ListComp _ _ _ _) _) _ _ _)); (fail_if_success (with_reducible show wpAny _ _ (exec (Stmt.Assign _ (Expr.ListComp _ _ _ _) _) _) _ _ _)); (fail_if_success (with_reducible show wpAny _ _ (call (Value.type "range") _ _) _ _ _)); (fail_if_success (with_reducible show wpAny _ _ (pyIter _) _ _ _)); first | (k_unfold; (try dsimp only)) | (k_end; kc_close) | walk1 | (dsimp only; walk1) | (leave1; walk_say "STEP leave1"; (try dsimp only)) | fail "no step"))
      refine tell_use K0 F' KX N10 T rfl rfl (by ((simp only [depth_under_make, depth_under_kw, depth_in1, depth_deeper, depth_caller, recursionLimit] at *); omega)) (by ((have hcL9 := cLine_is); (simp only [units_in1, units_deeper, Around.mark_units, units_caller] at *); omega)) (lpc_tells w _ _ _ a c kind mk t1 t2 n1 n2 vs _ g3 (marks_ok _ g4).1 g5 (.tail _ ma) (.tail _ mc')) (fun p hp => hp) ?_
      rintro r11 news11 h11 tk11 F11 N11 ⟨l2, items2, nr2, rfl, hit2, rfl, hoff11⟩
      k_unfold
      (try dsimp only)
      obtain ⟨ds, c1, c2, ⟨as1, rd1⟩, ⟨as2, rd2⟩⟩ := pieces_eq (h := h11) (k := 7) g4 (kinds_ok _ g3).2.2.1 g5 (fun v hv => by
        obtain ⟨j, hj, rfl⟩ := List.mem_iff_getElem.mp hv
        exact ((g8 j _ _ _ (List.getElem?_eq_getElem hj) (List.getElem?_eq_getElem (by omega)) (List.getElem?_eq_getElem (by omega))).mono (fun p hp => .tail _ (.tail _ (.tail _ (.tail _ (.tail _ (.tail _ (hLB _ hp)))))))).data N11) hit hit2
      have hcl : (PyData.list ds).canLay0 = true := by rw [PyData.canLay0, c1]
      have hsh : SeqAt.shaped (.list ds) = true := by
        rw [SeqAt.shaped, hcl, Bool.true_and, decide_eq_true_eq, PyData.depth]; omega
      refine ne_dataH (.list (N11.get (.tail _ (.head _))) rfl rfl rd1) (.list (N11.get (.head _)) rfl rfl rd2) (da := .list ds) (db := .list ds) hsh hsh ?_ ?_
      · ((have hcL9 := cLine_is); (simp only [units_in1, units_deeper, Around.mark_units, units_caller] at *); omega)
      rw [SeqAt.eqv_refl _ hcl]
      (repeat' ((fail_if_success (with_reducible show wpAny _ _ (exec (Stmt.For _ _ _ _ _) _) _ _ _)); (fail_if_success (with_reducible show wpAny _ _ (exec (Stmt.While _ _ _ _) _) _ _ _)); (fail_if_success (with_reducible show wpAny _ _ (eval (Expr.ListComp _ _ _ _) _) _ _ _)); (fail_if_success (with_reducible show wpAny _ _ (exec (Stmt.Assign _ (Expr.ListComp _ _ _ _) _) _) _ _ _)); (fail_if_success (with_reducible show wpAny _ _ (call (Value.type "range") _ _) _ _ _)); (fail_if_success (with_reducible show wpAny _ _ (pyIter _) _ _ _)); first | (k_unfold; (try dsimp only)) | (k_end; kc_close) | walk1 | (dsimp only; walk1) | (leave1; walk_say "STEP leave1"; (try dsimp only)) | fail "no step"))
      exact FiltEnd.intro F11 (fun p hp => N11 p (.tail _ (.tail _ hp)))
    · intro h7 tk7 D7 F7 N7 off7
      (repeat' ((fail_if_success (with_reducible show wpAny _ _ (call (Value.ref _) _) _ _ _)); (fail_if_success (with_reducible show wpAny _ _ (exec (Stmt.For _ _ _ _ _) _) _ _ _)); (fail_if_success (with_reducible show wpAny _ _ (exec (Stmt.While _ _ _ _) _) _ _ _)); (fail_if_success (with_reducible show wpAny _ _ (eval (Expr.ListComp _ _ _ _) _) _ _ _)); (fail_if_success (with_reducible show wpAny _ _ (exec (Stmt.Assign _ (Expr.ListComp _ _ _ _) _) _) _ _ _)); (fail_if_success (with_reducible show wpAny _ _ (call (Value.type "range") _ _) _ _ _)); (fail_if_success (with_reducible show wpAny _ _ (pyIter _) _ _ _)); first | (k_unfold; (try dsimp only)) | (k_end; kc_close) | walk1 | (dsimp only; walk1) | (leave1; walk_say "STEP leave1"; (try dsimp only)) | fail "no step"))
      (rename News s₁.heap _ _ _ => lN8); (rename Fr s₁.heap _ _ _ => lF8)
      refine tell_use K0 lF8 KX lN8 T rfl rfl (by ((simp only [depth_under_make, depth_under_kw, depth_in1, depth_deeper, depth_caller, recursionLimit] at *); omega)) (by ((have hcL9 := cLine_is); (simp only [units_in1, units_deeper, Around.mark_units, units_caller] at *); omega)) (wp_tells w _ _ _ 3 (.ref gW) due szW _ (hpW.mono fun p hp => .tail _ (.tail _ (.tail _ (hLB p hp)))) (by decide) (Nat.le_trans hpW.bounds.2.1 (by decide)) (Nat.le_trans hpW.bounds.2.2.2 (by decide))) (fun p hp => hp) ?_
      rintro r8 news8 h8 tk8 F8 N8 ⟨⟨t8, rfl⟩, rfl⟩
      (repeat' ((fail_if_success (with_reducible show wpAny _ _ (call (Value.ref _) _) _ _ _)); (fail_if_success (with_reducible show wpAny _ _ (exec (Stmt.For _ _ _ _ _) _) _ _ _)); (fail_if_success (with_reducible show wpAny _ _ (exec (Stmt.While _ _ _ _) _) _ _ _)); (fail_if_success (with_reducible show wpAny _ _ (eval (Expr.ListComp _ _ _ _) _) _ _ _)); (fail_if_success (with_reducible show wpAny _ _ (exec (Stmt.Assign _ (Expr.ListComp _ _ _ _) _) _) _ _ _)); (fail_if_success (with_reducible show wpAny _ _ (call (Value.type "range") _ _) _ _ _)); (fail_if_success (with_reducible show wpAny _ _ (pyIter _) _ _ _)); first | (k_unfold; (try dsimp only)) | (k_end; kc_close) | walk1 | (dsimp only; walk1) | (leave1; walk_say "STEP leave1"; (try dsimp only)) | fail "no step"))
      have ed : (due == due) = true := by simp
      rw [ed]
      exact hQ _ _ _ F8
end Mine
namespace Mine
local macro_rules | `(tactic| k_all) => `(tactic| assumption)
local macro_rules | `(tactic| k_mem) => `(tactic| assumption)
theorem first_text : Str.ofString "(" ++ joined (signOf (Str.ofString "choice")) [Str.ofString "a" ++ Str.ofString "?", Str.ofString "b" ++ Str.ofString ""] ++ Str.ofString ")" ++ Str.ofString "*" = Str.ofString "(a?|b)*" := by decide +kernel
theorem first_part {D0 D1 D2 D3 : Addr} {a1 a2 a3 b1 b2 b3 c1 c2 : Tok} {x : Addr × Obj} {rest : Led} :
    PartIn ((D3, tupOf [.str (Str.ofString "choice") c1, .ref D2, .str (Str.ofString "*") c2] 0) :: (D2, tupOf [.ref D0, .ref D1] 0) :: x :: (D1, tupOf [.str (Str.ofString "name") b1, .str (Str.ofString "b") b2, .str (Str.ofString "") b3] 0) :: (D0, tupOf [.str (Str.ofString "name") a1, .str (Str.ofString "a") a2, .str (Str.ofString "?") a3] 0) :: rest) 1 (.ref D3) (Str.ofString "(a?|b)*") 8 := by
  rw [← first_text]
  refine .group (n1 := 0) (n2 := 0) (vs := [.ref D0, .ref D1]) (ns := [1, 1]) (.head _) (.tail _ (.head _)) (by simp [kinds]) (by simp [marks]) (by simp) rfl rfl ?_
  intro i v t n hv ht hn
  match i with
  | 0 =>
    simp at hv ht hn; subst hv; subst ht; subst hn
    exact .name (.tail _ (.tail _ (.tail _ (.tail _ (.head _))))) (by simp [names]) (by simp [marks])
  | 1 =>
    simp at hv ht hn; subst hv; subst ht; subst hn
    exact .name (.tail _ (.tail _ (.tail _ (.head _)))) (by simp [names]) (by simp [marks])
  | i + 2 => simp at hv
theorem news_last {h₀ h : Heap} {L : Addr} {x1 x2 x3 x4 x5 y : Addr × Obj} (N : News h₀ L h [x1, x2, x3, x4, x5, y]) : News h₀ L h [y] := fun p hp => N p (by
  rw [List.mem_singleton.mp hp]; simp)
theorem off_swap1 {I lx : Addr} {o o' : Obj} (h : Off I [(lx, o)]) : Off I [(lx, o')] := off_swap h
theorem news_mid {h₀ h : Heap} {L : Addr} {x y c : Addr × Obj} {tl : Led} (N : News h₀ L h (x :: y :: (tl ++ [c]))) : News h₀ L h (y :: c :: tl) := fun p hp => N p (by
  simp only [List.mem_cons, List.mem_append] at hp ⊢
  rcases hp with h | h | h <;> simp [h])
theorem off_five {b C : Addr} {o4 oc : Obj} {tl : Led} (hoff : Off b [(C, oc)]) (hnew : NewOver tl [(b, o4), (C, oc)]) : Off b ((C, oc) :: tl) := fun p hp => by
  rcases List.mem_cons.mp hp with rfl | hp
  · exact hoff _ (.head _)
  · exact Nat.ne_of_gt (hnew p hp _ (.head _))
theorem Gb_up (d : Nat) : Gb d ≤ Gb (d + 1) := by show Gb d ≤ 3 * Gb d + 1; omega
theorem ResIn.up {news : Led} {d : Nat} {v tv : Value} {text : Str} {gs : List Value} (h : ResIn news d v tv text gs) : ResIn news (d + 1) v tv text gs := by
  obtain ⟨a, tk, gl, n3, ng, sz, e, h1, h2, h3, h4, h5⟩ := h
  exact ⟨a, tk, gl, n3, ng, sz, e, h1, h2.up, h3, Nat.le_trans h4 (Gb_up d), fun g hg => (h5 g hg).up⟩
theorem news_drop {h₀ h : Heap} {L : Addr} {x y c : Addr × Obj} {tl8 tl5 : Led} (N : News h₀ L h (x :: y :: (tl8 ++ c :: tl5))) : ∃ TL, News h₀ L h (x :: TL) ∧ (∀ p ∈ tl8, p ∈ TL) ∧ ∀ p ∈ tl5, p ∈ TL :=
  ⟨tl8 ++ tl5, fun p hp => N p (by
    simp only [List.mem_cons, List.mem_append] at hp ⊢
    rcases hp with h | h | h <;> simp [h]), fun p hp => List.mem_append.mpr (.inl hp), fun p hp => List.mem_append.mpr (.inr hp)⟩
theorem all_first {tl5 tl8 TL : Led} {r5 tv5 : Value} {text5 : Str} {gs5 acc : List Value} {items : List (Value × Str × List Value)} (h5 : ResIn tl5 2 r5 tv5 text5 gs5) (h8 : All2 (fun v (x : Value × Str × List Value) => ResIn tl8 1 v x.1 x.2.1 x.2.2) acc items)
    (s5 : ∀ p ∈ tl5, p ∈ TL) (s8 : ∀ p ∈ tl8, p ∈ TL) : All2 (fun v (x : Value × Str × List Value) => ResIn TL 2 v x.1 x.2.1 x.2.2) (r5 :: acc) ((tv5, text5, gs5) :: items) :=
  All2.cons (h5.mono s5) (h8.imp fun _ _ h => (h.mono s8).up)
theorem news_plus {h₀ h : Heap} {L l l0 : Addr} {r : Value} {acc : List Value} {rest : Led} {o : Obj} (N : News h₀ L h ((l, listOf ([r] ++ acc).toArray 0) :: (l0, o) :: rest)) : News h₀ L h ((l, listOf (r :: acc).toArray 0) :: rest) := fun p hp => by
  rcases List.mem_cons.mp hp with rfl | hp
  · exact N _ (.head _)
  · exact N _ (.tail _ (.tail _ hp))
theorem name_whole {h₀ h : Heap} {L g d : Addr} {o1 o2 : Obj} {rest : Led} (_N : News h₀ L h ((g, o1) :: (d, o2) :: rest)) : ∃ g' d', g' = g ∧ d' = d := ⟨g, d, rfl, rfl⟩
theorem whole_in {h₀ h : Heap} {L : Addr} {x y z D : Addr × Obj} {TL : Led} (N : News h₀ L h (x :: y :: z :: D :: TL)) : ∃ LB, News h₀ L h (D :: LB) ∧ x ∈ LB ∧ y ∈ LB ∧ ∀ p ∈ TL, p ∈ LB :=
  ⟨x :: y :: TL, fun p hp => N p (by
    simp only [List.mem_cons] at hp ⊢
    rcases hp with h | h | h | h <;> simp [h]), .head _, .tail _ (.head _), fun p hp => .tail _ (.tail _ hp)⟩
theorem news_tail {h₀ h : Heap} {L : Addr} {x : Addr × Obj} {r : Led} (N : News h₀ L h (x :: r)) : News h₀ L h r := fun p hp => N p (.tail _ hp)
theorem kinds_cases {kd : Str} (h : kd ∈ kinds) : kd = Str.ofString "seq" ∨ kd = Str.ofString "choice" := by simpa [kinds] using h
def SignEnd (kd : Str) (s : Shared) (h : Heap) (v : Value) (s' : Shared) : Prop := ∃ t tk, v = .str (signOf kd) t ∧ s' = { s with heap := h, toks := tk }
theorem SignEnd.seq {s : Shared} {h : Heap} {t tk : Nat} : SignEnd (Str.ofString "seq") s h (.str (Str.ofString ",") t) { s with heap := h, toks := tk } := ⟨t, tk, by rw [signOf_seq], rfl⟩
theorem SignEnd.choice {s : Shared} {h : Heap} {t tk : Nat} : SignEnd (Str.ofString "choice") s h (.str (Str.ofString "|") t) { s with heap := h, toks := tk } := ⟨t, tk, by rw [signOf_choice], rfl⟩
theorem kind_of {r : Value} {a1 a2 : Tok} (h : r ∈ [Value.str (Str.ofString "seq") a1, .str (Str.ofString "choice") a2]) : ∃ kd tk, r = .str kd tk ∧ kd ∈ kinds := by
  simp only [List.mem_cons, List.not_mem_nil, or_false] at h
  rcases h with rfl | rfl <;> exact ⟨_, _, rfl, by simp [kinds]⟩
set_option maxHeartbeats 16000000 in
theorem law_holds : PySem.Challenge.rw_xm0646_01.Holds := hd (by
  k_go0
  all_goals try k_fold
  rename_i w s₀ s₁ mg mb G Y fa oFn pm doc hoFn hg KX X V GL T BT TE TW wa wb M cdr wc hcdr nsL hs0 hlay0 hL1 hr1 hl2 wd we lA vsA wf hL ra w1 r0 hI hr hc1 hc2 K0 hD hh tk1 F0 oc0 hcell N0 X0
  replace K0 : Below callerA s₁.heap [] s₁.heap := K0
  (rename Heap.IsList _ _ _ => hsl); (rename IntsAre _ _ => hsi); (rename ¬ _ < _ => hs63)
  (repeat' ((fail_if_success (with_reducible show wpAny _ _ (call (Value.ref _) _) _ _ _)); (fail_if_success (with_reducible show wpAny _ _ (exec (Stmt.For _ _ _ _ _) _) _ _ _)); (fail_if_success (with_reducible show wpAny _ _ (exec (Stmt.While _ _ _ _) _) _ _ _)); (fail_if_success (with_reducible show wpAny _ _ (eval (Expr.ListComp _ _ _ _) _) _ _ _)); (fail_if_success (with_reducible show wpAny _ _ (exec (Stmt.Assign _ (Expr.ListComp _ _ _ _) _) _) _ _ _)); (fail_if_success (with_reducible show wpAny _ _ (call (Value.type "range") _ _) _ _ _)); (fail_if_success (with_reducible show wpAny _ _ (pyIter _) _ _ _)); first | (k_unfold; (try dsimp only)) | (k_end; kc_close) | walk1 | (dsimp only; walk1) | (leave1; walk_say "STEP leave1"; (try dsimp only)) | fail "no step"))
  (rename Fr _ _ _ _ => lF); (rename News _ _ _ _ => lN)
  refine tell_use (by assumption) lF (by assumption) lN (by assumption) rfl rfl (by ((simp only [depth_under_make, depth_under_kw, depth_in1, depth_deeper, depth_caller, recursionLimit] at *); omega)) (by ((have hcL9 := cLine_is); (simp only [units_in1, units_deeper, Around.mark_units, units_caller] at *); omega)) (wp_tells _ _ _ _ 1 _ _ 8 _ first_part (by decide) (by decide +kernel) (by decide)) (fun p hp => hp) ?_
  rintro r news' h' tk' F' N' ⟨⟨tkr, rfl⟩, rfl⟩
  clear lF lN
  (repeat' ((fail_if_success (with_reducible show wpAny _ _ (call (Value.ref _) _) _ _ _)); (fail_if_success (with_reducible show wpAny _ _ (exec (Stmt.For _ _ _ _ _) _) _ _ _)); (fail_if_success (with_reducible show wpAny _ _ (exec (Stmt.While _ _ _ _) _) _ _ _)); (fail_if_success (with_reducible show wpAny _ _ (eval (Expr.ListComp _ _ _ _) _) _ _ _)); (fail_if_success (with_reducible show wpAny _ _ (exec (Stmt.Assign _ (Expr.ListComp _ _ _ _) _) _) _ _ _)); (fail_if_success (with_reducible show wpAny _ _ (call (Value.type "range") _ _) _ _ _)); (fail_if_success (with_reducible show wpAny _ _ (pyIter _) _ _ _)); first | (k_unfold; (try dsimp only)) | (k_end; kc_close) | walk1 | (dsimp only; walk1) | (leave1; walk_say "STEP leave1"; (try dsimp only)) | fail "no step"))
  generalize bindL _ _ _ = m0 at F'
  replace N' := news_last N'
  refine bag_tells _ _ _ _ _ _ _ _ (by omega) _ _ _ _ _ _ _ _ _ _ _ _ _ (by assumption) F' (by assumption) N' (by assumption) rfl rfl (by ((simp only [depth_under_make, depth_under_kw, depth_in1, depth_deeper, depth_caller, recursionLimit] at *); omega)) (by ((have hcL9 := cLine_is); (simp only [units_in1, units_deeper, Around.mark_units, units_caller] at *); omega)) hsl hsi ?_
  intro b o h2 tk2 F2 N2 hbo hoff
  clear F' N'
  (repeat' ((fail_if_success (with_reducible show wpAny _ _ (call (Value.ref _) _) _ _ _)); (fail_if_success (with_reducible show wpAny _ _ (exec (Stmt.For _ _ _ _ _) _) _ _ _)); (fail_if_success (with_reducible show wpAny _ _ (exec (Stmt.While _ _ _ _) _) _ _ _)); (fail_if_success (with_reducible show wpAny _ _ (eval (Expr.ListComp _ _ _ _) _) _ _ _)); (fail_if_success (with_reducible show wpAny _ _ (exec (Stmt.Assign _ (Expr.ListComp _ _ _ _) _) _) _ _ _)); (fail_if_success (with_reducible show wpAny _ _ (call (Value.type "range") _ _) _ _ _)); (fail_if_success (with_reducible show wpAny _ _ (pyIter _) _ _ _)); first | (k_unfold; (try dsimp only)) | (k_end; kc_close) | walk1 | (dsimp only; walk1) | (leave1; walk_say "STEP leave1"; (try dsimp only)) | fail "no step"))
  (rename _ = Data.cell _ => hcd)
  refine stCN (own := [(b, o)]) (rest := []) F2 N2 rfl hcd ?_ ?_ ?_
  · exact fun p hp => by rw [List.mem_singleton.mp hp]; exact (hoff _ (.head _)).symm
  · exact fun p hp => nomatch hp
  clear hcd F2 N2
  intro h3 oc F3 N3 hcd
  replace hoff := off_swap1 (o' := oc) hoff
  (repeat' ((fail_if_success (with_reducible show wpAny _ _ (call (Value.ref _) _) _ _ _)); (fail_if_success (with_reducible show wpAny _ _ (exec (Stmt.For _ _ _ _ _) _) _ _ _)); (fail_if_success (with_reducible show wpAny _ _ (exec (Stmt.While _ _ _ _) _) _ _ _)); (fail_if_success (with_reducible show wpAny _ _ (eval (Expr.ListComp _ _ _ _) _) _ _ _)); (fail_if_success (with_reducible show wpAny _ _ (exec (Stmt.Assign _ (Expr.ListComp _ _ _ _) _) _) _ _ _)); (fail_if_success (with_reducible show wpAny _ _ (call (Value.type "range") _ _) _ _ _)); (fail_if_success (with_reducible show wpAny _ _ (pyIter _) _ _ _)); first | (k_unfold; (try dsimp only)) | (k_end; kc_close) | walk1 | (dsimp only; walk1) | (leave1; walk_say "STEP leave1"; (try dsimp only)) | fail "no step"))
  (rename Fr _ _ _ _ => lF); (rename News _ _ _ _ => lN); (rename ∀ p ∈ [(b, o)] ++ _, _ => ltl)
  refine one_use (by assumption) lF (by assumption) lN (by assumption) rfl rfl (by ((simp only [depth_under_make, depth_under_kw, depth_in1, depth_deeper, depth_caller, recursionLimit] at *); omega)) (by ((have hcL9 := cLine_is); (simp only [units_in1, units_deeper, Around.mark_units, units_caller] at *); omega)) hbo (by simp) hoff (Nat.ne_of_gt (ltl (b, o) (.head _))) ?_
  intro r4 o4 h4 tk4 hr4 ho4 F4 N4
  obtain ⟨kd, tkk, rfl, hkd⟩ := kind_of hr4
  clear lF lN
  (repeat' ((fail_if_success (with_reducible show wpAny _ _ (call (Value.ref _) _) _ _ _)); (fail_if_success (with_reducible show wpAny _ _ (exec (Stmt.For _ _ _ _ _) _) _ _ _)); (fail_if_success (with_reducible show wpAny _ _ (exec (Stmt.While _ _ _ _) _) _ _ _)); (fail_if_success (with_reducible show wpAny _ _ (eval (Expr.ListComp _ _ _ _) _) _ _ _)); (fail_if_success (with_reducible show wpAny _ _ (exec (Stmt.Assign _ (Expr.ListComp _ _ _ _) _) _) _ _ _)); (fail_if_success (with_reducible show wpAny _ _ (call (Value.type "range") _ _) _ _ _)); (fail_if_success (with_reducible show wpAny _ _ (pyIter _) _ _ _)); first | (k_unfold; (try dsimp only)) | (k_end; kc_close) | walk1 | (dsimp only; walk1) | (leave1; walk_say "STEP leave1"; (try dsimp only)) | fail "no step"))
  (rename Fr _ _ _ _ => lF); (rename News _ _ _ _ => lN)
  refine tell_use (by assumption) lF (by assumption) lN (by assumption) rfl rfl (by ((simp only [depth_under_make, depth_under_kw, depth_in1, depth_deeper, depth_caller, recursionLimit] at *); omega)) (by ((have hcL9 := cLine_is); (simp only [units_in1, units_deeper, Around.mark_units, units_caller] at *); omega)) (part2 _ _ _ _ b o4 _ _ ho4 hoff) (fun p hp => hp) ?_
  rintro r5 news5 h5 tk5 F5 N5 ⟨o5, tl5, tv5, text5, gs5, ho5, rfl, hnew5, hres5⟩
  clear lF lN
  (repeat' ((fail_if_success (with_reducible show wpAny _ _ (call (Value.ref _) _) _ _ _)); (fail_if_success (with_reducible show wpAny _ _ (exec (Stmt.For _ _ _ _ _) _) _ _ _)); (fail_if_success (with_reducible show wpAny _ _ (exec (Stmt.While _ _ _ _) _) _ _ _)); (fail_if_success (with_reducible show wpAny _ _ (eval (Expr.ListComp _ _ _ _) _) _ _ _)); (fail_if_success (with_reducible show wpAny _ _ (exec (Stmt.Assign _ (Expr.ListComp _ _ _ _) _) _) _ _ _)); (fail_if_success (with_reducible show wpAny _ _ (call (Value.type "range") _ _) _ _ _)); (fail_if_success (with_reducible show wpAny _ _ (pyIter _) _ _ _)); first | (k_unfold; (try dsimp only)) | (k_end; kc_close) | walk1 | (dsimp only; walk1) | (leave1; walk_say "STEP leave1"; (try dsimp only)) | fail "no step"))
  (rename Fr _ _ _ _ => lF); (rename News _ _ _ _ => lN)
  have N6 := news_mid lN
  clear lN
  (refine' AssignCompM (h₀ := s₁.heap) (L := s₁.heap.objs.size) ?hsw ?hclos ?hcell ?hkind ?hnames ?hx ?hy ?hp ?hL ?h ?hs; (case hsw => with_unfolding_all rfl); (case hclos => with_unfolding_all rfl); (case hcell => decide); (case hkind => with_unfolding_all rfl); (case hnames => decide); (case hx => with_unfolding_all rfl); (case hy => with_unfolding_all rfl); (case hp => with_unfolding_all rfl); (case hL => exact rfl); (case hs => intro _; with_unfolding_all rfl))
  (repeat' ((fail_if_success (with_reducible show wpAny _ _ (call (Value.ref _) _) _ _ _)); (fail_if_success (with_reducible show wpAny _ _ (exec (Stmt.For _ _ _ _ _) _) _ _ _)); (fail_if_success (with_reducible show wpAny _ _ (exec (Stmt.While _ _ _ _) _) _ _ _)); (fail_if_success (with_reducible show wpAny _ _ (eval (Expr.ListComp _ _ _ _) _) _ _ _)); (fail_if_success (with_reducible show wpAny _ _ (exec (Stmt.Assign _ (Expr.ListComp _ _ _ _) _) _) _ _ _)); (fail_if_success (with_reducible show wpAny _ _ (call (Value.type "range") _ _) _ _ _)); (fail_if_success (with_reducible show wpAny _ _ (pyIter _) _ _ _)); first | (k_unfold; (try dsimp only)) | (k_end; kc_close) | walk1 | (dsimp only; walk1) | (leave1; walk_say "STEP leave1"; (try dsimp only)) | fail "no step"))
  have hoff5 : Off b ((s₁.heap.objs.size + 1, oc) :: tl5) := off_five hoff hnew5
  refine pick_use (by assumption) lF (by assumption) N6 (by assumption) rfl rfl (by ((simp only [depth_under_make, depth_under_kw, depth_in1, depth_deeper, depth_caller, recursionLimit] at *); omega)) (by ((have hcL9 := cLine_is); (simp only [units_in1, units_deeper, Around.mark_units, units_caller] at *); omega)) ho5 (by omega) hoff5 ?_
  intro k7 tk7 o7 h7 tk7' hk70 hk71 ho7 F7 N7
  clear lF N6
  (repeat' ((fail_if_success (with_reducible show wpAny _ _ (call (Value.ref _) _) _ _ _)); (fail_if_success (with_reducible show wpAny _ _ (exec (Stmt.For _ _ _ _ _) _) _ _ _)); (fail_if_success (with_reducible show wpAny _ _ (exec (Stmt.While _ _ _ _) _) _ _ _)); (fail_if_success (with_reducible show wpAny _ _ (eval (Expr.ListComp _ _ _ _) _) _ _ _)); (fail_if_success (with_reducible show wpAny _ _ (exec (Stmt.Assign _ (Expr.ListComp _ _ _ _) _) _) _ _ _)); (fail_if_success (with_reducible show wpAny _ _ (call (Value.type "range") _ _) _ _ _)); (fail_if_success (with_reducible show wpAny _ _ (pyIter _) _ _ _)); first | (k_unfold; (try dsimp only)) | (k_end; kc_close) | walk1 | (dsimp only; walk1) | (leave1; walk_say "STEP leave1"; (try dsimp only)) | fail "no step"))
  (rename Fr _ _ _ _ => lF); (rename News _ _ _ _ => lN)
  refine range1_rows lF lN (fun h8 tk8 t8 u8 v8 hR8 F8 N8 _ => ?_)
  clear lF lN
  (repeat' ((fail_if_success (with_reducible show wpAny _ _ (call (Value.ref _) _) _ _ _)); (fail_if_success (with_reducible show wpAny _ _ (exec (Stmt.For _ _ _ _ _) _) _ _ _)); (fail_if_success (with_reducible show wpAny _ _ (exec (Stmt.While _ _ _ _) _) _ _ _)); (fail_if_success (with_reducible show wpAny _ _ (eval (Expr.ListComp _ _ _ _) _) _ _ _)); (fail_if_success (with_reducible show wpAny _ _ (exec (Stmt.Assign _ (Expr.ListComp _ _ _ _) _) _) _ _ _)); (fail_if_success (with_reducible show wpAny _ _ (call (Value.type "range") _ _) _ _ _)); (fail_if_success (with_reducible show wpAny _ _ (pyIter _) _ _ _)); first | (k_unfold; (try dsimp only)) | (k_end; kc_close) | walk1 | (dsimp only; walk1) | (leave1; walk_say "STEP leave1"; (try dsimp only)) | fail "no step"))
  refine' compAt_range (InJ b ((s₁.heap.objs.size + 1, oc) :: tl5) 1 ((s₁.heap.objs.size + 1, oc) :: tl5)) ?hh hR8 ?hs ?hn ?hz F8 N8 ?hj ?turn ?done (n := k7.toNat)
  case hh => exact rfl
  case hs => exact small_one (by decide) (by decide) (by omega) (by omega)
  case hn => rw [rangeSize_nat]; simp
  case hz => omega
  case hj => exact ⟨o7, [], [], ho7, rfl, fun _ hp => (nomatch hp), rfl, fun i a b hx => by simp at hx⟩
  case turn =>
    rintro i acc nx h tk I D C oI oC nD hi ⟨o8, tl, items, ho8, rfl, hnew, hall⟩ hacc p1 p2 p3 F' N' E'
    (repeat' ((fail_if_success (with_reducible show wpAny _ _ (eval (Expr.Name _ _) _) _ _ _)); (fail_if_success (with_reducible show wpAny _ _ (exec (Stmt.For _ _ _ _ _) _) _ _ _)); (fail_if_success (with_reducible show wpAny _ _ (exec (Stmt.While _ _ _ _) _) _ _ _)); (fail_if_success (with_reducible show wpAny _ _ (eval (Expr.ListComp _ _ _ _) _) _ _ _)); (fail_if_success (with_reducible show wpAny _ _ (exec (Stmt.Assign _ (Expr.ListComp _ _ _ _) _) _) _ _ _)); (fail_if_success (with_reducible show wpAny _ _ (call (Value.type "range") _ _) _ _ _)); (fail_if_success (with_reducible show wpAny _ _ (pyIter _) _ _ _)); first | (k_unfold; (try dsimp only)) | (k_end; kc_close) | walk1 | (dsimp only; walk1) | (leave1; walk_say "STEP leave1"; (try dsimp only)) | fail "no step"))
    (refine' nameG_K F' ?k1 ?k2 ?k3 ?_ ?k4 ?k5 ?k6 ?k7; (case k4 => rfl); (case k5 => rfl); (case k6 => rfl); (case k7 => decide); (case k1 => k_asm); (case k2 => k_asm); (case k3 => k_is))
    (repeat' ((fail_if_success (with_reducible show wpAny _ _ (eval (Expr.Name _ _) _) _ _ _)); (fail_if_success (with_reducible show wpAny _ _ (exec (Stmt.For _ _ _ _ _) _) _ _ _)); (fail_if_success (with_reducible show wpAny _ _ (exec (Stmt.While _ _ _ _) _) _ _ _)); (fail_if_success (with_reducible show wpAny _ _ (eval (Expr.ListComp _ _ _ _) _) _ _ _)); (fail_if_success (with_reducible show wpAny _ _ (exec (Stmt.Assign _ (Expr.ListComp _ _ _ _) _) _) _ _ _)); (fail_if_success (with_reducible show wpAny _ _ (call (Value.type "range") _ _) _ _ _)); (fail_if_success (with_reducible show wpAny _ _ (pyIter _) _ _ _)); first | (k_unfold; (try dsimp only)) | (k_end; kc_close) | walk1 | (dsimp only; walk1) | (leave1; walk_say "STEP leave1"; (try dsimp only)) | fail "no step"))
    have cb : h.IsCell (s₁.heap.objs.size + 1) (some (.ref b)) := ⟨oc, (N' (s₁.heap.objs.size + 1, oc) (.tail _ (.tail _ (.tail _ (.tail _ (List.mem_append.mpr (.inr (.head _)))))))).1, hcd⟩
    refine' ldCellK (v := .ref b) ?hc ?hv ?_ ?hk ?hl ?hd
    case hc => exact rfl
    case hv => exact cb
    case hk => rfl
    case hl => rfl
    case hd => decide
    (repeat' ((fail_if_success (with_reducible show wpAny _ _ (call (Value.ref _) _) _ _ _)); (fail_if_success (with_reducible show wpAny _ _ (eval (Expr.Name _ _) _) _ _ _)); (fail_if_success (with_reducible show wpAny _ _ (exec (Stmt.For _ _ _ _ _) _) _ _ _)); (fail_if_success (with_reducible show wpAny _ _ (exec (Stmt.While _ _ _ _) _) _ _ _)); (fail_if_success (with_reducible show wpAny _ _ (eval (Expr.ListComp _ _ _ _) _) _ _ _)); (fail_if_success (with_reducible show wpAny _ _ (exec (Stmt.Assign _ (Expr.ListComp _ _ _ _) _) _) _ _ _)); (fail_if_success (with_reducible show wpAny _ _ (call (Value.type "range") _ _) _ _ _)); (fail_if_success (with_reducible show wpAny _ _ (pyIter _) _ _ _)); first | (k_unfold; (try dsimp only)) | (k_end; kc_close) | walk1 | (dsimp only; walk1) | (leave1; walk_say "STEP leave1"; (try dsimp only)) | fail "no step"))
    refine tell_use K0 F' KX N' T rfl rfl (by ((simp only [depth_under_make, depth_under_kw, depth_in1, depth_deeper, depth_caller, recursionLimit] at *); omega)) (by ((have hcL9 := cLine_is); (simp only [units_in1, units_deeper, Around.mark_units, units_caller] at *); omega)) (part1 _ _ _ _ b o8 ((I, oI) :: (D, listOf acc.toArray nD) :: (C, oC) :: (tl ++ (s₁.heap.objs.size + 1, oc) :: tl5)) _ ho8 (off_in hnew p1 p2 p3 hoff5)) (fun p hp => ?_) ?_
    · simp only [List.mem_cons, List.mem_append] at hp ⊢
      rcases hp with h | h | h | h | h | h <;> simp [h]
    rintro r9 news9 h9 tk9 F9 N9 ⟨o9, tl9, tv9, text9, gs9, ho9, rfl, hnew9, hres9⟩
    k_unfold
    exact elt_in F9 N9 p1 p2 p3 hnew hnew9 hall ho9 hres9 (fun p hp => hp)
  case done =>
    rintro acc nx h tk D nD ⟨o8, tl8, items, ho8, rfl, hnew8, hall8⟩ hacc F9 N9 oD
    obtain ⟨TL, N10, hTL8, hTL5⟩ := news_drop N9
    have hall := all_first hres5 hall8 hTL5 hTL8
    obtain ⟨a5, tk5, gl5, n5, ng5, sz5, rfl, hm5, hp5, hg5, hl5, hgr5⟩ := hall.2 0 _ _ rfl rfl
    obtain ⟨xs, ht1, ht2⟩ := tups_of hall
    clear N9 oD hnew8 hall8 hTL8 hTL5 hnew5 hcd ho8 ho7 hbo
    (repeat' ((fail_if_success (with_reducible show wpAny _ _ (call (Value.ref _) _) _ _ _)); (fail_if_success (with_reducible show wpAny _ _ (exec (Stmt.For _ _ _ _ _) _) _ _ _)); (fail_if_success (with_reducible show wpAny _ _ (exec (Stmt.While _ _ _ _) _) _ _ _)); (fail_if_success (with_reducible show wpAny _ _ (eval (Expr.ListComp _ _ _ _) _) _ _ _)); (fail_if_success (with_reducible show wpAny _ _ (exec (Stmt.Assign _ (Expr.ListComp _ _ _ _) _) _) _ _ _)); (fail_if_success (with_reducible show wpAny _ _ (call (Value.type "range") _ _) _ _ _)); (fail_if_success (with_reducible show wpAny _ _ (pyIter _) _ _ _)); first | (k_unfold; (try dsimp only)) | (k_end; kc_close) | walk1 | (dsimp only; walk1) | (leave1; walk_say "STEP leave1"; (try dsimp only)) | fail "no step"))
    (refine' ListComp3 (h₀ := s₁.heap) (L := s₁.heap.objs.size) (fun x => x.1) ?hsel ?hh ?hclos ?hcell ?hkind ?hnames ?l1 ?l2 ?l3 ?lk ?hdb ?h ?hs; (case hsel => intro _ _; rfl); (case hh => exact rfl); (case hclos => with_unfolding_all rfl); (case hcell => decide); (case hkind => with_unfolding_all rfl); (case hnames => decide); (case l1 => with_unfolding_all rfl); (case l2 => with_unfolding_all rfl); (case l3 => with_unfolding_all rfl); (case lk => with_unfolding_all rfl); (case hdb => decide); (case hs => intro _; with_unfolding_all rfl))
    (repeat' ((fail_if_success (with_reducible show wpAny _ _ (call (Value.ref _) _) _ _ _)); (fail_if_success (with_reducible show wpAny _ _ (exec (Stmt.For _ _ _ _ _) _) _ _ _)); (fail_if_success (with_reducible show wpAny _ _ (exec (Stmt.While _ _ _ _) _) _ _ _)); (fail_if_success (with_reducible show wpAny _ _ (eval (Expr.ListComp _ _ _ _) _) _ _ _)); (fail_if_success (with_reducible show wpAny _ _ (exec (Stmt.Assign _ (Expr.ListComp _ _ _ _) _) _) _ _ _)); (fail_if_success (with_reducible show wpAny _ _ (call (Value.type "range") _ _) _ _ _)); (fail_if_success (with_reducible show wpAny _ _ (pyIter _) _ _ _)); first | (k_unfold; (try dsimp only)) | (k_end; kc_close) | walk1 | (dsimp only; walk1) | (leave1; walk_say "STEP leave1"; (try dsimp only)) | fail "no step"))
    dsimp only
    (rename Fr s₁.heap _ _ _ => lF); (rename News s₁.heap _ _ _ => lN)
    have hxl : xs.length = acc.length + 1 := ht1.1.symm
    refine comp3_list (vs := .ref a5 :: acc) (nn := 0) (.head _) (tups_sub ht1 fun p hp => .tail _ (.tail _ hp)) lF (news_plus lN) (by simp; omega) ?_
    intro h11 tk11 D11 nD11 F11 N11 off11
    clear lF lN off11
    replace N11 := news_skip N11
    (repeat' ((fail_if_success (with_reducible show wpAny _ _ (call (Value.ref _) _) _ _ _)); (fail_if_success (with_reducible show wpAny _ _ (exec (Stmt.For _ _ _ _ _) _) _ _ _)); (fail_if_success (with_reducible show wpAny _ _ (exec (Stmt.While _ _ _ _) _) _ _ _)); (fail_if_success (with_reducible show wpAny _ _ (eval (Expr.ListComp _ _ _ _) _) _ _ _)); (fail_if_success (with_reducible show wpAny _ _ (exec (Stmt.Assign _ (Expr.ListComp _ _ _ _) _) _) _ _ _)); (fail_if_success (with_reducible show wpAny _ _ (call (Value.type "range") _ _) _ _ _)); (fail_if_success (with_reducible show wpAny _ _ (pyIter _) _ _ _)); first | (k_unfold; (try dsimp only)) | (k_end; kc_close) | walk1 | (dsimp only; walk1) | (leave1; walk_say "STEP leave1"; (try dsimp only)) | fail "no step"))
    (rename Fr s₁.heap _ _ _ => lF); (rename News s₁.heap _ _ _ => lN)
    obtain ⟨gW, DT, e1, e2⟩ := name_whole lN
    subst e1; subst e2
    obtain ⟨LB, N12, hgW, hDT, hTL⟩ := whole_in lN
    clear lN
    have hitl : items.length ≤ 2 := by have := hall.1; simp at this; omega
    obtain ⟨⟨szW, hpW⟩, hgrW⟩ := group_of hall ht2 hTL hgW hDT hkd (by simp [marks]) (by simp; omega)
    have hm5' := hTL _ hm5
    (refine' ListComp3 (h₀ := s₁.heap) (L := s₁.heap.objs.size) (fun x => x.2.1) ?hsel ?hh ?hclos ?hcell ?hkind ?hnames ?l1 ?l2 ?l3 ?lk ?hdb ?h ?hs; (case hsel => intro _ _; rfl); (case hh => exact rfl); (case hclos => with_unfolding_all rfl); (case hcell => decide); (case hkind => with_unfolding_all rfl); (case hnames => decide); (case l1 => with_unfolding_all rfl); (case l2 => with_unfolding_all rfl); (case l3 => with_unfolding_all rfl); (case lk => with_unfolding_all rfl); (case hdb => decide); (case hs => intro _; with_unfolding_all rfl))
    (repeat' ((fail_if_success (with_reducible show wpAny _ _ (call (Value.ref _) _) _ _ _)); (fail_if_success (with_reducible show wpAny _ _ (exec (Stmt.For _ _ _ _ _) _) _ _ _)); (fail_if_success (with_reducible show wpAny _ _ (exec (Stmt.While _ _ _ _) _) _ _ _)); (fail_if_success (with_reducible show wpAny _ _ (eval (Expr.ListComp _ _ _ _) _) _ _ _)); (fail_if_success (with_reducible show wpAny _ _ (exec (Stmt.Assign _ (Expr.ListComp _ _ _ _) _) _) _ _ _)); (fail_if_success (with_reducible show wpAny _ _ (call (Value.type "range") _ _) _ _ _)); (fail_if_success (with_reducible show wpAny _ _ (pyIter _) _ _ _)); first | (k_unfold; (try dsimp only)) | (k_end; kc_close) | walk1 | (dsimp only; walk1) | (leave1; walk_say "STEP leave1"; (try dsimp only)) | fail "no step"))
    dsimp only
    (rename Fr s₁.heap _ _ _ => lF); (rename News s₁.heap _ _ _ => lN)
    refine comp3_list (vs := .ref a5 :: acc) (nn := 0) (.head _) (tups_sub ht1 fun p hp => .tail _ (.tail _ (hTL p hp))) lF (news_plus lN) (by simp; omega) ?_
    intro h13 tk13 D13 nD13 F13 N13 off13
    clear lF lN off13
    replace N13 := news_skip N13
    generalize hits : ((tv5, text5, gs5) :: items) = its at hall ht2 hpW hgrW
    dsimp only at hm5'
    have hjl : (joined (signOf kd) (its.map (·.2.1))).length ≤ 3003 := by
      have q := joined_len (sg := signOf kd) (ts := its.map (·.2.1)) (Nat.le_of_eq (kinds_ok _ hkd).1) (fun t ht => Nat.le_trans (texts_len hall t ht) (by decide)) its.length
      rw [List.take_of_length_le (by simp)] at q
      have : its.length = acc.length + 1 := hall.1.symm
      omega
    (repeat' ((fail_if_success (with_reducible show wpAny _ _ (eval (Expr.IfExp _ _ _ _) _) _ _ _)); (fail_if_success (with_reducible show wpAny _ _ (call (Value.ref _) _) _ _ _)); (fail_if_success (with_reducible show wpAny _ _ (exec (Stmt.For _ _ _ _ _) _) _ _ _)); (fail_if_success (with_reducible show wpAny _ _ (exec (Stmt.While _ _ _ _) _) _ _ _)); (fail_if_success (with_reducible show wpAny _ _ (eval (Expr.ListComp _ _ _ _) _) _ _ _)); (fail_if_success (with_reducible show wpAny _ _ (exec (Stmt.Assign _ (Expr.ListComp _ _ _ _) _) _) _ _ _)); (fail_if_success (with_reducible show wpAny _ _ (call (Value.type "range") _ _) _ _ _)); (fail_if_success (with_reducible show wpAny _ _ (pyIter _) _ _ _)); first | (k_unfold; (try dsimp only)) | (k_end; kc_close) | walk1 | (dsimp only; walk1) | (leave1; walk_say "STEP leave1"; (try dsimp only)) | fail "no step"))
    refine wpAny_mono (Q := SignEnd kd s₁ h13) ?_ ?_ (fun _ _ e => e)
    · (repeat' ((fail_if_success (with_reducible show wpAny _ _ (exec (Stmt.For _ _ _ _ _) _) _ _ _)); (fail_if_success (with_reducible show wpAny _ _ (exec (Stmt.While _ _ _ _) _) _ _ _)); (fail_if_success (with_reducible show wpAny _ _ (eval (Expr.ListComp _ _ _ _) _) _ _ _)); (fail_if_success (with_reducible show wpAny _ _ (exec (Stmt.Assign _ (Expr.ListComp _ _ _ _) _) _) _ _ _)); (fail_if_success (with_reducible show wpAny _ _ (call (Value.type "range") _ _) _ _ _)); (fail_if_success (with_reducible show wpAny _ _ (pyIter _) _ _ _)); first | (k_unfold; (try dsimp only)) | (k_end; kc_close) | walk1 | (dsimp only; walk1) | (leave1; walk_say "STEP leave1"; (try dsimp only)) | fail "no step"))
      all_goals (
        (rename (kd == Str.ofString "seq") = _ => hkq)
        rcases kinds_cases hkd with rfl | rfl
        · first | exact absurd hkq (by decide) | exact SignEnd.seq
        · first | exact absurd hkq (by decide) | exact SignEnd.choice)
    rintro _ _ ⟨tks, tk14, rfl, rfl⟩
    (repeat' ((fail_if_success (with_reducible show wpAny _ _ (call (Value.ref _) _) _ _ _)); (fail_if_success (with_reducible show wpAny _ _ (exec (Stmt.For _ _ _ _ _) _) _ _ _)); (fail_if_success (with_reducible show wpAny _ _ (exec (Stmt.While _ _ _ _) _) _ _ _)); (fail_if_success (with_reducible show wpAny _ _ (eval (Expr.ListComp _ _ _ _) _) _ _ _)); (fail_if_success (with_reducible show wpAny _ _ (exec (Stmt.Assign _ (Expr.ListComp _ _ _ _) _) _) _ _ _)); (fail_if_success (with_reducible show wpAny _ _ (call (Value.type "range") _ _) _ _ _)); (fail_if_success (with_reducible show wpAny _ _ (pyIter _) _ _ _)); first | (k_unfold; (try dsimp only)) | (k_end; kc_close) | walk1 | (dsimp only; walk1) | (leave1; walk_say "STEP leave1"; (try dsimp only)) | fail "no step"))
    have hts : All2 IsStr (xs.map (·.2.1)) (its.map (·.2.1)) := texts_of ht2
    refine tell_use K0 F13 KX N13 T rfl rfl (by ((simp only [depth_under_make, depth_under_kw, depth_in1, depth_deeper, depth_caller, recursionLimit] at *); omega)) (by ((have hcL9 := cLine_is); (simp only [units_in1, units_deeper, Around.mark_units, units_caller] at *); omega)) (joined_tells w _ _ _ D13 (xs.map (·.2.1)) (its.map (·.2.1)) (signOf kd) tks nD13 _ hts (.head _) ?hlen ?htl ?hsg) (fun p hp => hp) ?_
    case hlen => have := hall.1; simp at this; simp; omega
    case htl => exact fun t ht => Nat.le_trans (texts_len hall t ht) (by decide)
    case hsg => exact Nat.le_of_eq (kinds_ok _ hkd).1
    rintro r15 news15 h15 tk15 F15 N15 ⟨⟨tkj, rfl⟩, rfl⟩
    replace N15 := news_tail N15
    have eT : Str.ofString "(" ++ joined (signOf kd) (its.map (·.2.1)) ++ Str.ofString ")" ++ Str.ofString "+" = Str.ofString "(" ++ joined (signOf kd) (its.map (·.2.1)) ++ Str.ofString ")+" := by
      have e : Str.ofString ")" ++ Str.ofString "+" = Str.ofString ")+" := by decide +kernel
      rw [Str.append_assoc, e]
    rw [eT] at hpW
    (repeat' ((fail_if_success (with_reducible show wpAny _ _ (execs (Stmt.If _ _ _ _ :: _) _) _ _ _)); (fail_if_success (with_reducible show wpAny _ _ (call (Value.ref _) _) _ _ _)); (fail_if_success (with_reducible show wpAny _ _ (exec (Stmt.For _ _ _ _ _) _) _ _ _)); (fail_if_success (with_reducible show wpAny _ _ (exec (Stmt.While _ _ _ _) _) _ _ _)); (fail_if_success (with_reducible show wpAny _ _ (eval (Expr.ListComp _ _ _ _) _) _ _ _)); (fail_if_success (with_reducible show wpAny _ _ (exec (Stmt.Assign _ (Expr.ListComp _ _ _ _) _) _) _ _ _)); (fail_if_success (with_reducible show wpAny _ _ (call (Value.type "range") _ _) _ _ _)); (fail_if_success (with_reducible show wpAny _ _ (pyIter _) _ _ _)); first | (k_unfold; (try dsimp only)) | (k_end; kc_close) | walk1 | (dsimp only; walk1) | (leave1; walk_say "STEP leave1"; (try dsimp only)) | fail "no step"))
    (rename News s₁.heap _ _ _ => lN16); (rename Fr s₁.heap _ _ _ => lF16)
    refine law_tail K0 KX T hall ht1 ht2 hTL hm5' (hp5.mono hTL) hpW hgrW (by omega) lF16 lN16 ?hE ?hQ
    case hE => passes_own
    case hQ =>
      intro h17 tk17 m17 F17
      (repeat' ((fail_if_success (with_reducible show wpAny _ _ (exec (Stmt.For _ _ _ _ _) _) _ _ _)); (fail_if_success (with_reducible show wpAny _ _ (exec (Stmt.While _ _ _ _) _) _ _ _)); (fail_if_success (with_reducible show wpAny _ _ (eval (Expr.ListComp _ _ _ _) _) _ _ _)); (fail_if_success (with_reducible show wpAny _ _ (exec (Stmt.Assign _ (Expr.ListComp _ _ _ _) _) _) _ _ _)); (fail_if_success (with_reducible show wpAny _ _ (call (Value.type "range") _ _) _ _ _)); (fail_if_success (with_reducible show wpAny _ _ (pyIter _) _ _ _)); first | (k_unfold; (try dsimp only)) | (k_end; kc_close) | walk1 | (dsimp only; walk1) | (leave1; walk_say "STEP leave1"; (try dsimp only)) | fail "no step")))
end Mine
set_option maxHeartbeats 8000000 in
theorem PySem.Challenge.cw_xm0646_01_holds : PySem.Challenge.rw_xm0646_01.Holds := by
  exact Mine.law_holds
