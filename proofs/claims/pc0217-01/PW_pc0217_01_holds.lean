import PyProof.Rows.All
import Wide.All
import OpenK.AllK
import Wide.FinOn
import PySem.Challenge.RW_pc0217_01
open PySem PySem.W PyProof.Rows
set_option Elab.async false
set_option maxRecDepth 100000
set_option maxHeartbeats 8000000
namespace Mine
local macro_rules | `(tactic| o_head $_) => `(tactic| assumption)
theorem frag : PySem.Challenge.rw_pc0217_01.row.Holds → True := fun h => by
  have _ : PySem.Challenge.rw_pc0217_01.row.Holds := by k_head
  trivial
end Mine
namespace Mine
local macro_rules | `(tactic| k_room) => `(tactic| ktr_room)
local macro_rules | `(tactic| k_all) => `(tactic| assumption)
theorem scoop_spec {w : World} {p : Program} {loose : List Str} {mean : ExcName → Option Value} {mg mb : Str → Option Value}
    {dp un : Nat} {gd : Option (List Code)} {cn : Str} {cs : Scope} {L a : Addr} {ccd : Value} {cl : List (Str × Addr)} {outer : List Env} {A₀ : Around} {base h₀ : Heap} {m : Str → Option Value}
    {news : List (Addr × Obj)} {g : Obj → List (Addr × Obj)} {s : Shared} {hop : Addr} {va vb many : Int} {ta tb tm : Tok} {n : Nat} {Q E : Value → Shared → Prop}
    (B : Below A₀ base outer h₀) (F : Fr h₀ L s.heap m) (X : (frag.heap_1 w.params).In h₀) (N : News h₀ L s.heap news) (U : UpdF hop (listOf #[.int va ta, .int vb tb] n) news g)
    (T : Top p loose mean mg mb h₀) (hk : cs.kind = .function) (hdp : dp + 10 < recursionLimit) (hun : un + 100 < cLine) (hb0 : 0 ≤ vb) (hb1 : vb < 2147483587) (hm0 : 0 < many) (hm1 : many < 100)
    (ret : ∀ (r a' b' : Int) (t ta' tb' : Tok) (n' : Nat) (h' : Heap) (tk' : Nat), 0 ≤ r → r < many → 0 ≤ b' → b' < 2147483587 → Fr h₀ L h' m → News h₀ L h' (g (listOf #[.int a' ta', .int b' tb'] n')) → Q (.int r t) { s with heap := h', toks := tk' }) :
    wpAny (model PySem.Challenge.rw_pc0217_01.prog w) (ktrTop dp un gd cn cs L a ccd cl outer) (call (.ref 720) [.ref hop, .int many tm]) Q E s := by
  revert X; k_fill; intro X
  obtain ⟨pre, post, rfl, hg, ha, hb⟩ := U.split
  have N1 : News h₀ L s.heap ((hop, listOf #[.int va ta, .int vb tb] n) :: (pre ++ post)) := fun p hp => N p (by
    rcases List.mem_cons.mp hp with rfl | hp
    · simp
    · rcases List.mem_append.mp hp with hp | hp <;> simp [hp])
  have off : ∀ p ∈ pre ++ post, p.1 ≠ hop := fun p hp => (List.mem_append.mp hp).elim (ha p) (hb p)
  have toG : ∀ (h' : Heap) (o' : Obj), News h₀ L h' ((hop, o') :: (pre ++ post)) → News h₀ L h' (g o') := fun h' o' N2 p hp => N2 p (by
    rw [hg] at hp
    rcases List.mem_append.mp hp with hp | hp
    · simp [hp]
    · rcases List.mem_cons.mp hp with rfl | hp <;> simp_all)
  generalize pre ++ post = rest at N1 off toG
  clear U N ha hb hg
  refine wpAny_call ?_
  k_dflt ktr_enter
  k_steps
  · refine ret _ _ _ _ _ _ _ _ _ (fmod_lo _ hm0) (fmod_hi _ hm0) hb0 hb1 (by assumption) (toG _ _ (by assumption))
  · refine ret _ _ _ _ _ _ _ _ _ (fmod_lo _ hm0) (fmod_hi _ hm0) (fmod_lo _ (by decide)) (fmod_hi _ (by decide)) (by assumption) (toG _ _ (by assumption))
end Mine
namespace Mine
open PySem.Calls PySem.Spec PyProof.V
/-- a loop that stands at its iterable; no line of the library knows this word, so the walk stops here -/
def LoopHere (prog : Program) (w : World) (A : Around) (h₀ : Heap) (env : Env) (x : Str) (body : List Stmt) (Q : Flow → Shared → Prop) (E : Value → Shared → Prop) (xv : Value) (s₁ : Shared) : Prop :=
  wpAny (model prog w) A (pyIter xv) (fun it s₂ => LoopAtV prog w A h₀ env x body Q E it s₂) E s₁
/-- what a turn owes -/
def LoopPost (h₀ : Heap) (L I : Addr) (oI : Obj) (ps : List (Str × Value)) (J : List (Addr × Obj) → Prop) (s₁ : Shared) (Q : Flow → Shared → Prop) (f : Flow) (s₂ : Shared) : Prop :=
  match f with
  | .ret v => Q (.ret v) s₂
  | .brk => Q .next s₂
  | _ => ∃ h' tk m' news', s₂ = { s₁ with heap := h', toks := tk } ∧ Fr h₀ L h' m' ∧ (∀ p ∈ ps, m' p.1 = some p.2) ∧ News h₀ L h' ((I, oI) :: news') ∧ (∀ p ∈ news', p.1 ≠ I) ∧ J news'
section
variable {prog : Program} {w : World} {A : Around} {E : Value → Shared → Prop} {s : Shared} {env : Env} {h₀ : Heap} {x : Str} {body : List Stmt} {Q : Flow → Shared → Prop}
theorem for_here {m : Str → Option Value} {px pos : Pos} {iter : Expr} (_F : Fr h₀ env.locals s.heap m) (hx : env.kindOf x = some .local)
    (hp : (env.scope.kind == .class || (env.scope.kind == .module && env.locals != env.globals)) = false)
    (h : wpAny (model prog w) A (eval iter env) (LoopHere prog w A h₀ env x body Q E) E s)
    (hs : ∀ x, foldedSetIterable iter env x = pure x := by intro _; rfl)
    (hE : PassesOwn (model prog w) A env E := by passes_own) :
    wpAny (model prog w) A (exec (.For (.Name x px) iter body [] pos) env) Q E s := For_invV h₀ hx hp h hs hE
theorem ps2 {m : Str → Option Value} {a b : Str} {va vb : Value} (ha : m a = some va) (hb : m b = some vb) : ∀ p ∈ [(a, va), (b, vb)], m p.1 = some p.2 := fun p hp => by
  rcases List.mem_cons.mp hp with rfl | hp
  · exact ha
  · rw [List.mem_singleton.mp hp]; exact hb
theorem ps3 {m : Str → Option Value} {a b c : Str} {va vb vc : Value} (ha : m a = some va) (hb : m b = some vb) (hc : m c = some vc) : ∀ p ∈ [(a, va), (b, vb), (c, vc)], m p.1 = some p.2 := fun p hp => by
  rcases List.mem_cons.mp hp with rfl | hp
  · exact ha
  · exact ps2 hb hc p hp
theorem loop_end {I L : Addr} {oI : Obj} {ps : List (Str × Value)} {J : List (Addr × Obj) → Prop} {s₁ : Shared} {h' : Heap} {m' : Str → Option Value} {news' : List (Addr × Obj)} {tk : Nat}
    (F : Fr h₀ L h' m') (hps : ∀ p ∈ ps, m' p.1 = some p.2) (N : News h₀ L h' ((I, oI) :: news')) (hne : ∀ p ∈ news', p.1 ≠ I) (hJ : J news') : LoopPost h₀ L I oI ps J s₁ Q .next { s₁ with heap := h', toks := tk } :=
  ⟨h', tk, m', news', rfl, F, hps, N, hne, hJ⟩
theorem kstB_self {m : Str → Option Value} {ps : List (Str × Value)} (h : ∀ p ∈ ps, m p.1 = some p.2) : kstB m ps = m := by
  funext z
  exact kstB_eq h fun _ => rfl
theorem loop_core {I : Addr} {fp : List Addr} {n : Nat} {P : Nat → Value → Prop} {St : Nat → Heap → Prop} {m₀ : Str → Option Value} {news₀ : List (Addr × Obj)} (ps : List (Str × Value)) (J : Nat → List (Addr × Obj) → Prop)
    (W : Walks prog w A I fp [I] n P St) (hIo : ∀ i h, St i h → ∃ o, h.get? I = some o) (hIf : I ∈ fp) (hLf : env.locals ∉ fp) (hI₀ : h₀.get? I = none)
    (keep : ∀ b ∈ fp, b ≠ I → ∃ o, ∀ i news, J i news → (b, o) ∈ news)
    (hst : St 0 s.heap) (F : Fr h₀ env.locals s.heap m₀) (hps : ∀ p ∈ ps, m₀ p.1 = some p.2) (N : News h₀ env.locals s.heap news₀) (hn0 : ∀ p ∈ news₀, p.1 ≠ I) (h0 : J 0 news₀)
    (turn : ∀ i v u news₁ h tk oI, i < n → P i v → J i news₁ → (∀ p ∈ news₁, p.1 ≠ I) → Fr h₀ env.locals h (fun y => if y = x then some v else kstB u ps y) → News h₀ env.locals h ((I, oI) :: news₁) →
      wpAny (model prog w) A (execs body env) (LoopPost h₀ env.locals I oI ps (J (i + 1)) { s with heap := h, toks := tk } Q) E { s with heap := h, toks := tk })
    (done : ∀ u news₁ h tk, J n news₁ → Fr h₀ env.locals h (kstB u ps) → News h₀ env.locals h news₁ → Q .next { s with heap := h, toks := tk }) :
    LoopAtV prog w A h₀ env x body Q E (.ref I) s := by
  refine ⟨I, fp, [I], n, P, St, m₀, news₀, fun i m news => (∀ p ∈ ps, m p.1 = some p.2) ∧ J i news, rfl, W, hLf, ?_, ?_, hst, F, N, ⟨hps, h0⟩, ?_, ?_⟩
  · intro b hb
    rw [List.mem_singleton.mp hb]; exact hI₀
  · intro p hp hI
    exact hn0 p hp (List.mem_singleton.mp hI)
  · rintro i v m₁ news₁ s₁ own ⟨hh, tk, rfl⟩ hi hP ⟨hm, hJ⟩ hoff hown hval hall st' F₁ N₁
    obtain ⟨oI, heI⟩ := hIo _ _ st'
    have hIown : (I, oI) ∈ own := hall I hIf hI₀ oI heI
    have hne : ∀ p ∈ news₁, p.1 ≠ I := fun p hp e => hoff p hp (List.mem_singleton.mpr e)
    have N₂ : News h₀ env.locals hh ((I, oI) :: news₁) := fun p hp => by
      rcases List.mem_cons.mp hp with rfl | hp
      · exact N₁ _ (List.mem_append_left _ hIown)
      · exact N₁ _ (List.mem_append_right _ hp)
    have F₂ : Fr h₀ env.locals hh (fun y => if y = x then some v else kstB m₁ ps y) := by rw [kstB_self hm]; exact F₁
    refine wpAny_mono (turn i v m₁ news₁ hh tk oI hi hP hJ hne F₂ N₂) (fun f s₂ p => ?_) fun _ _ e => e
    have fin : (∃ h' tk' m' news', s₂ = { s with heap := h', toks := tk' } ∧ Fr h₀ env.locals h' m' ∧ (∀ p ∈ ps, m' p.1 = some p.2) ∧ News h₀ env.locals h' ((I, oI) :: news') ∧ (∀ p ∈ news', p.1 ≠ I) ∧ J (i + 1) news') →
        LoopStepU h₀ env.locals [I] own (fun m news => (∀ p ∈ ps, m p.1 = some p.2) ∧ J (i + 1) news) { s with heap := hh, toks := tk } .next s₂ := by
      rintro ⟨h', tk', m', news', e, F', hm', N', hne', hJ'⟩
      refine ⟨rfl, h', tk', m', news', e, F', fun p hp => ?_, fun p hp hI => hne' p hp (List.mem_singleton.mp hI), hm', hJ'⟩
      rcases List.mem_append.mp hp with hp | hp
      · have hv := hval p hp
        by_cases e1 : p.1 = I
        · have : p = (I, oI) := by
            have h2 : hh.get? I = some p.2 := by rw [← e1]; exact hv
            rw [heI] at h2
            cases h2
            rw [← e1]
          rw [this]; exact N' _ (.head _)
        · obtain ⟨o, ho⟩ := keep p.1 (hown p hp) e1
          have h2 := (N₁ _ (List.mem_append_right _ (ho _ _ hJ))).1
          rw [hv] at h2
          have : p = (p.1, o) := by cases h2; rfl
          rw [this]; exact N' _ (.tail _ (ho _ _ hJ'))
      · exact N' _ (.tail _ hp)
    cases f with
    | ret v => exact .ret p
    | brk => exact .brk p
    | next => exact .next (fin p)
    | cont => exact .cont (fin p)
  · rintro h' tk m' news' F' N' _ ⟨hm, hJ⟩
    exact done m' news' h' tk hJ (by rw [kstB_self hm]; exact F') N'
theorem range_here {r : Addr} {b₀ : Int} {t₀ u₀ v₀ : Tok} {n : Nat} {m₀ : Str → Option Value} {news₀ : List (Addr × Obj)} (ps : List (Str × Value)) (J : Nat → List (Addr × Obj) → Prop)
    (hh : A.handled = none) (hr : IsRange s.heap r 0 b₀ 1 t₀ u₀ v₀) (hsmall : Builtin.Range.small 0 b₀ 1 = true) (hn : Builtin.Range.rangeSize 0 b₀ 1 = (n : Int))
    (F : Fr h₀ env.locals s.heap m₀) (hps : ∀ p ∈ ps, m₀ p.1 = some p.2) (N : News h₀ env.locals s.heap news₀) (h0 : J 0 news₀)
    (turn : ∀ (i : Nat) t u news₁ h tk I oI, i < n → J i news₁ → (∀ p ∈ news₁, p.1 ≠ I) → Fr h₀ env.locals h (fun y => if y = x then some (.int (i : Int) t) else kstB u ps y) → News h₀ env.locals h ((I, oI) :: news₁) →
      wpAny (model prog w) A (execs body env) (LoopPost h₀ env.locals I oI ps (J (i + 1)) { s with heap := h, toks := tk } Q) E { s with heap := h, toks := tk })
    (done : ∀ u news₁ h tk, J n news₁ → Fr h₀ env.locals h (kstB u ps) → News h₀ env.locals h news₁ → Q .next { s with heap := h, toks := tk }) :
    LoopHere prog w A h₀ env x body Q E (.ref r) s := by
  refine wpAny_pyIter_range hr hsmall ?_
  have W : Walks prog w A s.heap.objs.size [s.heap.objs.size] [s.heap.objs.size] n (fun i v => i < n ∧ ∃ t, v = .int (0 + i * 1) t)
      (fun i h => IsRangeIter h s.heap.objs.size (0 + (i : Nat) * 1) ((n : Int) - (i : Nat)) 1) := (Walks.range hh _ 0 1 n).bound
  refine loop_core ps J W (fun i h st => ⟨_, st⟩) (by simp) ?_ (next_is_new F) ?_ ?_ (F.push _) hps (fun p hp => ⟨Heap.get?_push_of_some _ (N p hp).1, (N p hp).2⟩) ?_ h0 ?_ ?_
  · intro hm
    exact absurd F.ns.lt ((List.mem_singleton.mp hm) ▸ Nat.lt_irrefl _)
  · intro b hb hne
    exact absurd (List.mem_singleton.mp hb) hne
  · show IsRangeIter _ _ _ _ _
    rw [hn]; simpa using Heap.get?_push_size _ rfl
  · intro p hp hI
    exact absurd (Heap.lt_size (N p hp).1) (hI ▸ Nat.lt_irrefl _)
  · rintro i v u news₁ h tk oI hi ⟨_, t, rfl⟩ hJ hne F₁ N₁
    have e1 : (0 : Int) + (i : Int) * 1 = (i : Int) := by omega
    rw [e1] at F₁
    exact turn i t u news₁ h tk _ oI hi hJ hne F₁ N₁
  · intro u news₁ h tk hJ F₁ N₁
    exact done u news₁ h tk hJ F₁ N₁
theorem tuple_here {r : Addr} {items : Array Value} {k : Nat} {m₀ : Str → Option Value} {news₀ : List (Addr × Obj)} (ps : List (Str × Value)) (J : Nat → List (Addr × Obj) → Prop)
    (hh : A.handled = none) (hk : ∀ i news, J i news → (r, ({ cls := .type "tuple", data := .seq items k } : Obj)) ∈ news)
    (F : Fr h₀ env.locals s.heap m₀) (hps : ∀ p ∈ ps, m₀ p.1 = some p.2) (N : News h₀ env.locals s.heap news₀) (h0 : J 0 news₀)
    (turn : ∀ (i : Nat) v u news₁ h tk I oI, items[i]? = some v → J i news₁ → (∀ p ∈ news₁, p.1 ≠ I) → Fr h₀ env.locals h (fun y => if y = x then some v else kstB u ps y) → News h₀ env.locals h ((I, oI) :: news₁) →
      wpAny (model prog w) A (execs body env) (LoopPost h₀ env.locals I oI ps (J (i + 1)) { s with heap := h, toks := tk } Q) E { s with heap := h, toks := tk })
    (done : ∀ u news₁ h tk, J items.size news₁ → Fr h₀ env.locals h (kstB u ps) → News h₀ env.locals h news₁ → Q .next { s with heap := h, toks := tk }) :
    LoopHere prog w A h₀ env x body Q E (.ref r) s := by
  have N0 := N _ (hk 0 _ h0)
  have hl : s.heap.IsTuple r items := ⟨_, N0.1, rfl, _, rfl⟩
  have hlt : r < s.heap.objs.size := Heap.lt_size N0.1
  refine wpAny_pyIter_tuple hl ?_
  have W := Walks.tuple (prog := prog) (w := w) hh s.heap.objs.size r (Nat.ne_of_lt hlt) items
  refine loop_core ps J W (fun i h st => by obtain ⟨o, e, _⟩ := st.1; exact ⟨o, e⟩) (by simp) ?_ (next_is_new F) ?_ ⟨⟨_, Heap.get?_push_size _ rfl, rfl, rfl⟩, hl.push _⟩ (F.push _) hps (fun p hp => ⟨Heap.get?_push_of_some _ (N p hp).1, (N p hp).2⟩) ?_ h0 ?_ ?_
  · intro hm
    rcases List.mem_cons.mp hm with e | hm
    · exact absurd F.ns.lt (e ▸ Nat.lt_irrefl _)
    · exact N0.2.1 (List.mem_singleton.mp hm).symm
  · intro b hb hne
    rcases List.mem_cons.mp hb with e | hb
    · exact absurd e hne
    · rw [List.mem_singleton.mp hb]; exact ⟨_, hk⟩
  · intro p hp hI
    exact absurd (Heap.lt_size (N p hp).1) (hI ▸ Nat.lt_irrefl _)
  · intro i v u news₁ h tk oI hi hP hJ hne F₁ N₁
    exact turn i v u news₁ h tk _ oI hP hJ hne F₁ N₁
  · intro u news₁ h tk hJ F₁ N₁
    exact done u news₁ h tk hJ F₁ N₁
theorem list_here {r : Addr} {items : Array Value} {k : Nat} {m₀ : Str → Option Value} {news₀ : List (Addr × Obj)} (ps : List (Str × Value)) (J : Nat → List (Addr × Obj) → Prop)
    (hh : A.handled = none) (hk : ∀ i news, J i news → (r, listOf items k) ∈ news)
    (F : Fr h₀ env.locals s.heap m₀) (hps : ∀ p ∈ ps, m₀ p.1 = some p.2) (N : News h₀ env.locals s.heap news₀) (h0 : J 0 news₀)
    (turn : ∀ (i : Nat) v u news₁ h tk I oI, items[i]? = some v → J i news₁ → (∀ p ∈ news₁, p.1 ≠ I) → Fr h₀ env.locals h (fun y => if y = x then some v else kstB u ps y) → News h₀ env.locals h ((I, oI) :: news₁) →
      wpAny (model prog w) A (execs body env) (LoopPost h₀ env.locals I oI ps (J (i + 1)) { s with heap := h, toks := tk } Q) E { s with heap := h, toks := tk })
    (done : ∀ u news₁ h tk, J items.size news₁ → Fr h₀ env.locals h (kstB u ps) → News h₀ env.locals h news₁ → Q .next { s with heap := h, toks := tk }) :
    LoopHere prog w A h₀ env x body Q E (.ref r) s := by
  have N0 := N _ (hk 0 _ h0)
  have hl : s.heap.IsList r items := ⟨_, N0.1, rfl, _, rfl⟩
  have hlt : r < s.heap.objs.size := Heap.lt_size N0.1
  refine wpAny_pyIter_list hl ?_
  have W := Walks.list (prog := prog) (w := w) hh s.heap.objs.size r (Nat.ne_of_lt hlt) items
  refine loop_core ps J W (fun i h st => by obtain ⟨o, e, _⟩ := st.1; exact ⟨o, e⟩) (by simp) ?_ (next_is_new F) ?_ ⟨⟨_, Heap.get?_push_size _ rfl, rfl, rfl⟩, hl.push _⟩ (F.push _) hps (fun p hp => ⟨Heap.get?_push_of_some _ (N p hp).1, (N p hp).2⟩) ?_ h0 ?_ ?_
  · intro hm
    rcases List.mem_cons.mp hm with e | hm
    · exact absurd F.ns.lt (e ▸ Nat.lt_irrefl _)
    · exact N0.2.1 (List.mem_singleton.mp hm).symm
  · intro b hb hne
    rcases List.mem_cons.mp hb with e | hb
    · exact absurd e hne
    · rw [List.mem_singleton.mp hb]; exact ⟨_, hk⟩
  · intro p hp hI
    exact absurd (Heap.lt_size (N p hp).1) (hI ▸ Nat.lt_irrefl _)
  · intro i v u news₁ h tk oI hi hP hJ hne F₁ N₁
    exact turn i v u news₁ h tk _ oI hP hJ hne F₁ N₁
  · intro u news₁ h tk hJ F₁ N₁
    exact done u news₁ h tk hJ F₁ N₁
theorem tuple_still {r : Addr} {vs : List Value} {ns : List Int} {k : Nat} {m₀ : Str → Option Value} {news₀ : List (Addr × Obj)} (ps : List (Str × Value))
    (hh : A.handled = none) (F : Fr h₀ env.locals s.heap m₀) (N : News h₀ env.locals s.heap news₀) (hm : (r, ({ cls := .type "tuple", data := .seq vs.toArray k } : Obj)) ∈ news₀) (hi : IntsAre vs ns)
    (hps : ∀ p ∈ ps, m₀ p.1 = some p.2)
    (turn : ∀ (c : Int) t u h tk I oI, c ∈ ns → (∀ p ∈ news₀, p.1 ≠ I) → Fr h₀ env.locals h (fun y => if y = x then some (.int c t) else kstB u ps y) → News h₀ env.locals h ((I, oI) :: news₀) →
      wpAny (model prog w) A (execs body env) (LoopPost h₀ env.locals I oI ps (fun nw => nw = news₀) { s with heap := h, toks := tk } Q) E { s with heap := h, toks := tk })
    (done : ∀ u h tk, Fr h₀ env.locals h (kstB u ps) → News h₀ env.locals h news₀ → Q .next { s with heap := h, toks := tk }) :
    LoopHere prog w A h₀ env x body Q E (.ref r) s :=
  tuple_here ps (fun _ nw => nw = news₀) hh (fun _ _ e => e ▸ hm) F hps N rfl
    (fun i v u nw h tk I oI hP e hne F₁ N₁ => by
      subst e
      obtain ⟨c, t, rfl, hc⟩ := IntsAre.at hi i v (by simpa using hP)
      exact turn c t u h tk I oI (List.mem_of_getElem? hc) hne F₁ N₁)
    (fun u nw h tk e F₁ N₁ => by
      subst e
      exact done u h tk F₁ N₁)
theorem range_still {r : Addr} {b₀ : Int} {t₀ u₀ v₀ : Tok} (n : Nat) {m₀ : Str → Option Value} {news₀ : List (Addr × Obj)} (ps : List (Str × Value))
    (hh : A.handled = none) (F : Fr h₀ env.locals s.heap m₀) (N : News h₀ env.locals s.heap news₀) (hr : IsRange s.heap r 0 b₀ 1 t₀ u₀ v₀) (hsmall : Builtin.Range.small 0 b₀ 1 = true) (hn : Builtin.Range.rangeSize 0 b₀ 1 = (n : Int))
    (hps : ∀ p ∈ ps, m₀ p.1 = some p.2)
    (turn : ∀ (i : Nat) t u h tk I oI, i < n → (∀ p ∈ news₀, p.1 ≠ I) → Fr h₀ env.locals h (fun y => if y = x then some (.int (i : Int) t) else kstB u ps y) → News h₀ env.locals h ((I, oI) :: news₀) →
      wpAny (model prog w) A (execs body env) (LoopPost h₀ env.locals I oI ps (fun nw => nw = news₀) { s with heap := h, toks := tk } Q) E { s with heap := h, toks := tk })
    (done : ∀ u h tk, Fr h₀ env.locals h (kstB u ps) → News h₀ env.locals h news₀ → Q .next { s with heap := h, toks := tk }) :
    LoopHere prog w A h₀ env x body Q E (.ref r) s :=
  range_here ps (fun _ nw => nw = news₀) hh hr hsmall hn F hps N rfl
    (fun i t u nw h tk I oI hi e hne F₁ N₁ => by
      subst e
      exact turn i t u h tk I oI hi hne F₁ N₁)
    (fun u nw h tk e F₁ N₁ => by
      subst e
      exact done u h tk F₁ N₁)
end
end Mine
namespace Mine
open PyProof.V PySem.Calls PySem.Spec
local macro_rules | `(tactic| ktr_room) => `(tactic| ((try simp only [depth_under_make, depth_under_kw, depth_in1, depth_deeper, depth_caller]); (try dsimp only [ktrTop]); omega))
local macro_rules | `(tactic| k_room) => `(tactic| ktr_room)
local macro_rules | `(tactic| ke_room) => `(tactic| ((try simp only [units_in1, units_deeper, Around.mark_units, units_caller]); (try dsimp only [ktrTop]); omega))
local macro_rules | `(tactic| k_all) => `(tactic| assumption)
local macro_rules | `(tactic| k_mem) => `(tactic| assumption)

theorem my_item {prog : Program} {w : World} {A : Around} {E : Value → Shared → Prop} {s : Shared} {h₀ : Heap} {L d : Addr} {news : List (Addr × Obj)} {o : Obj} {kvs : List (Int × Value)} {k : Int} {t : Tok} {v : Value} {Q : Value → Shared → Prop} {value slice : PySem.Expr}
    (N : News h₀ L s.heap news) (hp : (d, o) ∈ news) (hd : o.IsDictOf (PySem.intKind prog w) kvs) (hl : valueAt kvs k = some v) (h : Q v { s with toks := s.toks + 1 })
    (hs : subscripted slice false (.ref d) (.int k t) = operate [.ref d, .int k t] (getItem (.ref d) (.int k t)) := by with_unfolding_all rfl) : wpAny (model prog w) A (subscriptTail value slice (.ref d) (.int k t)) Q E s :=
  kdt_tail N hp hd (kdt_getItem N hp hd (intKind_is _ _ _ _) hl h) hs
local macro_rules | `(tactic| walk_at "subscriptTail") => `(tactic| (k_here; (with_reducible show wpAny _ _ (subscriptTail _ _ (Value.ref _) (Value.int _ _)) _ _ _); k_dflt (refine my_item (by k_asm) (by k_mem) (by k_asm) (by k_asm) ?_)))
local macro_rules | `(tactic| walk_at "compareOp NotIn int ref") => `(tactic| (k_here; k_dflt (refine kdg_notin (knd := PySem.intKind _ _) (by k_asm) (by k_mem) (by k_asm) (by k_asm) (intKind_is _ _ _ _) _ (by k_asm) ?_)))
local macro_rules | `(tactic| walk_at "compareOp In int ref") => `(tactic| (k_here; k_dflt (refine kda_in (knd := PySem.intKind _ _) (by k_asm) (by k_mem) (by k_asm) (by k_asm) (intKind_is _ _ _ _) _ (by k_asm) ?_)))
def inB (f : Int) (l : Option Int) (wd : Int) : Bool := decide (f ≤ wd) && (match l with | none => true | some l => decide (wd < l))
def OptV (x : Value) : Option Int → Prop
  | none => x = .none
  | some i => ∃ t, x = .int i t
theorem inB_no {f wd : Int} {l : Option Int} (h : ¬ f ≤ wd) : inB f l wd = false := by simp [inB, h]
theorem inB_none {f wd : Int} (h : f ≤ wd) : inB f none wd = true := by simp [inB, h]
theorem inB_some {f wd i : Int} (h : f ≤ wd) : inB f (some i) wd = decide (wd < i) := by simp [inB, h]
theorem News.add {h₀ h : Heap} {L : Addr} {news : List (Addr × Obj)} {q : Addr × Obj} (N : News h₀ L h news) (hq : q ∈ news) : News h₀ L h (q :: news) := fun p hp => N p (by
  rcases List.mem_cons.mp hp with rfl | hp
  · exact hq
  · exact hp)
theorem News.drop {h₀ h : Heap} {L : Addr} {news : List (Addr × Obj)} {q : Addr × Obj} (N : News h₀ L h (q :: news)) : News h₀ L h news := fun p hp => N p (.tail _ hp)
abbrev tupObj (vs : Array Value) (n : Nat) : Obj := { cls := .type "tuple", data := .seq vs n }
abbrev wDict (e1 e2 : Int) (t1 t2 : Tok) (ED WR : Addr) : Obj := dictOf [⟨e1, .str (Str.ofString "edges") t1, .ref ED⟩, ⟨e2, .str (Str.ofString "rows") t2, .ref WR⟩] 2
theorem within_spec {w : World} {p : Program} {loose : List Str} {mean : ExcName → Option Value} {mg mb : Str → Option Value}
    {dp un : Nat} {gd : Option (List Code)} {cn : Str} {cs : Scope} {L a : Addr} {ccd : Value} {cl : List (Str × Addr)} {outer : List Env} {A₀ : Around} {base h₀ : Heap} {m : Str → Option Value}
    {news : List (Addr × Obj)} {s : Shared} {Q E : Value → Shared → Prop}
    (B : Below A₀ base outer h₀) (F : Fr h₀ L s.heap m) (X : (frag.heap_1 w.params).In h₀) (N : News h₀ L s.heap news) (T : Top p loose mean mg mb h₀) (hk : cs.kind = .function) (hdp : dp + 10 < recursionLimit) (hun : un + 100 < cLine)
  {b : Addr} {f wd : Int} {l : Option Int} {x : Value} {tf tw : Tok} {n : Nat} (hb : (b, listOf #[.int f tf, x] n) ∈ news) (hx : OptV x l)
  (ret : ∀ (r : Bool) h' tk', r = inB f l wd → Fr h₀ L h' m → News h₀ L h' news → Q (.bool r) { s with heap := h', toks := tk' }) :
  wpAny (model PySem.Challenge.rw_pc0217_01.prog w) (ktrTop dp un gd cn cs L a ccd cl outer) (call (.ref 727) [.ref b, .int wd tw]) Q E s := by
  revert X; k_fill; intro X
  replace N := News.add N hb
  cases l with
  | none =>
    cases hx
    refine wpAny_call ?_
    k_dflt ktr_enter
    k_steps
    · exact ret _ _ _ (inB_none (by assumption)).symm (by assumption) (News.drop (by assumption))
    · refine ret _ _ _ ?_ (by assumption) (News.drop (by assumption))
      rw [inB_no (by assumption)]
      exact decide_eq_false (by assumption)
  | some i =>
    obtain ⟨t, rfl⟩ := hx
    refine wpAny_call ?_
    k_dflt ktr_enter
    k_steps
    · exact ret _ _ _ (inB_some (by assumption)).symm (by assumption) (News.drop (by assumption))
    · refine ret _ _ _ ?_ (by assumption) (News.drop (by assumption))
      rw [inB_no (by assumption)]
      exact decide_eq_false (by assumption)
theorem bounds_spec {w : World} {p : Program} {loose : List Str} {mean : ExcName → Option Value} {mg mb : Str → Option Value}
    {dp un : Nat} {gd : Option (List Code)} {cn : Str} {cs : Scope} {L a : Addr} {ccd : Value} {cl : List (Str × Addr)} {outer : List Env} {A₀ : Around} {base h₀ : Heap} {m : Str → Option Value}
    {news : List (Addr × Obj)} {s : Shared} {Q E : Value → Shared → Prop}
    (B : Below A₀ base outer h₀) (F : Fr h₀ L s.heap m) (X : (frag.heap_1 w.params).In h₀) (N : News h₀ L s.heap news) (T : Top p loose mean mg mb h₀) (hk : cs.kind = .function) (hdp : dp + 10 < recursionLimit) (hun : un + 100 < cLine)
  {W DW ED WR ta : Addr} {o1 : Obj} {e1 e2 u : Int} {t1 t2 tu : Tok} {kvs1 : List (Int × Value)} (hW : (W, instObj 631 DW) ∈ news) (hD : (DW, wDict e1 e2 t1 t2 ED WR) ∈ news) (hR : (WR, o1) ∈ news)
  (hd : o1.IsDictOf (PySem.intKind PySem.Challenge.rw_pc0217_01.prog w) kvs1) (hv : valueAt kvs1 u = some (.ref ta))
  (ret : ∀ h' tk', Fr h₀ L h' m → News h₀ L h' news → Q (.ref ta) { s with heap := h', toks := tk' }) :
  wpAny (model PySem.Challenge.rw_pc0217_01.prog w) (ktrTop dp un gd cn cs L a ccd cl outer) (call (.ref 609) [.ref W, .int u tu]) Q E s := by
  revert X; k_fill; intro X
  replace N := News.add (News.add (News.add N hW) (by exact List.mem_cons_of_mem _ hD)) (by exact List.mem_cons_of_mem _ (List.mem_cons_of_mem _ hR))
  refine wpAny_call ?_
  k_dflt ktr_enter
  k_steps
  exact ret _ _ (by assumption) (News.drop (News.drop (News.drop (by assumption))))
theorem holds_no {w : World} {p : Program} {loose : List Str} {mean : ExcName → Option Value} {mg mb : Str → Option Value}
    {dp un : Nat} {gd : Option (List Code)} {cn : Str} {cs : Scope} {L a : Addr} {ccd : Value} {cl : List (Str × Addr)} {outer : List Env} {A₀ : Around} {base h₀ : Heap} {m : Str → Option Value}
    {news : List (Addr × Obj)} {s : Shared} {Q E : Value → Shared → Prop}
    (B : Below A₀ base outer h₀) (F : Fr h₀ L s.heap m) (X : (frag.heap_1 w.params).In h₀) (N : News h₀ L s.heap news) (T : Top p loose mean mg mb h₀) (hk : cs.kind = .function) (hdp : dp + 10 < recursionLimit) (hun : un + 100 < cLine)
  {W DW ED WR : Addr} {o1 : Obj} {e1 e2 u wd : Int} {t1 t2 tu tw : Tok} {kvs1 : List (Int × Value)} (hW : (W, instObj 631 DW) ∈ news) (hD : (DW, wDict e1 e2 t1 t2 ED WR) ∈ news) (hR : (WR, o1) ∈ news) (lo : (WR == sysModules) = false)
  (hd : o1.IsDictOf (PySem.intKind PySem.Challenge.rw_pc0217_01.prog w) kvs1) (hv : (valueAt kvs1 u).isSome = false)
  (ret : ∀ h' tk', Fr h₀ L h' m → News h₀ L h' news → Q (.bool false) { s with heap := h', toks := tk' }) :
  wpAny (model PySem.Challenge.rw_pc0217_01.prog w) (ktrTop dp un gd cn cs L a ccd cl outer) (call (.ref 616) [.ref W, .int u tu, .int wd tw]) Q E s := by
  revert X; k_fill; intro X
  replace N := News.add (News.add (News.add N hW) (by exact List.mem_cons_of_mem _ hD)) (by exact List.mem_cons_of_mem _ (List.mem_cons_of_mem _ hR))
  refine wpAny_call ?_
  k_dflt ktr_enter
  k_steps
  exact ret _ _ (by assumption) (News.drop (News.drop (News.drop (by assumption))))
theorem holds_yes {w : World} {p : Program} {loose : List Str} {mean : ExcName → Option Value} {mg mb : Str → Option Value}
    {dp un : Nat} {gd : Option (List Code)} {cn : Str} {cs : Scope} {L a : Addr} {ccd : Value} {cl : List (Str × Addr)} {outer : List Env} {A₀ : Around} {base h₀ : Heap} {m : Str → Option Value}
    {news : List (Addr × Obj)} {s : Shared} {Q E : Value → Shared → Prop}
    (B : Below A₀ base outer h₀) (F : Fr h₀ L s.heap m) (X : (frag.heap_1 w.params).In h₀) (N : News h₀ L s.heap news) (T : Top p loose mean mg mb h₀) (hk : cs.kind = .function) (hdp : dp + 10 < recursionLimit) (hun : un + 100 < cLine)
  {W DW ED WR ta : Addr} {o1 : Obj} {e1 e2 u f wd : Int} {l : Option Int} {x : Value} {t1 t2 tu tf tw : Tok} {n : Nat} {kvs1 : List (Int × Value)} (hW : (W, instObj 631 DW) ∈ news) (hD : (DW, wDict e1 e2 t1 t2 ED WR) ∈ news) (hR : (WR, o1) ∈ news) (lo : (WR == sysModules) = false)
  (hd : o1.IsDictOf (PySem.intKind PySem.Challenge.rw_pc0217_01.prog w) kvs1) (hv : valueAt kvs1 u = some (.ref ta)) (ht : (ta, tupObj #[.int f tf, x] n) ∈ news) (hx : OptV x l)
  (ret : ∀ (r : Bool) h' tk', r = inB f l wd → Fr h₀ L h' m → News h₀ L h' news → Q (.bool r) { s with heap := h', toks := tk' }) :
  wpAny (model PySem.Challenge.rw_pc0217_01.prog w) (ktrTop dp un gd cn cs L a ccd cl outer) (call (.ref 616) [.ref W, .int u tu, .int wd tw]) Q E s := by
  revert X; k_fill; intro X
  have hs : (valueAt kvs1 u).isSome = true := by rw [hv]; rfl
  replace N := News.add (News.add (News.add (News.add N hW) (by exact List.mem_cons_of_mem _ hD)) (by exact List.mem_cons_of_mem _ (List.mem_cons_of_mem _ hR))) (by exact List.mem_cons_of_mem _ (List.mem_cons_of_mem _ (List.mem_cons_of_mem _ ht)))
  cases l with
  | none =>
    cases hx
    refine wpAny_call ?_
    k_dflt ktr_enter
    k_steps
    · exact ret _ _ _ (inB_none (by assumption)).symm (by assumption) (News.drop (News.drop (News.drop (News.drop (by assumption)))))
    · refine ret _ _ _ ?_ (by assumption) (News.drop (News.drop (News.drop (News.drop (by assumption)))))
      rw [inB_no (by assumption)]
      exact decide_eq_false (by assumption)
  | some i =>
    obtain ⟨t, rfl⟩ := hx
    refine wpAny_call ?_
    k_dflt ktr_enter
    k_steps
    · exact ret _ _ _ (inB_some (by assumption)).symm (by assumption) (News.drop (News.drop (News.drop (News.drop (by assumption)))))
    · refine ret _ _ _ ?_ (by assumption) (News.drop (News.drop (News.drop (News.drop (by assumption)))))
      rw [inB_no (by assumption)]
      exact decide_eq_false (by assumption)
end Mine
namespace Mine
open PyProof.V PySem.Calls PySem.Spec
local macro_rules | `(tactic| ktr_room) => `(tactic| ((try simp only [depth_under_make, depth_under_kw, depth_in1, depth_deeper, depth_caller]); (try dsimp only [ktrTop]); omega))
local macro_rules | `(tactic| k_room) => `(tactic| ktr_room)
local macro_rules | `(tactic| ke_room) => `(tactic| ((try simp only [units_in1, units_deeper, Around.mark_units, units_caller]); (try dsimp only [ktrTop]); omega))
local macro_rules | `(tactic| k_all) => `(tactic| assumption)
local macro_rules | `(tactic| k_mem) => `(tactic| assumption)

local macro_rules | `(tactic| walk_at "subscriptTail") => `(tactic| (k_here; (with_reducible show wpAny _ _ (subscriptTail _ _ (Value.ref _) (Value.int _ _)) _ _ _); k_dflt (refine my_item (by k_asm) (by k_mem) (by k_asm) (by k_asm) ?_)))
local macro_rules | `(tactic| walk_at "setItem ref int") => `(tactic| (k_here; k_dflt (refine' kda_set (knd := PySem.intKind _ _) ?F ?N ?U ?d (intKind_is _ _ _ _) ?z ?_; (case F => k_asm); (case N => k_asm); (case U => k_updF); (case d => k_asm); (case z => k_asm)); intro h' o' F' N' hd'; (try dsimp only at N')))
theorem lt_of_all {d : Addr} : ∀ {l : List (Addr × Obj)}, AllLt d l → ∀ p ∈ l, p.1 < d
  | [], _, _, h => nomatch h
  | _ :: _, h, p, hp => by
    rcases List.mem_cons.mp hp with rfl | hp
    · exact h.1
    · exact lt_of_all h.2 p hp
def upd (news : List (Addr × Obj)) (d : Addr) (o' : Obj) : List (Addr × Obj) := news.map fun p => if p.1 = d then (d, o') else p
theorem upd_ne {news : List (Addr × Obj)} {d b : Addr} {o o' : Obj} (h : (b, o) ∈ news) (hn : b ≠ d) : (b, o) ∈ upd news d o' := List.mem_map.mpr ⟨_, h, by simp [hn]⟩
theorem upd_at {news : List (Addr × Obj)} {d : Addr} {o o' : Obj} (h : (d, o) ∈ news) : (d, o') ∈ upd news d o' := List.mem_map.mpr ⟨_, h, by simp⟩
def others (news : List (Addr × Obj)) (d : Addr) : List (Addr × Obj) := news.filter fun p => decide (p.1 ≠ d)
theorem others_ne {news : List (Addr × Obj)} {d : Addr} : ∀ p ∈ others news d, p.1 ≠ d := fun p hp => by
  have := (List.mem_filter.mp hp).2
  simpa using this
theorem News.first {h₀ h : Heap} {L d : Addr} {o : Obj} {news : List (Addr × Obj)} (N : News h₀ L h news) (hd : (d, o) ∈ news) : News h₀ L h ((d, o) :: others news d) := fun p hp => by
  rcases List.mem_cons.mp hp with rfl | hp
  · exact N _ hd
  · exact N _ (List.mem_filter.mp hp).1
theorem News.back {h₀ h : Heap} {L d : Addr} {o' : Obj} {news : List (Addr × Obj)} (N : News h₀ L h ((d, o') :: others news d)) : News h₀ L h (upd news d o') := fun p hp => by
  obtain ⟨q, hq, rfl⟩ := List.mem_map.mp hp
  by_cases e : q.1 = d
  · simp only [e, if_true]
    exact N _ (.head _)
  · simp only [e, if_false]
    exact N _ (.tail _ (List.mem_filter.mpr ⟨hq, by simpa using e⟩))
theorem lt_others {news : List (Addr × Obj)} {d ta : Addr} (h1 : @LT.lt Nat _ d ta) (h2 : AllLt ta (others news d)) : ∀ p ∈ news, p.1 < ta := fun p hp => by
  by_cases e : p.1 = d
  · rw [e]; exact h1
  · exact lt_of_all h2 p (List.mem_filter.mpr ⟨hp, by simpa using e⟩)
theorem others_mem {news : List (Addr × Obj)} {d b : Addr} {o : Obj} (h : (b, o) ∈ news) (hn : b ≠ d) : (b, o) ∈ others news d := List.mem_filter.mpr ⟨h, by simpa using hn⟩
theorem News.tup {h₀ h : Heap} {L d ta : Addr} {ot o' : Obj} {p1 p2 : Addr × Obj} {rest : List (Addr × Obj)} (N : News h₀ L h ((ta, ot) :: p1 :: p2 :: (d, o') :: rest)) : News h₀ L h ((ta, ot) :: (d, o') :: rest) := fun p hp => N p (by
  rcases List.mem_cons.mp hp with rfl | hp
  · exact .head _
  · exact .tail _ (.tail _ (.tail _ hp)))
theorem News.backT {h₀ h : Heap} {L d : Addr} {q : Addr × Obj} {o' : Obj} {news : List (Addr × Obj)} (N : News h₀ L h (q :: (d, o') :: others news d)) : News h₀ L h (q :: upd news d o') := fun p hp => by
  rcases List.mem_cons.mp hp with rfl | hp
  · exact N _ (.head _)
  · exact News.back (News.drop N) p hp
theorem begins_spec {w : World} {p : Program} {loose : List Str} {mean : ExcName → Option Value} {mg mb : Str → Option Value}
    {dp un : Nat} {gd : Option (List Code)} {cn : Str} {cs : Scope} {L a : Addr} {ccd : Value} {cl : List (Str × Addr)} {outer : List Env} {A₀ : Around} {base h₀ : Heap} {m : Str → Option Value}
    {news : List (Addr × Obj)} {s : Shared} {Q E : Value → Shared → Prop}
    (B : Below A₀ base outer h₀) (F : Fr h₀ L s.heap m) (X : (frag.heap_1 w.params).In h₀) (N : News h₀ L s.heap news) (T : Top p loose mean mg mb h₀) (hk : cs.kind = .function) (hdp : dp + 10 < recursionLimit) (hun : un + 100 < cLine)
  {W DW ED WR : Addr} {o1 : Obj} {e1 e2 u wd : Int} {t1 t2 tu tw : Tok} {kvs1 : List (Int × Value)} (hW : (W, instObj 631 DW) ∈ news) (hD : (DW, wDict e1 e2 t1 t2 ED WR) ∈ news) (hR : (WR, o1) ∈ news)
  (hd : o1.IsDictOf (PySem.intKind PySem.Challenge.rw_pc0217_01.prog w) kvs1) (hz : kvs1.length ≤ sizeLine) (nW : W ≠ WR) (nD : DW ≠ WR)
  (ret : ∀ (ta : Addr) (o' : Obj) h' tk', Fr h₀ L h' m → o'.IsDictOf (PySem.intKind PySem.Challenge.rw_pc0217_01.prog w) (stored kvs1 u (.ref ta)) → (∀ p ∈ news, p.1 < ta) → News h₀ L h' ((ta, tupObj #[.int wd tw, .none] 0) :: upd news WR o') → Q .none { s with heap := h', toks := tk' }) :
  wpAny (model PySem.Challenge.rw_pc0217_01.prog w) (ktrTop dp un gd cn cs L a ccd cl outer) (call (.ref 602) [.ref W, .int u tu, .int wd tw]) Q E s := by
  revert X; k_fill; intro X
  replace N := News.first N hR
  replace N := News.add (News.add N (.tail _ (others_mem hD nD))) (.tail _ (.tail _ (others_mem hW nW)))
  have off := @others_ne news WR
  have bk : ∀ (ta : Addr) (ot o' : Obj) (h' : Heap), News h₀ L h' ((ta, ot) :: (W, instObj 631 DW) :: (DW, wDict e1 e2 t1 t2 ED WR) :: (WR, o') :: others news WR) → News h₀ L h' ((ta, ot) :: upd news WR o') := fun ta ot o' h' N2 => News.backT (News.tup N2)
  have lt : ∀ ta : Addr, @LT.lt Nat _ WR ta → AllLt ta (others news WR) → ∀ p ∈ news, p.1 < ta := fun ta a b => lt_others a b
  generalize hg : others news WR = rest at N off bk lt
  refine wpAny_call ?_
  k_dflt ktr_enter
  k_steps
  rename W < _ ∧ _ => l1
  exact ret _ _ _ _ (by assumption) (by assumption) (lt _ l1.2.2.1 l1.2.2.2) (bk _ _ _ _ (by assumption))
theorem ends_none {w : World} {p : Program} {loose : List Str} {mean : ExcName → Option Value} {mg mb : Str → Option Value}
    {dp un : Nat} {gd : Option (List Code)} {cn : Str} {cs : Scope} {L a : Addr} {ccd : Value} {cl : List (Str × Addr)} {outer : List Env} {A₀ : Around} {base h₀ : Heap} {m : Str → Option Value}
    {news : List (Addr × Obj)} {s : Shared} {Q E : Value → Shared → Prop}
    (B : Below A₀ base outer h₀) (F : Fr h₀ L s.heap m) (X : (frag.heap_1 w.params).In h₀) (N : News h₀ L s.heap news) (T : Top p loose mean mg mb h₀) (hk : cs.kind = .function) (hdp : dp + 10 < recursionLimit) (hun : un + 100 < cLine)
  {W DW ED WR ta : Addr} {o1 : Obj} {e1 e2 u f wd : Int} {t1 t2 tu tf tw : Tok} {n : Nat} {kvs1 : List (Int × Value)} (hW : (W, instObj 631 DW) ∈ news) (hD : (DW, wDict e1 e2 t1 t2 ED WR) ∈ news) (hR : (WR, o1) ∈ news)
  (hd : o1.IsDictOf (PySem.intKind PySem.Challenge.rw_pc0217_01.prog w) kvs1) (hz : kvs1.length ≤ sizeLine) (nW : W ≠ WR) (nD : DW ≠ WR) (hv : valueAt kvs1 u = some (.ref ta)) (ht : (ta, tupObj #[.int f tf, .none] n) ∈ news) (nT : ta ≠ WR)
  (ret : ∀ (ta : Addr) (o' : Obj) h' tk', Fr h₀ L h' m → o'.IsDictOf (PySem.intKind PySem.Challenge.rw_pc0217_01.prog w) (stored kvs1 u (.ref ta)) → (∀ p ∈ news, p.1 < ta) → News h₀ L h' ((ta, tupObj #[.int f tf, .int wd tw] 0) :: upd news WR o') → Q .none { s with heap := h', toks := tk' }) :
  wpAny (model PySem.Challenge.rw_pc0217_01.prog w) (ktrTop dp un gd cn cs L a ccd cl outer) (call (.ref 623) [.ref W, .int u tu, .int wd tw]) Q E s := by
  revert X; k_fill; intro X
  replace N := News.first N hR
  replace N := News.add (News.add (News.add N (.tail _ (others_mem ht nT))) (.tail _ (.tail _ (others_mem hD nD)))) (.tail _ (.tail _ (.tail _ (others_mem hW nW))))
  have off := @others_ne news WR
  have bk : ∀ (tb : Addr) (ot o' : Obj) (h' : Heap), News h₀ L h' ((tb, ot) :: (W, instObj 631 DW) :: (DW, wDict e1 e2 t1 t2 ED WR) :: (ta, tupObj #[.int f tf, .none] n) :: (WR, o') :: others news WR) → News h₀ L h' ((tb, ot) :: upd news WR o') := fun ta ot o' h' N2 => News.backT (fun p hp => N2 p (by
    rcases List.mem_cons.mp hp with rfl | hp
    · exact .head _
    · exact .tail _ (.tail _ (.tail _ (.tail _ hp)))))
  have lt : ∀ ta : Addr, @LT.lt Nat _ WR ta → AllLt ta (others news WR) → ∀ p ∈ news, p.1 < ta := fun ta a b => lt_others a b
  generalize hg : others news WR = rest at N off bk lt
  refine wpAny_call ?_
  k_dflt ktr_enter
  k_steps
  rename W < _ ∧ _ => l1
  exact ret _ _ _ _ (by assumption) (by assumption) (lt _ l1.2.2.2.1 l1.2.2.2.2) (bk _ _ _ _ (by assumption))
theorem ends_some {w : World} {p : Program} {loose : List Str} {mean : ExcName → Option Value} {mg mb : Str → Option Value}
    {dp un : Nat} {gd : Option (List Code)} {cn : Str} {cs : Scope} {L a : Addr} {ccd : Value} {cl : List (Str × Addr)} {outer : List Env} {A₀ : Around} {base h₀ : Heap} {m : Str → Option Value}
    {news : List (Addr × Obj)} {s : Shared} {Q E : Value → Shared → Prop}
    (B : Below A₀ base outer h₀) (F : Fr h₀ L s.heap m) (X : (frag.heap_1 w.params).In h₀) (N : News h₀ L s.heap news) (T : Top p loose mean mg mb h₀) (hk : cs.kind = .function) (hdp : dp + 10 < recursionLimit) (hun : un + 100 < cLine)
  {W DW ED WR ta : Addr} {o1 : Obj} {e1 e2 u f wd i : Int} {t1 t2 tu tf tw ti : Tok} {n : Nat} {kvs1 : List (Int × Value)} (hW : (W, instObj 631 DW) ∈ news) (hD : (DW, wDict e1 e2 t1 t2 ED WR) ∈ news) (hR : (WR, o1) ∈ news)
  (hd : o1.IsDictOf (PySem.intKind PySem.Challenge.rw_pc0217_01.prog w) kvs1) (hv : valueAt kvs1 u = some (.ref ta)) (ht : (ta, tupObj #[.int f tf, .int i ti] n) ∈ news)
  (ret : ∀ h' tk', Fr h₀ L h' m → News h₀ L h' news → Q .none { s with heap := h', toks := tk' }) :
  wpAny (model PySem.Challenge.rw_pc0217_01.prog w) (ktrTop dp un gd cn cs L a ccd cl outer) (call (.ref 623) [.ref W, .int u tu, .int wd tw]) Q E s := by
  revert X; k_fill; intro X
  replace N := News.add (News.add (News.add (News.add N hW) (by exact List.mem_cons_of_mem _ hD)) (by exact List.mem_cons_of_mem _ (List.mem_cons_of_mem _ hR))) (by exact List.mem_cons_of_mem _ (List.mem_cons_of_mem _ (List.mem_cons_of_mem _ ht)))
  refine wpAny_call ?_
  k_dflt ktr_enter
  k_steps
  exact ret _ _ (by assumption) (News.drop (News.drop (News.drop (News.drop (by assumption)))))
end Mine
namespace Mine
open PyProof.V PySem.Calls PySem.Spec
local macro_rules | `(tactic| ktr_room) => `(tactic| ((try simp only [depth_under_make, depth_under_kw, depth_in1, depth_deeper, depth_caller]); (try dsimp only [ktrTop]); omega))
local macro_rules | `(tactic| k_room) => `(tactic| ktr_room)
local macro_rules | `(tactic| ke_room) => `(tactic| ((try simp only [units_in1, units_deeper, Around.mark_units, units_caller]); (try dsimp only [ktrTop]); omega))
local macro_rules | `(tactic| walk_at "ite") => `(tactic| (k_closed; with_reducible (first | refine ite_pos (by decide) ?_ | refine ite_neg (by decide) ?_)))
local macro_rules | `(tactic| k_all) => `(tactic| assumption)
local macro_rules | `(tactic| k_mem) => `(tactic| assumption)

local macro_rules | `(tactic| walk_at "subscriptTail") => `(tactic| (k_here; (with_reducible show wpAny _ _ (subscriptTail _ _ (Value.ref _) (Value.int _ _)) _ _ _); k_dflt (refine my_item (by k_asm) (by k_mem) (by k_asm) (by k_asm) ?_)))
local macro_rules | `(tactic| walk_at "compareOp NotIn int ref") => `(tactic| (k_here; k_dflt (refine kdg_notin (knd := PySem.intKind _ _) (by k_asm) (by k_mem) (by k_asm) (by k_asm) (intKind_is _ _ _ _) _ (by k_asm) ?_)))
local macro_rules | `(tactic| walk_at "compareOp In int ref") => `(tactic| (k_here; k_dflt (refine kda_in (knd := PySem.intKind _ _) (by k_asm) (by k_mem) (by k_asm) (by k_asm) (intKind_is _ _ _ _) _ (by k_asm) ?_)))
local macro_rules | `(tactic| walk_at "call ref") => `(tactic| (k_here; (with_reducible show wpAny _ _ (call (Value.ref 609) _ _) _ _ _); k_dflt (refine' bounds_spec ?sB ?sF ?sX ?sN ?sT ?sk ?sd ?su ?s1 ?s2 ?s3 ?s4 ?s5 ?_; (case sB => k_asm); (case sF => k_asm); (case sX => k_asm); (case sN => k_asm); (case sT => k_asm); (case sk => exact rfl); (case sd => ktr_room); (case su => ke_room); (case s1 => k_mem); (case s2 => k_mem); (case s3 => k_mem); (case s4 => k_asm); (case s5 => k_asm)); intro h' tk' F' N'; (try k_sweep)))
local macro_rules | `(tactic| walk_at "call ref") => `(tactic| (k_here; (with_reducible show wpAny _ _ (call (Value.ref 727) _ _) _ _ _); k_dflt (refine' within_spec ?sB ?sF ?sX ?sN ?sT ?sk ?sd ?su ?s1 ?s2 ?_; (case sB => k_asm); (case sF => k_asm); (case sX => k_asm); (case sN => k_asm); (case sT => k_asm); (case sk => exact rfl); (case sd => ktr_room); (case su => ke_room); (case s1 => k_mem); (case s2 => k_asm)); intro r' h' tk' e' F' N'; (try k_sweep)))
local macro_rules | `(tactic| walk_at "call ref") => `(tactic| (k_here; (with_reducible show wpAny _ _ (call (Value.ref 616) _ _) _ _ _); k_dflt (refine' holds_no ?sB ?sF ?sX ?sN ?sT ?sk ?sd ?su ?s1 ?s2 ?s3 ?s4 ?s5 ?s6 ?_; (case sB => k_asm); (case sF => k_asm); (case sX => k_asm); (case sN => k_asm); (case sT => k_asm); (case sk => exact rfl); (case sd => ktr_room); (case su => ke_room); (case s1 => k_mem); (case s2 => k_mem); (case s3 => k_mem); (case s4 => k_asm); (case s5 => k_asm); (case s6 => k_asm)); intro h' tk' F' N'; (try k_sweep)))
local macro_rules | `(tactic| walk_at "call ref") => `(tactic| (k_here; (with_reducible show wpAny _ _ (call (Value.ref 616) _ _) _ _ _); k_dflt (refine' holds_yes ?sB ?sF ?sX ?sN ?sT ?sk ?sd ?su ?s1 ?s2 ?s3 ?s4 ?s5 ?s6 ?s7 ?s8 ?_; (case sB => k_asm); (case sF => k_asm); (case sX => k_asm); (case sN => k_asm); (case sT => k_asm); (case sk => exact rfl); (case sd => ktr_room); (case su => ke_room); (case s1 => k_mem); (case s2 => k_mem); (case s3 => k_mem); (case s4 => k_asm); (case s5 => k_asm); (case s6 => k_asm); (case s7 => k_mem); (case s8 => k_asm)); intro r' h' tk' e' F' N'; (try k_sweep)))

local macro_rules | `(tactic| walk_at "exec For Name Call cons nil") => `(tactic| (k_here; (rename Fr _ _ _ _ => lF'); (with_unfolding_all refine' for_here lF' ?k1 ?k2 ?_; (case k1 => exact rfl); (case k2 => exact rfl); k_whole)))
local macro_rules | `(tactic| walk_at "exec For Name Tuple cons nil") => `(tactic| (k_here; (rename Fr _ _ _ _ => lF'); (with_unfolding_all refine' for_here lF' ?k1 ?k2 ?_; (case k1 => exact rfl); (case k2 => exact rfl); k_whole)))
def RowsAre (news : List (Addr × Obj)) (kvs1 kvs2 : List (Int × Value)) : Prop := ∀ u : Int,
  ((valueAt kvs1 u).isSome = false ∧ (valueAt kvs2 u).isSome = false) ∨ ∃ (ta la : Addr) (f : Int) (l : Option Int) (x1 x2 : Value) (t1 t2 : Tok) (n1 n2 : Nat),
    valueAt kvs1 u = some (.ref ta) ∧ valueAt kvs2 u = some (.ref la) ∧ (ta, tupObj #[.int f t1, x1] n1) ∈ news ∧ (la, listOf #[.int f t2, x2] n2) ∈ news ∧ OptV x1 l ∧ OptV x2 l
theorem shown_spec {w : World} {p : Program} {loose : List Str} {mean : ExcName → Option Value} {mg mb : Str → Option Value}
    {dp un : Nat} {gd : Option (List Code)} {cn : Str} {cs : Scope} {L a : Addr} {ccd : Value} {cl : List (Str × Addr)} {outer : List Env} {A₀ : Around} {base h₀ : Heap} {m : Str → Option Value}
    {news : List (Addr × Obj)} {s : Shared} {Q E : Value → Shared → Prop}
    (B : Below A₀ base outer h₀) (F : Fr h₀ L s.heap m) (X : (frag.heap_1 w.params).In h₀) (N : News h₀ L s.heap news) (T : Top p loose mean mg mb h₀) (hk : cs.kind = .function) (hdp : dp + 20 < recursionLimit) (hun : un + 200 < cLine)
  {W DW ED WR RR : Addr} {o1 o2 : Obj} {e1 e2 : Int} {t1 t2 : Tok} {kvs1 kvs2 : List (Int × Value)} (hW : (W, instObj 631 DW) ∈ news) (hD : (DW, wDict e1 e2 t1 t2 ED WR) ∈ news) (hR : (WR, o1) ∈ news) (hS : (RR, o2) ∈ news) (lo1 : (WR == sysModules) = false) (lo2 : (RR == sysModules) = false)
  (hd1 : o1.IsDictOf (PySem.intKind PySem.Challenge.rw_pc0217_01.prog w) kvs1) (hd2 : o2.IsDictOf (PySem.intKind PySem.Challenge.rw_pc0217_01.prog w) kvs2) (rel : RowsAre news kvs1 kvs2)
  (ret : ∀ h' tk', Fr h₀ L h' m → News h₀ L h' news → Q (.bool true) { s with heap := h', toks := tk' }) :
  wpAny (model PySem.Challenge.rw_pc0217_01.prog w) (ktrTop dp un gd cn cs L a ccd cl outer) (call (.ref 734) [.ref W, .ref RR]) Q E s := by
  revert X; k_fill; intro X
  refine wpAny_call ?_
  k_dflt ktr_enter
  k_steps
  rename IsRange _ _ _ _ _ _ _ _ => R7
  refine range_still 6 [("worlds", .ref W), ("rows", .ref RR)] rfl (by assumption) (by assumption) R7 (by decide) (by rfl) (ps2 rfl rfl) ?_ ?_
  · intro i t u h9 tk9 I oI hi hne F9 N9
    k_fold
    rcases rel i with ⟨hn1, hn2⟩ | ⟨ta, la, f, l, x1, x2, t1, t2, n1, n2, hv1, hv2, hm1, hm2, hx1, hx2⟩
    · k_steps
      refine tuple_still [("worlds", .ref W), ("rows", .ref RR), ("user", .int (i : Int) t)] rfl (by assumption) (by assumption) (.head _) (by l_ints) (ps3 rfl rfl rfl) ?_ ?_
      · intro k t' u' h8 tk8 I8 oI8 hk hne8 F8 N8
        k_fold
        k_steps
        exact loop_end (by assumption) (ps3 rfl rfl rfl) (by assumption) hne8 rfl
      · intro u' h8 tk8 F8 N8
        k_steps
        exact loop_end (by assumption) (ps2 rfl rfl) (News.drop (by assumption)) hne rfl
    · have hs1 : (valueAt kvs1 (i : Int)).isSome = true := by rw [hv1]; rfl
      have hs2 : (valueAt kvs2 (i : Int)).isSome = true := by rw [hv2]; rfl
      replace N9 := News.add (News.add N9 (.tail _ hm1)) (.tail _ (.tail _ hm2))
      have hx1' := hx1
      have hx2' := hx2
      cases l with
      | none =>
        cases hx1; cases hx2
        k_steps
        refine tuple_still [("worlds", .ref W), ("rows", .ref RR), ("user", .int (i : Int) t)] rfl (by assumption) (by assumption) (.head _) (by l_ints) (ps3 rfl rfl rfl) ?_ ?_
        · intro k t' u' h8 tk8 I8 oI8 hk hne8 F8 N8
          k_fold
          k_steps
          · subst_vars
            rename (_ != _) = true => q
            simp at q
          · exact loop_end (by assumption) (ps3 rfl rfl rfl) (by assumption) hne8 rfl
        · intro u' h8 tk8 F8 N8
          k_steps
          exact loop_end (by assumption) (ps2 rfl rfl) (News.drop (News.drop (News.drop (News.drop (by assumption))))) hne rfl
      | some e =>
        obtain ⟨t8, rfl⟩ := hx1; obtain ⟨t9, rfl⟩ := hx2
        k_steps
        refine tuple_still [("worlds", .ref W), ("rows", .ref RR), ("user", .int (i : Int) t)] rfl (by assumption) (by assumption) (.head _) (by l_ints) (ps3 rfl rfl rfl) ?_ ?_
        · intro k t' u' h8 tk8 I8 oI8 hk hne8 F8 N8
          k_fold
          k_steps
          · subst_vars
            rename (_ != _) = true => q
            simp at q
          · exact loop_end (by assumption) (ps3 rfl rfl rfl) (by assumption) hne8 rfl
        · intro u' h8 tk8 F8 N8
          k_steps
          exact loop_end (by assumption) (ps2 rfl rfl) (News.drop (News.drop (News.drop (News.drop (by assumption))))) hne rfl
  · intro u9 h9 tk9 F9 N9
    k_steps
    exact ret _ _ (by assumption) (by assumption)
end Mine
namespace Mine
open PySem.Calls PySem.Spec PyProof.V
section
variable {prog : Program} {w : World} {A : Around} {E : Value → Shared → Prop} {s : Shared} {h₀ : Heap} {L : Addr} {m : Str → Option Value}
theorem slice_raw {D SL NW : Addr} {items new : Array Value} {n k : Nat} {Q : Unit → Shared → Prop} (hD : s.heap.get? D = some (listOf items n)) (hN : s.heap.get? NW = some (listOf new k)) (ne : D ≠ NW)
    (hs : s.heap.IsSliceOf SL .none .none .none) (z1 : items.size ≤ 1000) (z2 : new.size ≤ 1000)
    (hQ : Q () { s with heap := s.heap.update D (Obj.mapSeq fun xs => xs.extract 0 0 ++ new ++ xs.extract items.size) }) :
    wpAny (model prog w) A (setItem (.ref D) (.ref SL) (.ref NW)) Q E s := by
  have hl : s.heap.IsList D items := PySem.IsL.isList (n := n) hD
  have hl2 : s.heap.IsList NW new := PySem.IsL.isList (n := k) hN
  obtain ⟨os, hos, hcs, hds⟩ := id hs
  have hTs : s.TypeIs (.ref SL) "slice" := ⟨os, hos, hcs⟩
  unfold setItem
  try with_reducible refine wpAny_holding ?_
  first | refine wpAny_bind (wpAny_pure ?_) | skip
  refine wpAny_bind (wpAny_sequenceKey hl.typeIs (by decide) ?_)
  refine wpAny_bind (wpAny_callSpecial?_slot (name := Str.ofString "__setitem__") hl.typeIs slot_list_setitem
    (wpAny_call_entry slot_list_setitem hl.typeIs entry_list_setitem ?_ (args_list_setitem _ _ _)))
  show wpAny _ _ (Builtin.List.listSubscript? (.ref SL) >>= _) _ _ s
  refine wpAny_bind ?_
  unfold Builtin.List.listSubscript?
  refine wpAny_bind (wpAny_specialOf hTs slice_no_index ?_)
  simp only [Option.isNone_none, if_true]
  refine wpAny_pure ?_
  show wpAny _ _ (typeOf (.ref SL) >>= _) _ _ s
  refine wpAny_bind (wpAny_typeOf hTs ?_)
  rw [if_neg (by decide)]
  rw [listSliceParts_eq]
  refine wpAny_bind (wpAny_bind (wpAny_field hos hds (x := Value.none) rfl (wpAny_bind (wpAny_listPart .none ?_))))
  rw [if_neg (by decide)]
  refine wpAny_bind (wpAny_field hos hds (x := Value.none) rfl (wpAny_bind (wpAny_listPart .none ?_)))
  refine wpAny_bind (wpAny_field hos hds (x := Value.none) rfl (wpAny_bind (wpAny_listPart .none (wpAny_pure ?_))))
  have hsr : Builtin.List.listSameRef (.ref D) (.ref NW) = false := by
    show (D == NW) = false
    simpa using ne
  rw [hsr]
  show wpAny _ _ (Builtin.List.listAllItems (.ref NW) _ >>= _) _ _ s
  refine wpAny_bind ?_
  unfold Builtin.List.listAllItems
  refine wpAny_bind (wpAny_typeOf hl2.typeIs ?_)
  rw [if_pos (by decide)]
  unfold Builtin.List.listItems
  refine wpAny_bind (wpAny_seqItems hN rfl (wpAny_pure ?_))
  refine wpAny_bind (wpAny_bind (wpAny_seqItems hD rfl (wpAny_pure ?_)))
  refine wpAny_bind (wpAny_of_eq (sliceIndices_raw none none none items.size (by simp)) ?_)
  have hb : sliceBounds none none none items.size = (0, (items.size : Int), 1) := rfl
  rw [hb]
  show wpAny _ _ (if ((1 : Int) == 1) = true then _ else _) _ _ s
  rw [if_pos (by decide)]
  refine wpAny_bind (wpAny_rule ?_)
  have htl : Builtin.List.listTooLong (items.size + new.size) = false := by
    show decide (items.size + new.size > sizeLine) = false
    rw [sizeLine_eq]
    exact decide_eq_false (by omega)
  rw [htl]
  show wpAny _ _ (updateSeq D (fun xs => xs.extract 0 (0 : Int).toNat ++ new ++ xs.extract (max (0 : Int) (items.size : Int)).toNat) >>= _) _ _ s
  have hm : (max (0 : Int) (items.size : Int)).toNat = items.size := by omega
  rw [hm]
  refine wpAny_bind (wpAny_updateSeq (hz := by show items.size ≤ _; rw [sizeLine_eq]; omega) (_hz' := by
    simp only [Array.size_append, Array.size_extract]
    rw [sizeLine_eq]; omega) hD rfl ?_)
  refine wpAny_bind (wpAny_letGo ?_)
  first
    | exact wpAny_bind (wpAny_pure (wpAny_pure ⟨.none, rfl, wpAny_pure hQ⟩))
    | exact wpAny_pure ⟨.none, rfl, wpAny_pure hQ⟩
theorem slice_set {D SL NW : Addr} {items new : Array Value} {n k : Nat} {news : List (Addr × Obj)} {g : Obj → List (Addr × Obj)} {Q : Unit → Shared → Prop} (F : Fr h₀ L s.heap m) (N : News h₀ L s.heap news) (U : UpdF D (listOf items n) news g)
    (hN : (NW, listOf new k) ∈ news) (hs : (SL, ({ cls := .type "slice", data := .fields #[.none, .none, .none] } : Obj)) ∈ news) (ne : D ≠ NW) (z1 : items.size ≤ 1000) (z2 : new.size ≤ 1000)
    (h : ∀ h' n', Fr h₀ L h' m → News h₀ L h' (g (listOf new n')) → Q () { s with heap := h' }) :
    wpAny (model prog w) A (setItem (.ref D) (.ref SL) (.ref NW)) Q E s := by
  obtain ⟨pre, post, rfl, hg, a, b⟩ := U.split
  have z := N (D, listOf items n) (List.mem_append.mpr (.inr (.head _)))
  refine slice_raw z.1 (N _ hN).1 ne ⟨_, (N _ hs).1, rfl, rfl⟩ z1 z2 (h _ (if new.size == items.size then n else n + 1) (F.change (Heap.SameBut.update ..) z.2.1 z.2.2) ?_)
  rw [hg]
  refine ki_turn _ N a b ?_ rfl
  apply Array.toList_inj.mp
  simp
end
end Mine
namespace Mine
open PyProof.V PySem.Calls PySem.Spec
theorem va_map {k u : Int} {v : Value} : ∀ kvs : List (Int × Value), valueAt (kvs.map fun kv => if kv.1 = k then (kv.1, v) else kv) u = if u = k then (if kvs.any (fun kv => kv.1 = k) then some v else none) else valueAt kvs u
  | [] => by by_cases h : u = k <;> simp [valueAt, h]
  | p :: r => by
    have ih := va_map (k := k) (u := u) (v := v) r
    by_cases h : u = k
    · subst h
      simp only [if_true] at ih ⊢
      by_cases hp : p.1 = u
      · simp [valueAt, hp]
      · have : (valueAt (List.map (fun kv => if kv.1 = u then (kv.1, v) else kv) (p :: r)) u) = valueAt (r.map fun kv => if kv.1 = u then (kv.1, v) else kv) u := by
          simp [valueAt, hp]
        have hd : decide (p.1 = u) = false := by simp [hp]
        rw [this, ih, List.any_cons, hd, Bool.false_or]
    · simp only [h, if_false] at ih ⊢
      by_cases hp : p.1 = u
      · have : ¬ p.1 = k := fun e => h (hp.symm.trans e)
        simp [valueAt, hp, h]
      · have h1 : valueAt (p :: r) u = valueAt r u := by simp [valueAt, hp]
        rw [h1, ← ih]
        by_cases hk : p.1 = k <;> simp [valueAt, hk, hp, Ne.symm h]
theorem va_app {k u : Int} {v : Value} : ∀ kvs : List (Int × Value), valueAt kvs k = none → valueAt (kvs ++ [(k, v)]) u = if u = k then some v else valueAt kvs u
  | [], _ => by by_cases h : u = k <;> simp [valueAt, h, Ne.symm]
  | p :: r, hn => by
    by_cases hp : p.1 = k
    · simp [valueAt, hp] at hn
    · have hn' : valueAt r k = none := by simpa [valueAt, hp] using hn
      have ih := va_app (u := u) (v := v) r hn'
      by_cases hu : p.1 = u
      · have : ¬ u = k := fun e => hp (hu.trans e)
        simp [valueAt, hu, this]
      · have h1 : valueAt (p :: r) u = valueAt r u := by simp [valueAt, hu]
        have h2 : valueAt (p :: r ++ [(k, v)]) u = valueAt (r ++ [(k, v)]) u := by simp [valueAt, hu]
        rw [h1, h2, ih]
theorem va_stored {kvs : List (Int × Value)} {k u : Int} {v : Value} : valueAt (stored kvs k v) u = if u = k then some v else valueAt kvs u := by
  unfold stored
  by_cases h : kvs.any (fun kv => kv.1 = k) = true
  · rw [if_pos h, va_map, if_pos h]
  · rw [if_neg h]
    refine va_app kvs ?_
    have := PyProof.Rows.valueAt_isSome_eq_any kvs k
    rw [Bool.eq_false_iff.mpr h] at this
    cases e : valueAt kvs k with
    | none => rfl
    | some x => rw [e] at this; cases this

theorem stored_has {kvs : List (Int × Value)} {k : Int} {x v : Value} (h : valueAt kvs k = some x) : (stored kvs k v).length = kvs.length := by
  have h1 := PyProof.Rows.valueAt_isSome_eq_any kvs k
  rw [h] at h1
  unfold stored
  have h2 : (kvs.any fun kv => decide (kv.1 = k)) = true := h1.symm
  rw [if_pos h2, List.length_map]
abbrev St := Int → Option (Int × Option Int)
structure Par where
  H : Addr
  HIT : Addr
  WR : Addr
  RR : Addr
  fx : List (Addr × Obj)
def Par.add (P : Par) (q : Addr × Obj) : Par := { P with fx := q :: P.fx }
structure Par.Free (P : Par) (a : Addr) : Prop where
  h : a ≠ P.H
  hit : a ≠ P.HIT
  wr : a ≠ P.WR
  rr : a ≠ P.RR
  fx : ∀ q ∈ P.fx, q.1 ≠ a
structure Par.Ok (P : Par) : Prop where
  hh : P.HIT ≠ P.H
  hw : P.WR ≠ P.H
  hr : P.RR ≠ P.H
  tw : P.WR ≠ P.HIT
  tr : P.RR ≠ P.HIT
  wr : P.RR ≠ P.WR
  low : (P.WR == sysModules) = false
  lor : (P.RR == sysModules) = false
  fh : ∀ q ∈ P.fx, q.1 ≠ P.H
  ft : ∀ q ∈ P.fx, q.1 ≠ P.HIT
  fw : ∀ q ∈ P.fx, q.1 ≠ P.WR
  fr : ∀ q ∈ P.fx, q.1 ≠ P.RR
def TupAt (news : List (Addr × Obj)) (P : Par) (kvs : List (Int × Value)) (u : Int) : Option (Int × Option Int) → Prop
  | none => (valueAt kvs u).isSome = false
  | some (f, l) => ∃ ta x t n, valueAt kvs u = some (.ref ta) ∧ P.Free ta ∧ (ta, tupObj #[.int f t, x] n) ∈ news ∧ OptV x l
def LstAt (news : List (Addr × Obj)) (P : Par) (kvs : List (Int × Value)) (u : Int) : Option (Int × Option Int) → Prop
  | none => (valueAt kvs u).isSome = false
  | some (f, l) => ∃ la x t n, valueAt kvs u = some (.ref la) ∧ P.Free la ∧ (la, listOf #[.int f t, x] n) ∈ news ∧ OptV x l
def set (σ : St) (u : Int) (p : Int × Option Int) : St := fun y => if y = u then some p else σ y
theorem set_same {σ : St} {u : Int} {p : Int × Option Int} (h : σ u = some p) : set σ u p = σ := by
  funext y
  by_cases e : y = u
  · simp [set, e, h]
  · simp [set, e]
abbrev pr := PySem.Challenge.rw_pc0217_01.prog
structure D1 (w : World) (P : Par) (k : Nat) (σ : St) (news : List (Addr × Obj)) (o : Obj) (kvs : List (Int × Value)) : Prop where
  mem : (P.WR, o) ∈ news
  dict : o.IsDictOf (PySem.intKind pr w) kvs
  len : kvs.length ≤ k
  at' : ∀ u, TupAt news P kvs u (σ u)
structure D2 (w : World) (P : Par) (k : Nat) (σ : St) (news : List (Addr × Obj)) (o : Obj) (kvs : List (Int × Value)) : Prop where
  mem : (P.RR, o) ∈ news
  dict : o.IsDictOf (PySem.intKind pr w) kvs
  len : kvs.length ≤ k
  at' : ∀ u, LstAt news P kvs u (σ u)
  inj : ∀ u u' la, valueAt kvs u = some (.ref la) → valueAt kvs u' = some (.ref la) → u = u'
structure Inv (w : World) (P : Par) (k : Nat) (σ1 σ2 : St) (ns : List Int) (news : List (Addr × Obj)) : Prop where
  ok : P.Ok
  fixed : ∀ q ∈ P.fx, q ∈ news
  hop : ∃ va vb ta tb n, (P.H, listOf #[.int va ta, .int vb tb] n) ∈ news ∧ 0 ≤ vb ∧ vb < 2147483587
  hit : ∃ vs n, (P.HIT, listOf vs.toArray n) ∈ news ∧ IntsAre vs ns
  d1 : ∃ o kvs, D1 w P k σ1 news o kvs
  d2 : ∃ o kvs, D2 w P k σ2 news o kvs
theorem TupAt.mono {news news' : List (Addr × Obj)} {P : Par} {kvs : List (Int × Value)} {u : Int} {p : Option (Int × Option Int)} (x : TupAt news P kvs u p)
    (h : ∀ a t y n, (a, tupObj #[t, y] n) ∈ news → P.Free a → (a, tupObj #[t, y] n) ∈ news') : TupAt news' P kvs u p := by
  cases p with
  | none => exact x
  | some q =>
    obtain ⟨f, l⟩ := q
    obtain ⟨ta, y, t, n, hv, hf, hm, ho⟩ := x
    exact ⟨ta, y, t, n, hv, hf, h _ _ _ _ hm hf, ho⟩
theorem LstAt.mono {news news' : List (Addr × Obj)} {P : Par} {kvs : List (Int × Value)} {u : Int} {p : Option (Int × Option Int)} (x : LstAt news P kvs u p)
    (h : ∀ a t y n, (a, listOf #[t, y] n) ∈ news → P.Free a → (a, listOf #[t, y] n) ∈ news') : LstAt news' P kvs u p := by
  cases p with
  | none => exact x
  | some q =>
    obtain ⟨f, l⟩ := q
    obtain ⟨ta, y, t, n, hv, hf, hm, ho⟩ := x
    exact ⟨ta, y, t, n, hv, hf, h _ _ _ _ hm hf, ho⟩
section
variable {w : World} {P : Par} {k : Nat} {σ1 σ2 σ : St} {ns : List Int} {news news' : List (Addr × Obj)} {o o1 o2 : Obj} {kvs kvs1 kvs2 : List (Int × Value)}
theorem D1.mono (x : D1 w P k σ news o kvs) (h : ∀ q ∈ news, q ∈ news') : D1 w P k σ news' o kvs :=
  ⟨h _ x.mem, x.dict, x.len, fun u => (x.at' u).mono fun _ _ _ _ hm _ => h _ hm⟩
theorem D2.mono (x : D2 w P k σ news o kvs) (h : ∀ q ∈ news, q ∈ news') : D2 w P k σ news' o kvs :=
  ⟨h _ x.mem, x.dict, x.len, fun u => (x.at' u).mono fun _ _ _ _ hm _ => h _ hm, x.inj⟩
theorem Inv.mono (I : Inv w P k σ1 σ2 ns news) (h : ∀ q ∈ news, q ∈ news') : Inv w P k σ1 σ2 ns news' := by
  obtain ⟨ok, fx, ⟨va, vb, ta, tb, n, hm, r⟩, ⟨vs, n2, hm2, r2⟩, ⟨o1, k1, d1⟩, ⟨o2, k2, d2⟩⟩ := I
  exact ⟨ok, fun q hq => h _ (fx q hq), ⟨va, vb, ta, tb, n, h _ hm, r⟩, ⟨vs, n2, h _ hm2, r2⟩, ⟨o1, k1, d1.mono h⟩, ⟨o2, k2, d2.mono h⟩⟩
theorem Inv.cons (I : Inv w P k σ1 σ2 ns news) (q : Addr × Obj) : Inv w P k σ1 σ2 ns (q :: news) := I.mono fun _ h => .tail _ h
theorem Inv.up (I : Inv w P k σ1 σ2 ns news) {k' : Nat} (h : k ≤ k') : Inv w P k' σ1 σ2 ns news := by
  obtain ⟨ok, fx, a, b, ⟨o1, k1, d1⟩, ⟨o2, k2, d2⟩⟩ := I
  exact ⟨ok, fx, a, b, ⟨o1, k1, d1.mem, d1.dict, Nat.le_trans d1.len h, d1.at'⟩, ⟨o2, k2, d2.mem, d2.dict, Nat.le_trans d2.len h, d2.at', d2.inj⟩⟩
theorem Inv.freeOf (I : Inv w P k σ1 σ2 ns news) {a : Addr} (h : ∀ p ∈ news, p.1 ≠ a) : P.Free a := by
  obtain ⟨ok, fx, ⟨va, vb, ta, tb, n, hm, r⟩, ⟨vs, n2, hm2, r2⟩, ⟨o1, k1, d1⟩, ⟨o2, k2, d2⟩⟩ := I
  exact ⟨Ne.symm (h _ hm), Ne.symm (h _ hm2), Ne.symm (h _ d1.mem), Ne.symm (h _ d2.mem), fun q hq => h _ (fx q hq)⟩
theorem ne_of_lts {a : Addr} (h : ∀ p ∈ news, p.1 < a) : ∀ p ∈ news, p.1 ≠ a := fun p hp => Nat.ne_of_lt (h p hp)
theorem Inv.fresh (I : Inv w P k σ1 σ2 ns news) {a : Addr} (h : ∀ p ∈ news, p.1 < a) : P.Free a := I.freeOf (ne_of_lts h)
theorem TupAt.sub (x : ∀ u, TupAt news P kvs u (σ u)) {u : Int} {ta : Addr} (hv : valueAt kvs u = some (.ref ta)) : P.Free ta ∧ ∃ f y n, (ta, tupObj #[f, y] n) ∈ news := by
  have := x u
  cases h : σ u with
  | none => rw [h] at this; have t : (valueAt kvs u).isSome = false := this; rw [hv] at t; cases t
  | some p =>
    obtain ⟨f, l⟩ := p
    rw [h] at this
    obtain ⟨ta', y, t, n, hv', hf, hm, _⟩ := this
    rw [hv] at hv'; cases hv'
    exact ⟨hf, _, _, _, hm⟩
theorem LstAt.sub (x : ∀ u, LstAt news P kvs u (σ u)) {u : Int} {ta : Addr} (hv : valueAt kvs u = some (.ref ta)) : P.Free ta ∧ ∃ f y n, (ta, listOf #[f, y] n) ∈ news := by
  have := x u
  cases h : σ u with
  | none => rw [h] at this; have t : (valueAt kvs u).isSome = false := this; rw [hv] at t; cases t
  | some p =>
    obtain ⟨f, l⟩ := p
    rw [h] at this
    obtain ⟨ta', y, t, n, hv', hf, hm, _⟩ := this
    rw [hv] at hv'; cases hv'
    exact ⟨hf, _, _, _, hm⟩
theorem Par.Free.add {a : Addr} {q : Addr × Obj} (x : P.Free a) (h : q.1 ≠ a) : (P.add q).Free a :=
  ⟨x.h, x.hit, x.wr, x.rr, fun p hp => by
    rcases List.mem_cons.mp hp with rfl | hp
    · exact h
    · exact x.fx p hp⟩
theorem Par.Free.drop {a : Addr} {q : Addr × Obj} (x : (P.add q).Free a) : P.Free a := ⟨x.h, x.hit, x.wr, x.rr, fun p hp => x.fx p (.tail _ hp)⟩
/-- what a call needs stays: it stands with the fixed part -/
theorem Inv.keep (I : Inv w P k σ1 σ2 ns news) {q : Addr × Obj} (h : ∀ p ∈ news, p.1 ≠ q.1) : Inv w (P.add q) k σ1 σ2 ns (q :: news) := by
  have fr := I.freeOf h
  obtain ⟨ok, fx, ⟨va, vb, ta, tb, n, hm, r⟩, ⟨vs, n2, hm2, r2⟩, ⟨o1, k1, d1⟩, ⟨o2, k2, d2⟩⟩ := I
  refine ⟨⟨ok.hh, ok.hw, ok.hr, ok.tw, ok.tr, ok.wr, ok.low, ok.lor, ?_, ?_, ?_, ?_⟩, ?_, ⟨va, vb, ta, tb, n, .tail _ hm, r⟩, ⟨vs, n2, .tail _ hm2, r2⟩, ⟨o1, k1, .tail _ d1.mem, d1.dict, d1.len, fun u => ?_⟩, ⟨o2, k2, .tail _ d2.mem, d2.dict, d2.len, fun u => ?_, d2.inj⟩⟩
  · exact fun p hp => (List.mem_cons.mp hp).elim (fun e => e ▸ fr.h) (ok.fh p)
  · exact fun p hp => (List.mem_cons.mp hp).elim (fun e => e ▸ fr.hit) (ok.ft p)
  · exact fun p hp => (List.mem_cons.mp hp).elim (fun e => e ▸ fr.wr) (ok.fw p)
  · exact fun p hp => (List.mem_cons.mp hp).elim (fun e => e ▸ fr.rr) (ok.fr p)
  · exact fun p hp => (List.mem_cons.mp hp).elim (fun e => e ▸ .head _) fun hp => .tail _ (fx p hp)
  · have x := d1.at' u
    revert x
    cases σ1 u with
    | none => exact id
    | some p =>
      rintro ⟨ta, y, t, n, hv, hf, hm, ho⟩
      exact ⟨ta, y, t, n, hv, hf.add (Ne.symm (h _ hm)), .tail _ hm, ho⟩
  · have x := d2.at' u
    revert x
    cases σ2 u with
    | none => exact id
    | some p =>
      rintro ⟨ta, y, t, n, hv, hf, hm, ho⟩
      exact ⟨ta, y, t, n, hv, hf.add (Ne.symm (h _ hm)), .tail _ hm, ho⟩
theorem Inv.leave {q : Addr × Obj} (I : Inv w (P.add q) k σ1 σ2 ns news) : Inv w P k σ1 σ2 ns news := by
  obtain ⟨ok, fx, a, b, ⟨o1, k1, d1⟩, ⟨o2, k2, d2⟩⟩ := I
  refine ⟨⟨ok.hh, ok.hw, ok.hr, ok.tw, ok.tr, ok.wr, ok.low, ok.lor, fun p hp => ok.fh p (.tail _ hp), fun p hp => ok.ft p (.tail _ hp), fun p hp => ok.fw p (.tail _ hp), fun p hp => ok.fr p (.tail _ hp)⟩, fun p hp => fx p (.tail _ hp), a, b,
    ⟨o1, k1, d1.mem, d1.dict, d1.len, fun u => ?_⟩, ⟨o2, k2, d2.mem, d2.dict, d2.len, fun u => ?_, d2.inj⟩⟩
  · have x := d1.at' u
    revert x
    cases σ1 u with
    | none => exact id
    | some p =>
      rintro ⟨ta, y, t, n, hv, hf, hm, ho⟩
      exact ⟨ta, y, t, n, hv, hf.drop, hm, ho⟩
  · have x := d2.at' u
    revert x
    cases σ2 u with
    | none => exact id
    | some p =>
      rintro ⟨ta, y, t, n, hv, hf, hm, ho⟩
      exact ⟨ta, y, t, n, hv, hf.drop, hm, ho⟩
theorem Inv.off {q : Addr × Obj} (I : Inv w (P.add q) k σ1 σ2 ns news) (h : ∀ p ∈ P.fx, p.1 ≠ q.1) : Inv w P k σ1 σ2 ns (others news q.1) := by
  obtain ⟨ok, fx, ⟨va, vb, ta, tb, n, hm, r⟩, ⟨vs, n2, hm2, r2⟩, ⟨o1, k1, d1⟩, ⟨o2, k2, d2⟩⟩ := I
  refine ⟨⟨ok.hh, ok.hw, ok.hr, ok.tw, ok.tr, ok.wr, ok.low, ok.lor, fun p hp => ok.fh p (.tail _ hp), fun p hp => ok.ft p (.tail _ hp), fun p hp => ok.fw p (.tail _ hp), fun p hp => ok.fr p (.tail _ hp)⟩, fun p hp => others_mem (fx p (.tail _ hp)) (h p hp),
    ⟨va, vb, ta, tb, n, others_mem hm (Ne.symm (ok.fh q (.head _))), r⟩, ⟨vs, n2, others_mem hm2 (Ne.symm (ok.ft q (.head _))), r2⟩,
    ⟨o1, k1, others_mem d1.mem (Ne.symm (ok.fw q (.head _))), d1.dict, d1.len, fun u => ?_⟩, ⟨o2, k2, others_mem d2.mem (Ne.symm (ok.fr q (.head _))), d2.dict, d2.len, fun u => ?_, d2.inj⟩⟩
  · have x := d1.at' u
    revert x
    cases σ1 u with
    | none => exact id
    | some p =>
      rintro ⟨ta, y, t, n, hv, hf, hm, ho⟩
      exact ⟨ta, y, t, n, hv, hf.drop, others_mem hm (Ne.symm (hf.fx q (.head _))), ho⟩
  · have x := d2.at' u
    revert x
    cases σ2 u with
    | none => exact id
    | some p =>
      rintro ⟨ta, y, t, n, hv, hf, hm, ho⟩
      exact ⟨ta, y, t, n, hv, hf.drop, others_mem hm (Ne.symm (hf.fx q (.head _))), ho⟩
theorem Inv.hopSet (I : Inv w P k σ1 σ2 ns news) {va vb : Int} {ta tb : Tok} {n : Nat} (h0 : 0 ≤ vb) (h1 : vb < 2147483587) : Inv w P k σ1 σ2 ns (upd news P.H (listOf #[.int va ta, .int vb tb] n)) := by
  obtain ⟨ok, fx, ⟨va', vb', ta', tb', n', hm, r⟩, ⟨vs, n2, hm2, r2⟩, ⟨o1, k1, d1⟩, ⟨o2, k2, d2⟩⟩ := I
  exact ⟨ok, fun q hq => upd_ne (fx q hq) (ok.fh q hq), ⟨va, vb, ta, tb, n, upd_at hm, h0, h1⟩, ⟨vs, n2, upd_ne hm2 ok.hh, r2⟩,
    ⟨o1, k1, upd_ne d1.mem ok.hw, d1.dict, d1.len, fun u => (d1.at' u).mono fun _ _ _ _ hm hf => upd_ne hm hf.h⟩, ⟨o2, k2, upd_ne d2.mem ok.hr, d2.dict, d2.len, fun u => (d2.at' u).mono fun _ _ _ _ hm hf => upd_ne hm hf.h, d2.inj⟩⟩
theorem Inv.hitSet (I : Inv w P k σ1 σ2 ns news) {vs : List Value} {ns' : List Int} {n : Nat} (hi : IntsAre vs ns') : Inv w P k σ1 σ2 ns' (upd news P.HIT (listOf vs.toArray n)) := by
  obtain ⟨ok, fx, ⟨va', vb', ta', tb', n', hm, r⟩, ⟨vs2, n2, hm2, r2⟩, ⟨o1, k1, d1⟩, ⟨o2, k2, d2⟩⟩ := I
  exact ⟨ok, fun q hq => upd_ne (fx q hq) (ok.ft q hq), ⟨va', vb', ta', tb', n', upd_ne hm (Ne.symm ok.hh), r⟩, ⟨vs, n, upd_at hm2, hi⟩,
    ⟨o1, k1, upd_ne d1.mem ok.tw, d1.dict, d1.len, fun u => (d1.at' u).mono fun _ _ _ _ hm hf => upd_ne hm hf.hit⟩, ⟨o2, k2, upd_ne d2.mem ok.tr, d2.dict, d2.len, fun u => (d2.at' u).mono fun _ _ _ _ hm hf => upd_ne hm hf.hit, d2.inj⟩⟩
theorem Inv.tupSet (I : Inv w P k σ1 σ2 ns news) (d1 : D1 w P k σ1 news o kvs) {k' : Nat} {u f : Int} {l : Option Int} {ta : Addr} {x : Value} {t : Tok} {n : Nat} {o' : Obj} (hk : (stored kvs u (.ref ta)).length ≤ k') (hkk : k ≤ k') (hd : o'.IsDictOf (PySem.intKind pr w) (stored kvs u (.ref ta)))
    (h : ∀ p ∈ news, p.1 < ta) (ho : OptV x l) : Inv w P k' (set σ1 u (f, l)) σ2 ns ((ta, tupObj #[.int f t, x] n) :: upd news P.WR o') := by
  have fr := I.fresh h
  obtain ⟨ok, fx, ⟨va', vb', ta', tb', n', hm, r⟩, ⟨vs, n2, hm2, r2⟩, _, ⟨o2, k2, d2⟩⟩ := I
  refine ⟨ok, fun q hq => .tail _ (upd_ne (fx q hq) (ok.fw q hq)), ⟨va', vb', ta', tb', n', .tail _ (upd_ne hm (Ne.symm ok.hw)), r⟩, ⟨vs, n2, .tail _ (upd_ne hm2 (Ne.symm ok.tw)), r2⟩,
    ⟨o', _, .tail _ (upd_at d1.mem), hd, hk, fun y => ?_⟩, ⟨o2, k2, .tail _ (upd_ne d2.mem ok.wr), d2.dict, Nat.le_trans d2.len hkk, fun y => (d2.at' y).mono fun _ _ _ _ hm hf => .tail _ (upd_ne hm hf.wr), d2.inj⟩⟩
  by_cases e : y = u
  · have e1 : set σ1 u (f, l) y = some (f, l) := by simp [set, e]
    rw [e1]
    exact ⟨ta, x, t, n, by rw [va_stored, if_pos e], fr, .head _, ho⟩
  · have e1 : set σ1 u (f, l) y = σ1 y := by simp [set, e]
    have hva : ∀ v, valueAt (stored kvs u v) y = valueAt kvs y := fun v => by rw [va_stored, if_neg e]
    rw [e1]
    have x := d1.at' y
    revert x
    cases σ1 y with
    | none => exact fun x => by show (valueAt _ y).isSome = false; rw [hva]; exact x
    | some p =>
      rintro ⟨ta, y, t, n, hv, hf, hm, ho⟩
      exact ⟨ta, y, t, n, by rw [hva]; exact hv, hf, .tail _ (upd_ne hm hf.wr), ho⟩
theorem Inv.lstNew (I : Inv w P k σ1 σ2 ns news) (d2 : D2 w P k σ2 news o kvs) {k' : Nat} {u f : Int} {l : Option Int} {la : Addr} {x : Value} {t : Tok} {n : Nat} {o' : Obj} (hk : (stored kvs u (.ref la)).length ≤ k') (hkk : k ≤ k') (hd : o'.IsDictOf (PySem.intKind pr w) (stored kvs u (.ref la)))
    (h : ∀ p ∈ news, p.1 < la) (ho : OptV x l) : Inv w P k' σ1 (set σ2 u (f, l)) ns ((la, listOf #[.int f t, x] n) :: upd news P.RR o') := by
  have fr := I.fresh h
  obtain ⟨ok, fx, ⟨va', vb', ta', tb', n', hm, r⟩, ⟨vs, n2, hm2, r2⟩, ⟨o1, k1, d1⟩, _⟩ := I
  have old : ∀ y, valueAt kvs y ≠ some (.ref la) := fun y e => by
    obtain ⟨_, f, y, n, hm⟩ := LstAt.sub d2.at' e
    exact Nat.lt_irrefl _ (h _ hm)
  refine ⟨ok, fun q hq => .tail _ (upd_ne (fx q hq) (ok.fr q hq)), ⟨va', vb', ta', tb', n', .tail _ (upd_ne hm (Ne.symm ok.hr)), r⟩, ⟨vs, n2, .tail _ (upd_ne hm2 (Ne.symm ok.tr)), r2⟩,
    ⟨o1, k1, .tail _ (upd_ne d1.mem (Ne.symm ok.wr)), d1.dict, Nat.le_trans d1.len hkk, fun y => (d1.at' y).mono fun _ _ _ _ hm hf => .tail _ (upd_ne hm hf.rr)⟩, ⟨o', _, .tail _ (upd_at d2.mem), hd, hk, fun y => ?_, ?_⟩⟩
  · by_cases e : y = u
    · have e1 : set σ2 u (f, l) y = some (f, l) := by simp [set, e]
      rw [e1]
      exact ⟨la, x, t, n, by rw [va_stored, if_pos e], fr, .head _, ho⟩
    · have e1 : set σ2 u (f, l) y = σ2 y := by simp [set, e]
      have hva : ∀ v, valueAt (stored kvs u v) y = valueAt kvs y := fun v => by rw [va_stored, if_neg e]
      rw [e1]
      have x := d2.at' y
      revert x
      cases σ2 y with
      | none => exact fun x => by show (valueAt _ y).isSome = false; rw [hva]; exact x
      | some p =>
        rintro ⟨ta, y, t, n, hv, hf, hm, ho⟩
        exact ⟨ta, y, t, n, by rw [hva]; exact hv, hf, .tail _ (upd_ne hm hf.rr), ho⟩
  · intro y y' a h1 h2
    rw [va_stored] at h1 h2
    by_cases e1 : y = u
    · by_cases e2 : y' = u
      · rw [e1, e2]
      · rw [if_pos e1] at h1; rw [if_neg e2] at h2
        cases h1
        exact absurd h2 (old y')
    · by_cases e2 : y' = u
      · rw [if_neg e1] at h1; rw [if_pos e2] at h2
        cases h2
        exact absurd h1 (old y)
      · rw [if_neg e1] at h1; rw [if_neg e2] at h2
        exact d2.inj _ _ _ h1 h2
theorem Inv.lstSet (I : Inv w P k σ1 σ2 ns news) (d2 : D2 w P k σ2 news o kvs) {h₀ h : Heap} {L : Addr} (N : News h₀ L h news) {u f : Int} {l : Option Int} {la : Addr} {x : Value} {t : Tok} {n : Nat}
    (hv : valueAt kvs u = some (.ref la)) (ho : OptV x l) : Inv w P k σ1 (set σ2 u (f, l)) ns (upd news la (listOf #[.int f t, x] n)) := by
  obtain ⟨fr, f0, y0, n0, hm0⟩ := LstAt.sub d2.at' hv
  obtain ⟨ok, fx, ⟨va', vb', ta', tb', n', hm, r⟩, ⟨vs, n2, hm2, r2⟩, ⟨o1, k1, d1⟩, _⟩ := I
  refine ⟨ok, fun q hq => upd_ne (fx q hq) (fr.fx q hq), ⟨va', vb', ta', tb', n', upd_ne hm (Ne.symm fr.h), r⟩, ⟨vs, n2, upd_ne hm2 (Ne.symm fr.hit), r2⟩,
    ⟨o1, k1, upd_ne d1.mem (Ne.symm fr.wr), d1.dict, d1.len, fun y => (d1.at' y).mono fun a t y n hm hf => upd_ne hm fun e => ?_⟩, ⟨o, kvs, upd_ne d2.mem (Ne.symm fr.rr), d2.dict, d2.len, fun y => ?_, d2.inj⟩⟩
  · have h1 := (N _ hm).1
    have h2 := (N _ hm0).1
    subst e
    rw [h1] at h2
    have h3 := congrArg Obj.cls (Option.some.inj h2)
    have h4 : Value.type "tuple" = Value.type "list" := h3
    injection h4 with h5
    exact absurd h5 (by decide)
  · by_cases e : y = u
    · have e1 : set σ2 u (f, l) y = some (f, l) := by simp [set, e]
      rw [e1]
      exact ⟨la, x, t, n, by rw [e]; exact hv, fr, upd_at hm0, ho⟩
    · have e1 : set σ2 u (f, l) y = σ2 y := by simp [set, e]
      rw [e1]
      have x := d2.at' y
      revert x
      cases σ2 y with
      | none => exact id
      | some p =>
        rintro ⟨ta, z, t, n, hv', hf, hm, ho⟩
        exact ⟨ta, z, t, n, hv', hf, upd_ne hm (fun e' => e (d2.inj _ _ _ hv' (e' ▸ hv))), ho⟩
theorem Inv.rows (d1 : D1 w P k σ news o1 kvs1) (d2 : D2 w P k σ news o2 kvs2) : RowsAre news kvs1 kvs2 := by
  intro u
  have h1 := d1.at' u
  have h2 := d2.at' u
  revert h1 h2
  cases σ u with
  | none => exact fun h1 h2 => .inl ⟨h1, h2⟩
  | some p =>
    rintro ⟨ta, x, t, n, hv, hf, hm, ho⟩ ⟨la, x2, t2, n2, hv2, hf2, hm2, ho2⟩
    exact .inr ⟨ta, la, p.1, p.2, x, x2, t, t2, n, n2, hv, hv2, hm, hm2, ho, ho2⟩
end
/-- those of S that were begun have their end -/
def mark (σ : St) (w : Int) (S : List Int) : St := fun y => if y ∈ S then (σ y).map fun p => (p.1, some w) else σ y
theorem mark_nil {σ : St} {w : Int} : mark σ w [] = σ := by
  funext y
  simp [mark]
theorem mark_snoc {σ : St} {w u f : Int} {l : Option Int} {S : List Int} (h : σ u = some (f, l)) : mark σ w (S ++ [u]) = set (mark σ w S) u (f, some w) := by
  funext y
  by_cases e : y = u
  · simp [mark, set, e, h]
  · simp [mark, set, e]
theorem mark_in {σ : St} {w u f : Int} {l : Option Int} {S : List Int} (h : σ u = some (f, l)) : mark σ w S u = some (f, if u ∈ S then some w else l) := by
  by_cases e : u ∈ S <;> simp [mark, e, h]
/-- begun, and without an end -/
def open' (σ : St) (u : Int) : Bool := match σ u with | some (_, none) => true | _ => false
theorem open_some {σ : St} {u : Int} (h : open' σ u = true) : ∃ f, σ u = some (f, none) := by
  unfold open' at h
  split at h
  · exact ⟨_, by assumption⟩
  · cases h
end Mine
namespace Mine
open PyProof.V PySem.Calls PySem.Spec
local macro_rules | `(tactic| ktr_room) => `(tactic| ((try simp only [depth_under_make, depth_under_kw, depth_in1, depth_deeper, depth_caller]); (try dsimp only [ktrTop]); omega))
local macro_rules | `(tactic| k_room) => `(tactic| ktr_room)
local macro_rules | `(tactic| ke_room) => `(tactic| ((try simp only [units_in1, units_deeper, Around.mark_units, units_caller]); (try dsimp only [ktrTop]); omega))
local macro_rules | `(tactic| walk_at "ite") => `(tactic| (k_closed; with_reducible (first | refine ite_pos (by decide) ?_ | refine ite_neg (by decide) ?_)))
local macro_rules | `(tactic| k_all) => `(tactic| assumption)
local macro_rules | `(tactic| k_mem) => `(tactic| assumption)

theorem News.cut2 {h₀ h : Heap} {L : Addr} {a b : Addr × Obj} {r : List (Addr × Obj)} (N : News h₀ L h (a :: b :: r)) : News h₀ L h (a :: r) := fun p hp => N p (by
  rcases List.mem_cons.mp hp with rfl | hp
  · exact .head _
  · exact .tail _ (.tail _ hp))
theorem hopper_spec {w : World} {p : Program} {loose : List Str} {mean : ExcName → Option Value} {mg mb : Str → Option Value}
    {dp un : Nat} {gd : Option (List Code)} {cn : Str} {cs : Scope} {L a : Addr} {ccd : Value} {cl : List (Str × Addr)} {outer : List Env} {A₀ : Around} {base h₀ : Heap} {m : Str → Option Value}
    {news : List (Addr × Obj)} {s : Shared} {Q E : Value → Shared → Prop}
    (B : Below A₀ base outer h₀) (F : Fr h₀ L s.heap m) (X : (frag.heap_1 w.params).In h₀) (N : News h₀ L s.heap news) (T : Top p loose mean mg mb h₀) (hk : cs.kind = .function) (hdp : dp + 20 < recursionLimit) (hun : un + 200 < cLine)
  {l : Addr} {vs : List Value} {ns : List Int} (hl : h₀.IsList l vs.toArray) (hi : IntsAre vs ns) (hlen : ns.length ≤ 63)
  (ret : ∀ (D : Addr) (va vb : Int) (ta tb : Tok) (n : Nat) h' tk', 0 ≤ vb → vb < 2147483587 → (∀ p ∈ news, p.1 < D) → Fr h₀ L h' m → News h₀ L h' ((D, listOf #[.int va ta, .int vb tb] n) :: news) → Q (.ref D) { s with heap := h', toks := tk' }) :
  wpAny (model PySem.Challenge.rw_pc0217_01.prog w) (ktrTop dp un gd cn cs L a ccd cl outer) (call (.ref 713) [.ref l]) Q E s := by
  revert X; k_fill; intro X
  k_with "pyIter ref" => k_state (fun pre meal => 0 ≤ meal ∧ meal < 2147483587) "meal"
  refine wpAny_call ?_
  k_dflt ktr_enter
  rename Fr h₀ L _ m => FG
  have hl2 := hl.at fun o e => FG.keep l o e
  k_steps
  all_goals (rename @LT.lt Nat _ _ _ ∧ AllLt _ news => l1; exact ret _ _ _ _ _ _ _ _ (by assumption) (by assumption) (lt_of_all l1.2) (by assumption) (News.cut2 (by assumption)))
end Mine
namespace Mine
open PySem.Calls PySem.Spec PyProof.V
section
variable {prog : Program} {w : World} {A : Around} {E : Value → Shared → Prop} {s : Shared} {K : Frag} {x C f L : Addr} {ox : Obj} {name : Str} {h₀ : Heap} {m : Str → Option Value} {es : List DictEntry} {n : Nat} {pl : Sem Bool} {Q : Value × List Value → Shared → Prop} {g v : Value}
theorem findObj_shadow (hh : hasDictIn K C = true) (ha : findIn K (.ref C) name = some (some (.ref f))) (hg : specialIn K (.ref f) "__get__" = some (some g)) (ht : takesIn K (.ref f) = some false) (hl : getL name es = some (some v)) :
    findObj K C (some (dictOf es n)) name = some (.value v) := by
  obtain ⟨cd, hc', hd⟩ := any_some hh
  unfold findObj
  have ho : PySem.W.ownOf cd (some (dictOf es n)) name = some (some v) := by unfold PySem.W.ownOf; rw [if_pos hd]; exact (lookIn_dict name es n).trans hl
  rw [hc', Option.bind_some, ha, Option.bind_some]
  simp only [hg, ht, Option.bind_some, ho]
/-- a function of the class behind an attribute of the instance's own: the instance's is taken -/
theorem method_shadow (F : Fr h₀ L s.heap m) (X₀ : K.In h₀) (I : InstAt s.heap x ox C (some (dictOf es n))) (hg : plainGet K C name = true) (hh : hasDictIn K C = true) (hf : findIn K (.ref C) name = some (some (.ref f))) (ht : isFn K (.ref f) = true)
    (hgf : specialIn K (.ref f) "__get__" = some (some g)) (hts : takesIn K (.ref f) = some false) (hl : getL name es = some (some v)) (hv : handedIn v = true) (h : Q (v, []) { s with toks := s.toks + 1 }) :
    wpAny (model prog w) A (getMethod (.ref x) name pl) Q E s := by
  have X := X₀.keeps F.keep
  have hcan := PySem.F.canon_object_ga
  obtain ⟨hga, hk⟩ := plainGet_of hg
  have u : wpAny (model prog w) A (do return (← getAttr (.ref x) name, ([] : List Value))) Q E s :=
    wpAny_bind (wpAny_mono (get_value X I hga (findObj_shadow hh hf hgf hts hl) hv h) (fun _ _ z => wpAny_pure z) fun _ _ z => z)
  unfold getMethod specialOf
  refine wpAny_bind (wpAny_bind (I.type.here ((looks_findIn X hga).here ?_)))
  dsimp only
  rw [hcan, if_neg (by decide)]
  refine wpAny_bind (wpAny_bind (I.type.here ((looks_findIn X hk).here ?_)))
  refine wpAny_bind (wpAny_bind (I.type.here ((looks_findIn X hf).here (wpAny_bind ((looks_typeIn X (beq_iff_eq.mp ht)).here ?_)))))
  rw [if_neg (by decide +kernel)]
  refine wpAny_bind (wpAny_loadPart I.at_ ?_)
  have hd := I.dict
  cases e : ox.dict with
  | none => rw [e] at hd; exact hd.elim
  | some dx =>
    rw [e] at hd
    refine wpAny_bind (wpAny_bind (wpAny_loadPart hd ?_))
    rw [nsLook_of ((lookIn_dict name es n).trans hl)]
    refine wpAny_pure ?_
    exact u
end
end Mine
namespace Mine
open PySem.Calls PySem.Spec PyProof.V
/-- a comprehension with a test that stands at its source; no line of the library knows this word -/
def CompHere (prog : Program) (w : World) (A : Around) (h₀ : Heap) (L : Addr) (m : Str → Option Value) (env : Env) (ct elt : PySem.Expr) (x : Str) (scope : Scope) (cl : List (Str × Addr)) (Fin : Shared → List Value → List (Addr × Obj) → Prop) (xv : Value) (s₁ : Shared) : Prop :=
  LCt.CompSrcT prog w A h₀ L m env ct elt x scope cl Fin xv s₁
section
variable {prog : Program} {w : World} {A : Around} {E : Value → Shared → Prop} {s : Shared} {h₀ : Heap} {L : Addr} {m : Str → Option Value} {env : Env}
theorem comp_assign {ct elt iter : PySem.Expr} {x y : Str} {px py : Pos} {scope : Scope} {cl : List (Str × Addr)} {pos spos : Pos} {Q : Flow → Shared → Prop} (F₀ : Fr h₀ L s.heap m) (hLe : env.locals = L)
    (hsw : swapsWith (.ListComp elt [⟨.Name x px, iter, [ct], 0⟩] scope pos) (some (.Name y py)) spos.line env = pure true)
    (hclos : closureFor scope env = pure cl) (hcell : ∀ z ∈ scope.names, z.2 ≠ .cell) (hkind : scope.kind = .function)
    (hnames : ∀ z ∈ scope.names, z.2 = .local → scope.names.lookup z.1 = some .local) (hx : scope.names.lookup x = some .local)
    (hy : env.kindOf y = some .local) (hp : (env.scope.kind == .class || (env.scope.kind == .module && env.locals != env.globals)) = false)
    (h : wpAny (model prog w) A (eval iter env) (CompHere prog w A h₀ L m env ct elt x scope cl (fun s₂ => LCg.FinA h₀ L m s₂ y Q)) E s)
    (hs : ∀ x, foldedSetIterable iter env x = pure x := by intro _; rfl) :
    wpAny (model prog w) A (exec (.Assign [.Name y py] (.ListComp elt [⟨.Name x px, iter, [ct], 0⟩] scope pos) spos) env) Q E s :=
  LCt.Assign_ListComp_T F₀ hLe hsw hclos hcell hkind hnames hx hy hp h hs
theorem comp_eval {ct elt iter : PySem.Expr} {x : Str} {px : Pos} {scope : Scope} {cl : List (Str × Addr)} {pos : Pos} {Q : Value → Shared → Prop} (F₀ : Fr h₀ L s.heap m)
    (hclos : closureFor scope env = pure cl) (hcell : ∀ y ∈ scope.names, y.2 ≠ .cell) (hkind : scope.kind = .function)
    (hnames : ∀ y ∈ scope.names, y.2 = .local → scope.names.lookup y.1 = some .local) (hx : scope.names.lookup x = some .local)
    (h : wpAny (model prog w) A (eval iter env) (CompHere prog w A h₀ L m env ct elt x scope cl (fun s₂ => LCg.FinE h₀ L m s₂ Q)) E s)
    (hs : ∀ x, foldedSetIterable iter env x = pure x := by intro _; rfl) :
    wpAny (model prog w) A (eval (.ListComp elt [⟨.Name x px, iter, [ct], 0⟩] scope pos) env) Q E s :=
  LCt.ListComp_T F₀ hclos hcell hkind hnames hx h hs
theorem comp_inv {ct elt : PySem.Expr} {x : Str} {scope : Scope} {cl : List (Str × Addr)} {S : List (Addr × Obj) → Prop} {P : Nat → Value → Prop} {Fin : List Value → List (Addr × Obj) → Prop} {n : Nat} {news₀ : List (Addr × Obj)} (J : Nat → List Value → List (Addr × Obj) → Prop) (h0 : J 0 [] news₀)
    (turn : ∀ i ys news v I oI C oC D m₂ h tk (E' : Value → Shared → Prop), i < n → J i ys news → P i v → LCg.NsObj oC m₂ → m₂ x = some v → Fr h₀ L h m → News h₀ L h ((I, oI) :: (C, oC) :: (D, LCg.lst ys) :: news) → LCg.Off3 I C D news → ((@Ne Nat I C) ∧ (@Ne Nat I D) ∧ (@Ne Nat C D)) →
      wpAny (model prog w) A (isTrue ct (compEnvC scope cl C env) (eval ct (compEnvC scope cl C env))) (fun ok s' => if ok = true then
        wpAny (model prog w) A (eval elt (compEnvC scope cl C env)) (LCg.CompEnd h₀ L m { s with heap := h, toks := tk } I oI C oC D (LCg.lst ys) S (fun y news' => J (i + 1) (ys ++ [y]) news')) E' s'
        else LCg.CompEnd h₀ L m { s with heap := h, toks := tk } I oI C oC D (LCg.lst ys) S (fun _ news' => J (i + 1) ys news') Value.none s') E' { s with heap := h, toks := tk })
    (fin : ∀ ys news, J n ys news → Fin ys news) : LCt.CompRestT prog w A h₀ L m env ct elt x scope cl s S P Fin n 0 [] news₀ := by
  have key : ∀ (j i : Nat) (ys : List Value) (news : List (Addr × Obj)), i + j = n → J i ys news → LCt.CompRestT prog w A h₀ L m env ct elt x scope cl s S P Fin j i ys news := by
    intro j
    induction j with
    | zero =>
      intro i ys news hi hy
      have e : i = n := by omega
      subst e
      exact LCt.CompRestT.zero (fin ys news hy)
    | succ j ih =>
      intro i ys news hi hy
      refine LCt.CompRestT.succ ?_
      intro v I oI C oC D m₂ h tk E' hv hC hx F N off ne
      refine wpAny_mono (turn i ys news v I oI C oC D m₂ h tk E' (by omega) hy hv hC hx F N off ne) (fun b s₂ hq => ?_) fun _ _ e => e
      cases b with
      | true =>
        simp only [if_true] at hq ⊢
        refine wpAny_mono hq (fun y s₃ hr => ?_) fun _ _ e => e
        obtain ⟨h', tk', nw, e, F', N', off', hS, hJ⟩ := hr
        exact ⟨h', tk', nw, e, F', N', off', hS, ih (i + 1) _ _ (by omega) hJ⟩
      | false =>
        simp only [Bool.false_eq_true, if_false] at hq ⊢
        obtain ⟨h', tk', nw, e, F', N', off', hS, hJ⟩ := hq
        exact ⟨h', tk', nw, e, F', N', off', hS, ih (i + 1) _ _ (by omega) hJ⟩
  exact key n 0 [] news₀ (by omega) h0
theorem compHere_list {ct elt : PySem.Expr} {x : Str} {scope : Scope} {cl : List (Str × Addr)} {Fin : Shared → List Value → List (Addr × Obj) → Prop} {ax : Addr} {its : Array Value} {k : Nat} {news₀ : List (Addr × Obj)} (J : Nat → List Value → List (Addr × Obj) → Prop)
    (hh : A.handled = none) (F : Fr h₀ L s.heap m) (N : News h₀ L s.heap news₀) (hm : (ax, ({ cls := .type "list", data := .seq its k } : Obj)) ∈ news₀) (hsz : its.size ≤ sizeLine) (h0 : J 0 [] news₀)
    (turn : ∀ i ys news v I oI C oC D m₂ h tk (E' : Value → Shared → Prop), J i ys news → its[i]? = some v → LCg.NsObj oC m₂ → m₂ x = some v → Fr h₀ L h m → News h₀ L h ((I, oI) :: (C, oC) :: (D, LCg.lst ys) :: news) → LCg.Off3 I C D news → ((@Ne Nat I C) ∧ (@Ne Nat I D) ∧ (@Ne Nat C D)) →
      wpAny (model prog w) A (isTrue ct (compEnvC scope cl C env) (eval ct (compEnvC scope cl C env))) (fun ok s' => if ok = true then
        wpAny (model prog w) A (eval elt (compEnvC scope cl C env)) (LCg.CompEnd h₀ L m { s with heap := h, toks := tk } I oI C oC D (LCg.lst ys) (LCg.SrcAt h₀ ax its) (fun y news' => J (i + 1) (ys ++ [y]) news')) E' s'
        else LCg.CompEnd h₀ L m { s with heap := h, toks := tk } I oI C oC D (LCg.lst ys) (LCg.SrcAt h₀ ax its) (fun _ news' => J (i + 1) ys news') Value.none s') E' { s with heap := h, toks := tk })
    (fin : ∀ g ys news, J its.size ys news → Fin { s with heap := g } ys news) : CompHere prog w A h₀ L m env ct elt x scope cl Fin (.ref ax) s :=
  LCt.CompSrcT.ledger hh F N hm hsz fun g => comp_inv J h0 (fun i ys news v I oI C oC D m₂ h tk E' _ hJ hv hC hx F N off ne => turn i ys news v I oI C oC D m₂ h tk E' hJ hv hC hx F N off ne) (fin g)
theorem comp_same {s₁ : Shared} {I C D : Addr} {oI oC : Obj} {ys : List Value} {S : List (Addr × Obj) → Prop} {rest : Value → List (Addr × Obj) → Prop} {y : Value} {h' : Heap} {tk : Nat} {news : List (Addr × Obj)}
    (F : Fr h₀ L h' m) (N : News h₀ L h' ((I, oI) :: (C, oC) :: (D, LCg.lst ys) :: news)) (off : LCg.Off3 I C D news) (hS : S news) (r : rest y news) :
    LCg.CompEnd h₀ L m s₁ I oI C oC D (LCg.lst ys) S rest y { s₁ with heap := h', toks := tk } := ⟨h', tk, news, rfl, F, N, off, hS, r⟩
theorem comp_other {P : Par} {k : Nat} {σ1 σ2 : St} {ns : List Int} {s₁ : Shared} {I C D : Addr} {oI oC : Obj} {ys : List Value} {S : List (Addr × Obj) → Prop} {rest : Value → List (Addr × Obj) → Prop} {y : Value} {h' : Heap} {tk : Nat} {nw : List (Addr × Obj)}
    (F : Fr h₀ L h' m) (N : News h₀ L h' nw) (Iv : Inv w (((P.add (D, LCg.lst ys)).add (C, oC)).add (I, oI)) k σ1 σ2 ns nw) (hfx : ∀ p ∈ P.fx, p.1 ≠ I ∧ p.1 ≠ C ∧ p.1 ≠ D) (ne : I ≠ C ∧ I ≠ D ∧ C ≠ D)
    (r : ∀ nw', Inv w P k σ1 σ2 ns nw' → S nw' ∧ rest y nw') : LCg.CompEnd h₀ L m s₁ I oI C oC D (LCg.lst ys) S rest y { s₁ with heap := h', toks := tk } := by
  have mI := Iv.fixed _ (.head _)
  have mC := Iv.fixed _ (.tail _ (.head _))
  have mD := Iv.fixed _ (.tail _ (.tail _ (.head _)))
  have I1 := Iv.off (fun p hp => by
    rcases List.mem_cons.mp hp with rfl | hp
    · exact Ne.symm ne.1
    · rcases List.mem_cons.mp hp with rfl | hp
      · exact Ne.symm ne.2.1
      · exact (hfx p hp).1)
  have I2 := I1.off (fun p hp => by
    rcases List.mem_cons.mp hp with rfl | hp
    · exact Ne.symm ne.2.2
    · exact (hfx p hp).2.1)
  have I3 := I2.off (fun p hp => (hfx p hp).2.2)
  obtain ⟨hS, hr⟩ := r _ I3
  refine ⟨h', tk, _, rfl, F, fun p hp => ?_, LCg.Off3.of fun p hp => ?_, hS, hr⟩
  · rcases List.mem_cons.mp hp with rfl | hp
    · exact N _ mI
    · rcases List.mem_cons.mp hp with rfl | hp
      · exact N _ mC
      · rcases List.mem_cons.mp hp with rfl | hp
        · exact N _ mD
        · exact N _ (List.mem_filter.mp (List.mem_filter.mp (List.mem_filter.mp hp).1).1).1
  · exact ⟨others_ne p (List.mem_filter.mp (List.mem_filter.mp hp).1).1, others_ne p (List.mem_filter.mp hp).1, others_ne p hp⟩
theorem loop_other {P : Par} {k : Nat} {σ1 σ2 : St} {ns : List Int} {I : Addr} {oI : Obj} {ps : List (Str × Value)} {J : List (Addr × Obj) → Prop} {s₁ : Shared} {Q : Flow → Shared → Prop} {h' : Heap} {m' : Str → Option Value} {nw : List (Addr × Obj)} {tk : Nat}
    (F : Fr h₀ L h' m') (hps : ∀ p ∈ ps, m' p.1 = some p.2) (N : News h₀ L h' nw) (Iv : Inv w (P.add (I, oI)) k σ1 σ2 ns nw) (hfx : ∀ p ∈ P.fx, p.1 ≠ I) (hJ : ∀ nw', Inv w P k σ1 σ2 ns nw' → J nw') :
    LoopPost h₀ L I oI ps J s₁ Q .next { s₁ with heap := h', toks := tk } :=
  loop_end F hps (News.first N (Iv.fixed _ (.head _))) others_ne (hJ _ (Iv.off hfx))
end
end Mine
namespace Mine
open PyProof.V PySem.Calls PySem.Spec
local macro_rules | `(tactic| ktr_room) => `(tactic| ((try simp only [depth_under_make, depth_under_kw, depth_in1, depth_deeper, depth_caller]); (try dsimp only [ktrTop]); omega))
local macro_rules | `(tactic| k_room) => `(tactic| ktr_room)
local macro_rules | `(tactic| ke_room) => `(tactic| ((try simp only [units_in1, units_deeper, Around.mark_units, units_caller]); (try dsimp only [ktrTop]); omega))
local macro_rules | `(tactic| walk_at "ite") => `(tactic| (k_closed; with_reducible (first | refine ite_pos (by decide) ?_ | refine ite_neg (by decide) ?_)))
local macro_rules | `(tactic| k_all) => `(tactic| assumption)
local macro_rules | `(tactic| k_mem) => `(tactic| assumption)

theorem upd_cons {q : Addr × Obj} {d : Addr} {o : Obj} {news : List (Addr × Obj)} (h : q.1 ≠ d) : upd (q :: news) d o = q :: upd news d o := by
  simp [upd, h]
theorem scoop_inv {w : World} {p : Program} {loose : List Str} {mean : ExcName → Option Value} {mg mb : Str → Option Value}
    {dp un : Nat} {gd : Option (List Code)} {cn : Str} {cs : Scope} {L a : Addr} {ccd : Value} {cl : List (Str × Addr)} {outer : List Env} {A₀ : Around} {base h₀ : Heap} {m : Str → Option Value}
    {news : List (Addr × Obj)} {s : Shared} {Q E : Value → Shared → Prop}
    (B : Below A₀ base outer h₀) (F : Fr h₀ L s.heap m) (X : (frag.heap_1 w.params).In h₀) (N : News h₀ L s.heap news) (T : Top p loose mean mg mb h₀) (hk : cs.kind = .function) (hdp : dp + 10 < recursionLimit) (hun : un + 100 < cLine)
  {P : Par} {k : Nat} {σ1 σ2 : St} {ns : List Int} {many : Int} {tm : Tok} (I : Inv w P k σ1 σ2 ns news) (hm0 : 0 < many) (hm1 : many < 100)
  (ret : ∀ (r : Int) (t : Tok) h' tk' news', 0 ≤ r → r < many → Fr h₀ L h' m → News h₀ L h' news' → Inv w P k σ1 σ2 ns news' → Q (.int r t) { s with heap := h', toks := tk' }) :
  wpAny (model PySem.Challenge.rw_pc0217_01.prog w) (ktrTop dp un gd cn cs L a ccd cl outer) (call (.ref 720) [.ref P.H, .int many tm]) Q E s := by
  obtain ⟨va, vb, ta, tb, n, hm, b0, b1⟩ := I.hop
  refine scoop_spec B F X (News.first N hm) (UpdF.head others_ne) T hk hdp hun b0 b1 hm0 hm1 fun r a' b' t ta' tb' n' h' tk' r0 r1 b0' b1' F' N' => ?_
  exact ret _ _ _ _ _ r0 r1 F' (News.back N') (I.hopSet b0' b1')
theorem scoop_invH {w : World} {p : Program} {loose : List Str} {mean : ExcName → Option Value} {mg mb : Str → Option Value}
    {dp un : Nat} {gd : Option (List Code)} {cn : Str} {cs : Scope} {L a : Addr} {ccd : Value} {cl : List (Str × Addr)} {outer : List Env} {A₀ : Around} {base h₀ : Heap} {m : Str → Option Value}
    {news : List (Addr × Obj)} {s : Shared} {Q E : Value → Shared → Prop}
    (B : Below A₀ base outer h₀) (F : Fr h₀ L s.heap m) (X : (frag.heap_1 w.params).In h₀) (N : News h₀ L s.heap news) (T : Top p loose mean mg mb h₀) (hk : cs.kind = .function) (hdp : dp + 10 < recursionLimit) (hun : un + 100 < cLine)
  {P : Par} {k : Nat} {σ1 σ2 : St} {ns : List Int} {many : Int} {tm : Tok} {H : Addr} (I : Inv w P k σ1 σ2 ns news) (eH : P.H = H) (hm0 : 0 < many) (hm1 : many < 100)
  (ret : ∀ (r : Int) (t : Tok) h' tk' news', 0 ≤ r → r < many → Fr h₀ L h' m → News h₀ L h' news' → Inv w P k σ1 σ2 ns news' → Q (.int r t) { s with heap := h', toks := tk' }) :
  wpAny (model PySem.Challenge.rw_pc0217_01.prog w) (ktrTop dp un gd cn cs L a ccd cl outer) (call (.ref 720) [.ref H, .int many tm]) Q E s := by
  subst eH
  exact scoop_inv B F X N T hk hdp hun I hm0 hm1 ret
theorem begins_inv {w : World} {p : Program} {loose : List Str} {mean : ExcName → Option Value} {mg mb : Str → Option Value}
    {dp un : Nat} {gd : Option (List Code)} {cn : Str} {cs : Scope} {L a : Addr} {ccd : Value} {cl : List (Str × Addr)} {outer : List Env} {A₀ : Around} {base h₀ : Heap} {m : Str → Option Value}
    {news : List (Addr × Obj)} {s : Shared} {Q E : Value → Shared → Prop}
    (B : Below A₀ base outer h₀) (F : Fr h₀ L s.heap m) (X : (frag.heap_1 w.params).In h₀) (N : News h₀ L s.heap news) (T : Top p loose mean mg mb h₀) (hk : cs.kind = .function) (hdp : dp + 10 < recursionLimit) (hun : un + 100 < cLine)
  {P : Par} {k : Nat} {σ1 σ2 : St} {ns : List Int} {W DW ED : Addr} {e1 e2 : Int} {t1 t2 : Tok} (hW : (W, instObj 631 DW) ∈ P.fx) (hD : (DW, wDict e1 e2 t1 t2 ED P.WR) ∈ P.fx) {u wd : Int} {tu tw : Tok} (I : Inv w P k σ1 σ2 ns news) (hz : k ≤ sizeLine)
  (ret : ∀ h' tk' news', Fr h₀ L h' m → News h₀ L h' news' → Inv w P (k + 1) (set σ1 u (wd, none)) σ2 ns news' → Q .none { s with heap := h', toks := tk' }) :
  wpAny (model PySem.Challenge.rw_pc0217_01.prog w) (ktrTop dp un gd cn cs L a ccd cl outer) (call (.ref 602) [.ref W, .int u tu, .int wd tw]) Q E s := by
  obtain ⟨o, kvs, d1⟩ := I.d1
  refine begins_spec B F X N T hk hdp hun (I.fixed _ hW) (I.fixed _ hD) d1.mem d1.dict (Nat.le_trans d1.len hz) (I.ok.fw _ hW) (I.ok.fw _ hD) fun ta o' h' tk' F' hd' lt N' => ?_
  exact ret _ _ _ F' N' (I.tupSet d1 (Nat.le_trans (stored_length_le _ _ _) (Nat.succ_le_succ d1.len)) (Nat.le_succ _) hd' lt rfl)
theorem ends_inv {w : World} {p : Program} {loose : List Str} {mean : ExcName → Option Value} {mg mb : Str → Option Value}
    {dp un : Nat} {gd : Option (List Code)} {cn : Str} {cs : Scope} {L a : Addr} {ccd : Value} {cl : List (Str × Addr)} {outer : List Env} {A₀ : Around} {base h₀ : Heap} {m : Str → Option Value}
    {news : List (Addr × Obj)} {s : Shared} {Q E : Value → Shared → Prop}
    (B : Below A₀ base outer h₀) (F : Fr h₀ L s.heap m) (X : (frag.heap_1 w.params).In h₀) (N : News h₀ L s.heap news) (T : Top p loose mean mg mb h₀) (hk : cs.kind = .function) (hdp : dp + 10 < recursionLimit) (hun : un + 100 < cLine)
  {P : Par} {k : Nat} {σ1 σ2 : St} {ns : List Int} {W DW ED : Addr} {e1 e2 : Int} {t1 t2 : Tok} (hW : (W, instObj 631 DW) ∈ P.fx) (hD : (DW, wDict e1 e2 t1 t2 ED P.WR) ∈ P.fx) {u wd f : Int} {tu tw : Tok} (I : Inv w P k σ1 σ2 ns news) (hz : k ≤ sizeLine) (hσ : σ1 u = some (f, none))
  (ret : ∀ h' tk' news', Fr h₀ L h' m → News h₀ L h' news' → Inv w P k (set σ1 u (f, some wd)) σ2 ns news' → Q .none { s with heap := h', toks := tk' }) :
  wpAny (model PySem.Challenge.rw_pc0217_01.prog w) (ktrTop dp un gd cn cs L a ccd cl outer) (call (.ref 623) [.ref W, .int u tu, .int wd tw]) Q E s := by
  obtain ⟨o, kvs, d1⟩ := I.d1
  have h1 := d1.at' u
  rw [hσ] at h1
  obtain ⟨ta, x, t, n, hv, fr, hm, ho⟩ := h1
  cases ho
  refine ends_none B F X N T hk hdp hun (I.fixed _ hW) (I.fixed _ hD) d1.mem d1.dict (Nat.le_trans d1.len hz) (I.ok.fw _ hW) (I.ok.fw _ hD) hv hm fr.wr fun ta o' h' tk' F' hd' lt N' => ?_
  exact ret _ _ _ F' N' (I.tupSet d1 (by rw [stored_has hv]; exact d1.len) (Nat.le_refl _) hd' lt ⟨_, rfl⟩)
theorem ends_known {w : World} {p : Program} {loose : List Str} {mean : ExcName → Option Value} {mg mb : Str → Option Value}
    {dp un : Nat} {gd : Option (List Code)} {cn : Str} {cs : Scope} {L a : Addr} {ccd : Value} {cl : List (Str × Addr)} {outer : List Env} {A₀ : Around} {base h₀ : Heap} {m : Str → Option Value}
    {news : List (Addr × Obj)} {s : Shared} {Q E : Value → Shared → Prop}
    (B : Below A₀ base outer h₀) (F : Fr h₀ L s.heap m) (X : (frag.heap_1 w.params).In h₀) (N : News h₀ L s.heap news) (T : Top p loose mean mg mb h₀) (hk : cs.kind = .function) (hdp : dp + 10 < recursionLimit) (hun : un + 100 < cLine)
  {P : Par} {k : Nat} {σ1 σ2 : St} {ns : List Int} {W DW ED : Addr} {e1 e2 : Int} {t1 t2 : Tok} (hW : (W, instObj 631 DW) ∈ P.fx) (hD : (DW, wDict e1 e2 t1 t2 ED P.WR) ∈ P.fx) {u wd f i : Int} {tu tw : Tok} (I : Inv w P k σ1 σ2 ns news) (hσ : σ1 u = some (f, some i))
  (ret : ∀ h' tk', Fr h₀ L h' m → News h₀ L h' news → Q .none { s with heap := h', toks := tk' }) :
  wpAny (model PySem.Challenge.rw_pc0217_01.prog w) (ktrTop dp un gd cn cs L a ccd cl outer) (call (.ref 623) [.ref W, .int u tu, .int wd tw]) Q E s := by
  obtain ⟨o, kvs, d1⟩ := I.d1
  have h1 := d1.at' u
  rw [hσ] at h1
  obtain ⟨ta, x, t, n, hv, fr, hm, tk, rfl⟩ := h1
  exact ends_some B F X N T hk hdp hun (I.fixed _ hW) (I.fixed _ hD) d1.mem d1.dict hv hm ret
theorem shown_inv {w : World} {p : Program} {loose : List Str} {mean : ExcName → Option Value} {mg mb : Str → Option Value}
    {dp un : Nat} {gd : Option (List Code)} {cn : Str} {cs : Scope} {L a : Addr} {ccd : Value} {cl : List (Str × Addr)} {outer : List Env} {A₀ : Around} {base h₀ : Heap} {m : Str → Option Value}
    {news : List (Addr × Obj)} {s : Shared} {Q E : Value → Shared → Prop}
    (B : Below A₀ base outer h₀) (F : Fr h₀ L s.heap m) (X : (frag.heap_1 w.params).In h₀) (N : News h₀ L s.heap news) (T : Top p loose mean mg mb h₀) (hk : cs.kind = .function) (hdp : dp + 20 < recursionLimit) (hun : un + 200 < cLine)
  {P : Par} {k : Nat} {σ : St} {ns : List Int} {W DW ED : Addr} {e1 e2 : Int} {t1 t2 : Tok} (hW : (W, instObj 631 DW) ∈ P.fx) (hD : (DW, wDict e1 e2 t1 t2 ED P.WR) ∈ P.fx) (I : Inv w P k σ σ ns news)
  (ret : ∀ h' tk', Fr h₀ L h' m → News h₀ L h' news → Q (.bool true) { s with heap := h', toks := tk' }) :
  wpAny (model PySem.Challenge.rw_pc0217_01.prog w) (ktrTop dp un gd cn cs L a ccd cl outer) (call (.ref 734) [.ref W, .ref P.RR]) Q E s := by
  obtain ⟨o, kvs, d1⟩ := I.d1
  obtain ⟨o2, kvs2, d2⟩ := I.d2
  exact shown_spec B F X N T hk hdp hun (I.fixed _ hW) (I.fixed _ hD) d1.mem d2.mem I.ok.low I.ok.lor d1.dict d2.dict (Inv.rows d1 d2) ret
section
variable {prog : Program} {w : World} {A : Around} {E : Value → Shared → Prop} {s : Shared} {h₀ : Heap} {L : Addr} {m : Str → Option Value} {news : List (Addr × Obj)} {Q : Unit → Shared → Prop} {P : Par} {k : Nat} {σ1 σ2 : St} {ns : List Int}
theorem rowNew_inv {la : Addr} {u wd : Int} {tu tw : Tok} (F : Fr h₀ L s.heap m) (N : News h₀ L s.heap ((la, listOf #[.int wd tw, .none] 0) :: news)) (lt : ∀ p ∈ news, p.1 < la) (I : Inv w P k σ1 σ2 ns news) (hz : k ≤ sizeLine)
    (ret : ∀ h' tk' news', Fr h₀ L h' m → News h₀ L h' news' → Inv w P (k + 1) σ1 (set σ2 u (wd, none)) ns news' → Q () { s with heap := h', toks := tk' }) :
    wpAny (model pr w) A (setItem (.ref P.RR) (.int u tu) (.ref la)) Q E s := by
  obtain ⟨o2, kvs2, d2⟩ := I.d2
  refine kda_set (knd := PySem.intKind _ _) F (News.first N (.tail _ d2.mem)) (UpdF.head others_ne) d2.dict (intKind_is _ _ _ _) (Nat.le_trans d2.len hz) fun h' o' F' N' hd' => ?_
  have N2 := News.back N'
  rw [upd_cons (Nat.ne_of_gt (lt _ d2.mem))] at N2
  exact ret _ _ _ F' N2 (I.lstNew d2 (Nat.le_trans (stored_length_le _ _ _) (Nat.succ_le_succ d2.len)) (Nat.le_succ _) hd' lt rfl)
theorem rowSet_inv {la : Addr} {u f wd : Int} {x : Value} {t t1 tw : Tok} {n : Nat} {o : Obj} {kvs : List (Int × Value)} (F : Fr h₀ L s.heap m) (N : News h₀ L s.heap news) (I : Inv w P k σ1 σ2 ns news) (d2 : D2 w P k σ2 news o kvs)
    (hv : valueAt kvs u = some (.ref la)) (hm : (la, listOf #[.int f t, x] n) ∈ news)
    (ret : ∀ h' news', Fr h₀ L h' m → News h₀ L h' news' → Inv w P k σ1 (set σ2 u (f, some wd)) ns news' → Q () { s with heap := h' }) :
    wpAny (model pr w) A (setItem (.ref la) (.int 1 t1) (.int wd tw)) Q E s := by
  refine ki_set F (News.first N hm) (by decide) (by decide) (q := [.int f t, .int wd tw]) rfl (Upd.head others_ne) fun h' F' N' => ?_
  exact ret _ _ F' (News.back N') (I.lstSet d2 N hv ⟨_, rfl⟩)
theorem hitSet_inv {T SL NW : Addr} {vs : List Value} {ns' : List Int} {j : Nat} (F : Fr h₀ L s.heap m) (N : News h₀ L s.heap ((SL, ({ cls := .type "slice", data := .fields #[.none, .none, .none] } : Obj)) :: (NW, listOf vs.toArray j) :: news)) (I : Inv w P k σ1 σ2 ns news)
    (eT : P.HIT = T) (e1 : NW ≠ P.HIT) (e2 : SL ≠ P.HIT) (hi : IntsAre vs ns') (hs : ns.length ≤ 1000) (hs' : ns'.length ≤ 1000)
    (ret : ∀ h' news', Fr h₀ L h' m → News h₀ L h' news' → Inv w P k σ1 σ2 ns' news' → Q () { s with heap := h' }) :
    wpAny (model pr w) A (setItem (.ref T) (.ref SL) (.ref NW)) Q E s := by
  subst eT
  obtain ⟨v0, n0, hm, hi0⟩ := I.hit
  refine slice_set F (News.first N (.tail _ (.tail _ hm))) (UpdF.head others_ne) (.tail _ (others_mem (.tail _ (.head _)) e1)) (.tail _ (others_mem (.head _) e2)) (Ne.symm e1) (by rw [List.size_toArray, hi0.length]; exact hs) (by rw [List.size_toArray, hi.length]; exact hs') fun h' n' F' N' => ?_
  have N2 := News.back N'
  rw [upd_cons e2, upd_cons e1] at N2
  exact ret _ _ F' (News.drop (News.drop N2)) (I.hitSet hi)
end
end Mine
namespace Mine
open PyProof.V PySem.Calls PySem.Spec
local macro_rules | `(tactic| ktr_room) => `(tactic| ((try simp only [depth_under_make, depth_under_kw, depth_in1, depth_deeper, depth_caller]); (try dsimp only [ktrTop]); omega))
local macro_rules | `(tactic| k_room) => `(tactic| ktr_room)
local macro_rules | `(tactic| ke_room) => `(tactic| ((try simp only [units_in1, units_deeper, Around.mark_units, units_caller]); (try dsimp only [ktrTop]); omega))
local macro_rules | `(tactic| walk_at "ite") => `(tactic| (k_closed; with_reducible (first | refine ite_pos (by decide) ?_ | refine ite_neg (by decide) ?_)))
local macro_rules | `(tactic| k_all) => `(tactic| assumption)
local macro_rules | `(tactic| k_mem) => `(tactic| assumption)

def lawDef : Option Stmt := PySem.Challenge.pw_pc0217_01.main.body.getLast?
def lawBody : List Stmt := match lawDef with | some (.FunctionDef _ _ b _ _ _ _ _ _ _) => b | _ => []
def lawScope : Scope := match lawDef with | some (.FunctionDef _ _ _ _ _ _ s _ _ _) => s | _ => default
def turnBody : List Stmt := match lawBody with | _ :: _ :: _ :: _ :: .For _ _ b _ _ :: _ => b | _ => []
def lamE : PySem.Expr := match lawBody with | _ :: _ :: .Assign _ e _ :: _ => e | _ => default
def lamArgs : Arguments := match lamE with | .Lambda a _ _ _ => a | _ => ⟨[], [], none, [], [], none, []⟩
def lamBody : PySem.Expr := match lamE with | .Lambda _ b _ _ => b | e => e
def lamScope : Scope := match lamE with | .Lambda _ _ s _ => s | _ => default
local macro_rules | `(tactic| walk_at "eval Name") => `(tactic| (k_here; k_dflt (refine' nameX_F ?N ?c ?m ?d ?_ ?a ?b; (case b => rfl); (case a => rfl); (case N => k_asm); (case c => rfl); (case m => k_mem); (case d => k_asm); k_whole)))

theorem News.cut5 {h₀ h : Heap} {L : Addr} {a b1 b2 b3 b4 : Addr × Obj} {r : List (Addr × Obj)} (N : News h₀ L h (a :: b1 :: b2 :: b3 :: b4 :: r)) : News h₀ L h (a :: r) := fun p hp => N p (by
  rcases List.mem_cons.mp hp with rfl | hp
  · exact .head _
  · exact .tail _ (.tail _ (.tail _ (.tail _ (.tail _ hp)))))
theorem lam_spec {w : World} {p : Program} {loose : List Str} {mean : ExcName → Option Value} {mg mb : Str → Option Value}
    {dp un : Nat} {gd : Option (List Code)} {cn : Str} {cs : Scope} {L a : Addr} {ccd : Value} {cl : List (Str × Addr)} {outer : List Env} {A₀ : Around} {base h₀ : Heap} {m : Str → Option Value}
    {news : List (Addr × Obj)} {s : Shared} {Q E : Value → Shared → Prop}
    (B : Below A₀ base outer h₀) (F : Fr h₀ L s.heap m) (X : (frag.heap_1 w.params).In h₀) (N : News h₀ L s.heap news) (T : Top p loose mean mg mb h₀) (hk : cs.kind = .function) (hdp : dp + 20 < recursionLimit) (hun : un + 200 < cLine)
  {LAM LC cH HIT M : Addr} {qual : Str} {pm ctv : Value} {oc oH : Obj} {vs : Array Value} {t : Tok} {its : List Value} {n : Nat} {ks : List Int}
  (h1 : (LAM, kla_obj (Str.ofString "<lambda>") qual lamArgs lamBody lamScope [(Str.ofString "hit", cH)] pm LC ctv) ∈ news) (h2 : (LC, oc) ∈ news) (h3 : oc.data = .fields vs) (h4 : vs[1]? = some (.str qual t))
  (h5 : (cH, oH) ∈ news) (h6 : oH.data = .cell (some (.ref HIT))) (h7 : (HIT, listOf its.toArray n) ∈ news) (hi : IntsAre its ks) (hlen : ks.length ≤ 63)
  (ret : ∀ l j h' tk', (∀ p ∈ news, p.1 < l) → Fr h₀ L h' m → News h₀ L h' ((l, listOf its.toArray j) :: news) → Q (.ref l) { s with heap := h', toks := tk' }) :
  wpAny (model PySem.Challenge.rw_pc0217_01.prog w) (ktrTop dp un gd cn cs L a ccd cl outer) (call (.ref LAM) [.ref M]) Q E s := by
  revert X; k_fill; intro X
  replace N := News.add (News.add (News.add (News.add N h7) (.tail _ h5)) (.tail _ (.tail _ h2))) (.tail _ (.tail _ (.tail _ h1)))
  generalize ha : lamArgs = aa at N
  generalize hb : lamBody = bb at N
  generalize hs : lamScope = ss at N
  clear h1
  conv at ha => lhs; whnf
  conv at hb => lhs; whnf
  conv at hs => lhs; whnf
  subst ha; subst hb; subst hs
  refine wpAny_call ?_
  k_dflt (refine' kla_code ?k1 ?k2 ?k3 ?k4 ?k5 ?kA ?kF ?kK ?k6 ?k7 ?k8 ?k9 ?kB ?_ ?c2 ?c3 ?c4 ?c5; (case kA => exact rfl); (case kF => exact rfl); (case kK => exact hk); (case k1 => k_asm); (case k2 => k_asm); (case k3 => k_asm); (case k4 => k_asm); (case k5 => k_asm); (case k6 => k_mem); (case k7 => exact codeRec_news (by k_asm) (by k_mem) (by assumption) (by assumption)); (case k8 => k_room); (case k9 => exact rfl); (case c5 => decide); (case kB => exact locs rfl); (case c2 => exact rfl); (case c3 => exact rfl); (case c4 => exact rfl); k_whole; intro g' L' h' FG' F' N' B' X' T'; (try dsimp only); (try k_lift B'); (try k_fold))
  k_steps
  rename LAM < _ ∧ _ => l1
  exact ret _ _ _ _ (lt_of_all l1.2.2.2.2) (by assumption) (News.cut5 (by assumption))
end Mine
namespace Mine
open PySem.Calls PySem.Spec PyProof.V
/-- a comprehension without a test that stands at its source -/
def CompHereU (prog : Program) (w : World) (A : Around) (h₀ : Heap) (L : Addr) (m : Str → Option Value) (env : Env) (elt : PySem.Expr) (x : Str) (scope : Scope) (cl : List (Str × Addr)) (Fin : Shared → List Value → List (Addr × Obj) → Prop) (xv : Value) (s₁ : Shared) : Prop :=
  LCg.CompSrc prog w A h₀ L m env elt x scope cl Fin xv s₁
/-- a place at which the walk is to stop: no line knows this word -/
def Halt (p : Prop) : Prop := p
theorem halt {p : Prop} (h : Halt p) : p := h
section
variable {prog : Program} {w : World} {A : Around} {E : Value → Shared → Prop} {s : Shared} {h₀ : Heap} {L : Addr} {m : Str → Option Value} {env : Env}
theorem comp_evalU {elt iter : PySem.Expr} {x : Str} {px : Pos} {scope : Scope} {cl : List (Str × Addr)} {pos : Pos} {Q : Value → Shared → Prop} (F₀ : Fr h₀ L s.heap m)
    (hclos : closureFor scope env = pure cl) (hcell : ∀ y ∈ scope.names, y.2 ≠ .cell) (hkind : scope.kind = .function)
    (hnames : ∀ y ∈ scope.names, y.2 = .local → scope.names.lookup y.1 = some .local) (hx : scope.names.lookup x = some .local)
    (h : wpAny (model prog w) A (eval iter env) (CompHereU prog w A h₀ L m env elt x scope cl (fun s₂ => LCg.FinE h₀ L m s₂ Q)) E s)
    (hs : ∀ x, foldedSetIterable iter env x = pure x := by intro _; rfl) :
    wpAny (model prog w) A (eval (.ListComp elt [⟨.Name x px, iter, [], 0⟩] scope pos) env) Q E s :=
  LCg.ListComp_U F₀ hclos hcell hkind hnames hx h hs
theorem comp_invU {elt : PySem.Expr} {x : Str} {scope : Scope} {cl : List (Str × Addr)} {S : List (Addr × Obj) → Prop} {P : Nat → Value → Prop} {Fin : List Value → List (Addr × Obj) → Prop} {n : Nat} {news₀ : List (Addr × Obj)} (J : Nat → List Value → List (Addr × Obj) → Prop) (h0 : J 0 [] news₀)
    (turn : ∀ i ys news v I oI C oC D m₂ h tk (E' : Value → Shared → Prop), i < n → J i ys news → P i v → LCg.NsObj oC m₂ → m₂ x = some v → Fr h₀ L h m → News h₀ L h ((I, oI) :: (C, oC) :: (D, LCg.lst ys) :: news) → LCg.Off3 I C D news → ((@Ne Nat I C) ∧ (@Ne Nat I D) ∧ (@Ne Nat C D)) →
      wpAny (model prog w) A (eval elt (compEnvC scope cl C env)) (LCg.CompEnd h₀ L m { s with heap := h, toks := tk } I oI C oC D (LCg.lst ys) S (fun y news' => J (i + 1) (ys ++ [y]) news')) E' { s with heap := h, toks := tk })
    (fin : ∀ ys news, J n ys news → Fin ys news) : LCg.CompRest prog w A h₀ L m env elt x scope cl s S P Fin n 0 [] news₀ := by
  have key : ∀ (j i : Nat) (ys : List Value) (news : List (Addr × Obj)), i + j = n → J i ys news → LCg.CompRest prog w A h₀ L m env elt x scope cl s S P Fin j i ys news := by
    intro j
    induction j with
    | zero =>
      intro i ys news hi hy
      have e : i = n := by omega
      subst e
      exact LCg.CompRest.zero (fin ys news hy)
    | succ j ih =>
      intro i ys news hi hy
      refine LCg.CompRest.succ ?_
      intro v I oI C oC D m₂ h tk E' hv hC hx F N off ne
      refine wpAny_mono (turn i ys news v I oI C oC D m₂ h tk E' (by omega) hy hv hC hx F N off ne) (fun y s₃ hr => ?_) fun _ _ e => e
      obtain ⟨h', tk', nw, e, F', N', off', hS, hJ⟩ := hr
      exact ⟨h', tk', nw, e, F', N', off', hS, ih (i + 1) _ _ (by omega) hJ⟩
  exact key n 0 [] news₀ (by omega) h0
theorem compHere_range {elt : PySem.Expr} {x : Str} {scope : Scope} {cl : List (Str × Addr)} {Fin : Shared → List Value → List (Addr × Obj) → Prop} {r : Addr} {b : Int} {t u v : Tok} (n : Nat) {news₀ : List (Addr × Obj)} (J : Nat → List Value → List (Addr × Obj) → Prop)
    (hh : A.handled = none) (F : Fr h₀ L s.heap m) (N : News h₀ L s.heap news₀) (hr : IsRange s.heap r 0 b 1 t u v) (hsm : Builtin.Range.small 0 b 1 = true) (hn : Builtin.Range.rangeSize 0 b 1 = ((n : Nat) : Int)) (hsz : n ≤ sizeLine) (h0 : J 0 [] news₀)
    (turn : ∀ i ys news t I oI C oC D m₂ h tk (E' : Value → Shared → Prop), i < n → J i ys news → LCg.NsObj oC m₂ → m₂ x = some (.int (i : Int) t) → Fr h₀ L h m → News h₀ L h ((I, oI) :: (C, oC) :: (D, LCg.lst ys) :: news) → LCg.Off3 I C D news → ((@Ne Nat I C) ∧ (@Ne Nat I D) ∧ (@Ne Nat C D)) →
      wpAny (model prog w) A (eval elt (compEnvC scope cl C env)) (LCg.CompEnd h₀ L m { s with heap := h, toks := tk } I oI C oC D (LCg.lst ys) (fun _ => True) (fun y news' => J (i + 1) (ys ++ [y]) news')) E' { s with heap := h, toks := tk })
    (fin : ∀ g ys news, J n ys news → Fin { s with heap := g } ys news) : CompHereU prog w A h₀ L m env elt x scope cl Fin (.ref r) s :=
  LCg.CompSrc.range hh F N hr hsm hn hsz fun g => comp_invU J h0 (fun i ys news v I oI C oC D m₂ h tk E' hi hJ hv hC hx F N off ne => by
    obtain ⟨t, rfl⟩ := hv
    rw [Int.zero_add] at hx
    exact turn i ys news t I oI C oC D m₂ h tk E' hi hJ hC hx F N off ne) (fin g)
theorem carried_bools : ∀ bs : List Bool, CarriedAll (bs.map Value.bool) (bs.map PyData.bool)
  | [] => .nil
  | b :: r => .cons (.bool b) (carried_bools r)
theorem lay_bools : ∀ bs : List Bool, PyData.canLayAll0 (bs.map PyData.bool) = true
  | [] => by simp [PyData.canLayAll0]
  | n :: r => by simp [PyData.canLayAll0, PyData.canLay0, lay_bools r]
theorem depth_bools : ∀ bs : List Bool, PyData.depthAll (bs.map PyData.bool) ≤ 1
  | [] => by simp [PyData.depthAll]
  | n :: r => by
    have := depth_bools r
    simp only [List.map_cons, PyData.depthAll, PyData.depth]
    omega
theorem shaped_bools (bs : List Bool) : PySem.SeqAt.shaped (.list (bs.map PyData.bool)) = true := by
  have h1 := depth_bools bs
  have h2 : PyData.depth (.list (bs.map PyData.bool)) ≤ 64 := by simp only [PyData.depth]; omega
  show (PyData.canLay0 (.list (bs.map PyData.bool)) && decide (PyData.depth (.list (bs.map PyData.bool)) ≤ 64)) = true
  rw [Bool.and_eq_true]
  exact ⟨by simp only [PyData.canLay0]; exact lay_bools bs, decide_eq_true h2⟩
theorem eqv_bools : ∀ bs : List Bool, PyData.eqvAll (bs.map PyData.bool) (bs.map PyData.bool) = true
  | [] => by simp [PyData.eqvAll]
  | b :: r => by simp [PyData.eqvAll, PyData.eqv, eqv_bools r]
theorem eq_bools {a b : Addr} {bs : List Bool} {Q : Value → Shared → Prop} (ha : s.heap.IsList a (bs.map Value.bool).toArray) (hb : s.heap.IsList b (bs.map Value.bool).toArray) (hu : A.units + 64 < cLine) (h : Q (.bool true) s) :
    wpAny (model prog w) A (compareOp .Eq (.ref a) (.ref b)) Q E s :=
  eq_dataH (reads_newData ha (carried_bools bs)) (reads_newData hb (carried_bools bs)) (shaped_bools bs) (shaped_bools bs) hu (by
    have : PyData.eqv (.list (bs.map PyData.bool)) (.list (bs.map PyData.bool)) = true := by simp [PyData.eqv, eqv_bools]
    rw [this]; exact h)
end
end Mine
namespace Mine
open PyProof.V PySem.Calls PySem.Spec
local macro_rules | `(tactic| ktr_room) => `(tactic| ((try simp only [depth_under_make, depth_under_kw, depth_in1, depth_deeper, depth_caller]); (try dsimp only [ktrTop]); omega))
local macro_rules | `(tactic| k_room) => `(tactic| ktr_room)
local macro_rules | `(tactic| ke_room) => `(tactic| ((try simp only [units_in1, units_deeper, Around.mark_units, units_caller]); (try dsimp only [ktrTop]); omega))
local macro_rules | `(tactic| walk_at "ite") => `(tactic| (k_closed; with_reducible (first | refine ite_pos (by decide) ?_ | refine ite_neg (by decide) ?_)))
local macro_rules | `(tactic| k_all) => `(tactic| assumption)
local macro_rules | `(tactic| k_mem) => `(tactic| assumption)
local macro_rules | `(tactic| walk_at "eval Name") => `(tactic| (k_here; k_dflt (refine' nameX_F ?N ?c ?m ?d ?_ ?a ?b; (case b => rfl); (case a => rfl); (case N => k_asm); (case c => rfl); (case m => k_mem); (case d => k_asm); k_whole)))
local macro_rules | `(tactic| walk_at "eval Name") => `(tactic| (k_here; k_dflt (refine' nameX_C ?N ?c ?m ?d ?_ ?a ?b; (case b => rfl); (case a => rfl); (case N => k_asm); (case c => rfl); (case m => k_mem); (case d => k_asm); k_whole)))
local macro_rules | `(tactic| walk_at "exec For Name Call cons nil") => `(tactic| (k_here; (rename Fr _ _ _ _ => lF'); (with_unfolding_all refine' for_here lF' ?k1 ?k2 ?_; (case k1 => exact rfl); (case k2 => exact rfl); k_whole)))
local macro_rules | `(tactic| walk_at "exec For Name Tuple cons nil") => `(tactic| (k_here; (rename Fr _ _ _ _ => lF'); (with_unfolding_all refine' for_here lF' ?k1 ?k2 ?_; (case k1 => exact rfl); (case k2 => exact rfl); k_whole)))
local macro_rules | `(tactic| walk_at "exec For Name Name cons nil") => `(tactic| (k_here; (rename Fr _ _ _ _ => lF'); (with_unfolding_all refine' for_here lF' ?k1 ?k2 ?_; (case k1 => exact rfl); (case k2 => exact rfl); k_whole)))
local macro_rules | `(tactic| walk_at "subscriptTail") => `(tactic| (k_here; (with_reducible show wpAny _ _ (subscriptTail _ _ (Value.ref _) (Value.int _ _)) _ _ _); k_dflt (refine my_item (by k_asm) (by k_mem) (by k_asm) (by k_asm) ?_)))
local macro_rules | `(tactic| walk_at "compareOp NotIn int ref") => `(tactic| (k_here; k_dflt (refine kdg_notin (knd := PySem.intKind _ _) (by k_asm) (by k_mem) (by k_asm) (by k_asm) (intKind_is _ _ _ _) _ (by k_asm) ?_)))
local macro_rules | `(tactic| walk_at "compareOp In int ref") => `(tactic| (k_here; k_dflt (refine kda_in (knd := PySem.intKind _ _) (by k_asm) (by k_mem) (by k_asm) (by k_asm) (intKind_is _ _ _ _) _ (by k_asm) ?_)))
local macro_rules | `(tactic| walk_at "exec Assign cons ListComp") => `(tactic| (k_here; k_dflt (refine comp_assign (F₀ := by k_asm) (by rfl) (by with_unfolding_all rfl) (by with_unfolding_all rfl) (by decide) (by rfl) (by decide) (by rfl) (by rfl) (by rfl) ?_)))
local macro_rules | `(tactic| walk_at "eval ListComp") => `(tactic| (k_here; k_dflt (refine comp_eval (F₀ := by k_asm) (by with_unfolding_all rfl) (by decide) (by rfl) (by decide) (by rfl) ?_)))
local macro_rules | `(tactic| walk_at "getMethod ref") => `(tactic| (k_here; (with_reducible show wpAny _ _ (getMethod (Value.ref _) (Str.ofString "users_hit") _) _ _ _); k_dflt (refine' method_shadow ?k1 ?k2 ?k3 ?k4 ?k5 ?k6 ?k7 ?k8 ?k9 ?k10 ?k11 ?_; (case k1 => k_asm); (case k2 => k_asm); (case k3 => k_inst); (case k4 => k_is); (case k5 => k_is); (case k6 => k_is); (case k7 => k_is); (case k8 => k_is); (case k9 => k_is); (case k10 => k_get); (case k11 => k_handed); k_whole)))
local macro_rules | `(tactic| walk_at "callWith ref") => `(tactic| (k_here; k_dflt (refine' callWith_F ?k1 ?_; (case k1 => exact FnAt.of (by k_asm) (by k_mem)); k_whole)))

abbrev eDict (e1 e2 e3 : Int) (t1 t2 t3 : Tok) (ER LAM : Addr) : Obj := dictOf [⟨e1, .str (Str.ofString "tables") t1, .none⟩, ⟨e2, .str (Str.ofString "rows") t2, .ref ER⟩, ⟨e3, .str (Str.ofString "users_hit") t3, .ref LAM⟩] 3
abbrev mDict (h1 h2 h3 h4 h5 h6 h7 h8 h9 : Int) (t1 t2 t3 t4 t5 t6 t7 t8 t9 : Tok) (v1 v2 v3 v4 v5 v6 v7 v8 v9 : Value) : Obj :=
  dictOf [⟨h1, .str (Str.ofString "number") t1, v1⟩, ⟨h2, .str (Str.ofString "table") t2, v2⟩, ⟨h3, .str (Str.ofString "sig") t3, v3⟩, ⟨h4, .str (Str.ofString "names") t4, v4⟩, ⟨h5, .str (Str.ofString "has_rest") t5, v5⟩, ⟨h6, .str (Str.ofString "code") t6, v6⟩, ⟨h7, .str (Str.ofString "tree") t7, v7⟩, ⟨h8, .str (Str.ofString "world_from") t8, v8⟩, ⟨h9, .str (Str.ofString "world_to") t9, v9⟩] 9
local macro_rules | `(tactic| walk_at "call ref") => `(tactic| (k_here; (with_reducible show wpAny _ _ (call (Value.ref _) [Value.ref _] _) _ _ _); k_dflt (refine' lam_spec ?sB ?sF ?sX ?sN ?sT ?sk ?sd ?su ?s1 ?s2 ?s3 ?s4 ?s5 ?s6 ?s7 ?s8 ?s9 ?_; (case sB => k_asm); (case sF => k_asm); (case sX => k_asm); (case sN => k_asm); (case sT => k_asm); (case sk => exact rfl); (case sd => ktr_room); (case su => ke_room); (case s1 => k_mem); (case s2 => k_mem); (case s3 => k_asm); (case s4 => k_asm); (case s5 => k_mem); (case s6 => k_asm); (case s7 => k_mem); (case s8 => k_asm); (case s9 => k_asm)); intro l' j' h' tk' lt' F' N'; (try k_lt lt'); (try k_sweep)))
local macro_rules | `(tactic| walk_at "call ref") => `(tactic| (k_here; (with_reducible show wpAny _ _ (call (Value.ref 623) _ _) _ _ _); k_dflt (refine' ends_inv ?sB ?sF ?sX ?sN ?sT ?sk ?sd ?su ?s1 ?s2 ?s3 ?s4 ?s5 ?_; (case sB => k_asm); (case sF => k_asm); (case sX => k_asm); (case sN => k_asm); (case sT => k_asm); (case sk => exact rfl); (case sd => ktr_room); (case su => ke_room); (case s3 => assumption); (case s1 => k_mem); (case s2 => k_mem); (case s4 => first | assumption | (rw [sizeLine_eq]; omega)); (case s5 => assumption)); intro h' tk' nw' F' N' J'; (try k_sweep)))
local macro_rules | `(tactic| walk_at "call ref") => `(tactic| (k_here; (with_reducible show wpAny _ _ (call (Value.ref 623) _ _) _ _ _); k_dflt (refine' ends_known ?sB ?sF ?sX ?sN ?sT ?sk ?sd ?su ?s1 ?s2 ?s3 ?s4 ?_; (case sB => k_asm); (case sF => k_asm); (case sX => k_asm); (case sN => k_asm); (case sT => k_asm); (case sk => exact rfl); (case sd => ktr_room); (case su => ke_room); (case s3 => assumption); (case s1 => k_mem); (case s2 => k_mem); (case s4 => assumption)); intro h' tk' F' N'; (try k_sweep)))

theorem both {w : World} {P : Par} {k : Nat} {σ1 σ2 : St} {ns : List Int} {news : List (Addr × Obj)} {h₀ h : Heap} {L : Addr} {q : Addr × Obj} (N : News h₀ L h news) (I : Inv w P k σ1 σ2 ns news) (hq : q ∈ news) :
    News h₀ L h (q :: news) ∧ Inv w P k σ1 σ2 ns (q :: news) := ⟨News.add N hq, I.cons q⟩
theorem off1_mem {D : Addr} : ∀ {l : List (Addr × Obj)}, LCg.Off1 D l → ∀ p ∈ l, p.1 ≠ D
  | [], _, _, h => nomatch h
  | _ :: _, x, p, h => by
    rcases List.mem_cons.mp h with rfl | h
    · exact x.1
    · exact off1_mem x.2 p h
theorem take_filter {q : Int → Bool} {ns : List Int} {i : Nat} {c : Int} (h : ns[i]? = some c) : (ns.take (i + 1)).filter q = (ns.take i).filter q ++ if q c then [c] else [] := by
  rw [List.take_add_one, h, List.filter_append]
  by_cases e : q c = true <;> simp [e]
theorem take_snoc {ns : List Int} {i : Nat} {c : Int} (h : ns[i]? = some c) : ns.take (i + 1) = ns.take i ++ [c] := by
  rw [List.take_add_one, h]
  rfl
theorem open_no {σ : St} {u : Int} (h : σ u = none) : open' σ u = false := by simp [open', h]
theorem open_yes {σ : St} {u f : Int} (h : σ u = some (f, none)) : open' σ u = true := by simp [open', h]
theorem open_shut {σ : St} {u f i : Int} (h : σ u = some (f, some i)) : open' σ u = false := by simp [open', h]
theorem added_inv {w : World} {p : Program} {loose : List Str} {mean : ExcName → Option Value} {mg mb : Str → Option Value}
    {dp un : Nat} {gd : Option (List Code)} {cn : Str} {cs : Scope} {L a : Addr} {ccd : Value} {cl : List (Str × Addr)} {outer : List Env} {A₀ : Around} {base h₀ : Heap} {m : Str → Option Value}
    {news : List (Addr × Obj)} {s : Shared} {Q E : Value → Shared → Prop}
    (B : Below A₀ base outer h₀) (F : Fr h₀ L s.heap m) (X : (frag.heap_1 w.params).In h₀) (N : News h₀ L s.heap news) (T : Top p loose mean mg mb h₀) (hk : cs.kind = .function) (hdp : dp + 30 < recursionLimit) (hun : un + 300 < cLine)
  {P : Par} {k : Nat} {σ1 σ2 : St} {ns : List Int} {W DW ED EDD ER LAM LC cH M MD : Addr} {e1 e2 e3 e4 e5 : Int} {t1 t2 t3 t4 t5 : Tok}
  {g1 g2 g3 g4 g5 g6 g7 g8 g9 wd : Int} {u1 u2 u3 u4 u5 u6 u7 u8 u9 tw : Tok} {v1 v2 v3 v4 v5 v6 v7 v9 : Value} {qual : Str} {pm ctv : Value} {oc oH : Obj} {lvs : Array Value} {lt : Tok}
  (hW : (W, instObj 631 DW) ∈ P.fx) (hD : (DW, wDict e1 e2 t1 t2 ED P.WR) ∈ P.fx) (hE : (ED, instObj 577 EDD) ∈ P.fx) (hED : (EDD, eDict e3 e4 e5 t3 t4 t5 ER LAM) ∈ P.fx)
  (hL : (LAM, kla_obj (Str.ofString "<lambda>") qual lamArgs lamBody lamScope [(Str.ofString "hit", cH)] pm LC ctv) ∈ P.fx) (hLC : (LC, oc) ∈ P.fx) (h3 : oc.data = .fields lvs) (h4 : lvs[1]? = some (.str qual lt))
  (hC : (cH, oH) ∈ P.fx) (h6 : oH.data = .cell (some (.ref P.HIT)))
  (hM : (M, instObj 702 MD) ∈ P.fx) (hMD : (MD, mDict g1 g2 g3 g4 g5 g6 g7 g8 g9 u1 u2 u3 u4 u5 u6 u7 u8 u9 v1 v2 v3 v4 v5 v6 v7 (.int wd tw) v9) ∈ P.fx)
  (I : Inv w P k σ1 σ2 ns news) (hz : k ≤ 1000) (hlen : ns.length ≤ 63)
  (ret : ∀ FD vs' j h' tk' news', IntsAre vs' (ns.filter (open' σ1)) → Fr h₀ L h' m → News h₀ L h' news' → (FD, listOf vs'.toArray j) ∈ news' → Inv w P k (mark σ1 wd (ns.filter (open' σ1))) σ2 ns news' → Q (.ref FD) { s with heap := h', toks := tk' }) :
  wpAny (model PySem.Challenge.rw_pc0217_01.prog w) (ktrTop dp un gd cn cs L a ccd cl outer) (call (.ref 628) [.ref W, .ref M]) Q E s := by
  obtain ⟨its, n0, hit, hits⟩ := I.hit
  obtain ⟨o1, kvs1, d1⟩ := I.d1
  have fL := I.fixed _ hL
  have fLC := I.fixed _ hLC
  have fC := I.fixed _ hC
  have lo := I.ok.low
  have dd := d1.dict
  have dm := d1.mem
  revert X; k_fill; intro X
  have N0 := N
  replace N := News.add (News.add (News.add (News.add (News.add (News.add N (I.fixed _ hMD)) (.tail _ (I.fixed _ hM))) (.tail _ (.tail _ (I.fixed _ hED)))) (.tail _ (.tail _ (.tail _ (I.fixed _ hE))))) (.tail _ (.tail _ (.tail _ (.tail _ (I.fixed _ hD)))))) (.tail _ (.tail _ (.tail _ (.tail _ (.tail _ (I.fixed _ hW))))))
  refine wpAny_call ?_
  k_dflt (refine' code_defC ?k1 ?k2 ?k3 ?k4 ?k5 ?kA ?kF ?kK ?k6 ?k7 ?k8 ?k9 ?kB ?kD ?_ ?c2 ?c3 ?c4; (case kA => exact rfl); (case kF => exact rfl); (case kK => assumption); (case k1 => k_asm); (case k2 => k_asm); (case k3 => k_asm); (case k4 => k_asm); (case k5 => k_asm); (case k6 => k_is); (case k7 => k_is); (case k8 => k_room); (case k9 => first | exact BindsTo.of_eq rfl | exact binds_K (by k_in) rfl (by k_is) rfl rfl rfl | fail "k_enter: no rule for these arguments"); (case kB => exact rfl); (case kD => decide +kernel); (case c2 => exact rfl); (case c3 => exact rfl); (case c4 => exact rfl); k_whole; intro g' L' h' tk' cells' FG' F' N' Y' B' X' T' l1; (try k_lt l1); k_cells Y'; (try simp only [List.cons_append, List.nil_append] at N'); (try dsimp only); (try k_lift B'); (try k_fold))
  rename_i oS dS
  k_steps
  refine compHere_list (fun i ys nw => nw = _ ∧ IntsAre ys ((ns.take i).filter (open' σ1))) rfl (by assumption) (by assumption) (.head _) (by rw [List.size_toArray, hits.length, sizeLine_eq]; omega) ⟨rfl, .nil⟩ ?_ ?_
  · rintro i ys nw v I9 oI C9 oC D9 m₂ h9 tk9 E' ⟨e, hy⟩ hv hC9 hx F9 N9 off ne
    subst e
    obtain ⟨c, t, rfl, hc⟩ := IntsAre.at hits i v (by simpa using hv)
    have hu := d1.at' c
    have hN9 := N9
    (try k_unmd)
    (try k_fold)
    cases hσ : σ1 c with
    | none =>
      rw [hσ] at hu
      have hu2 : (valueAt kvs1 c).isSome = false := hu
      k_steps
      exact comp_same F9 hN9 off (.inr ⟨_, .head _, rfl, _, rfl⟩) ⟨rfl, by rw [take_filter hc, open_no hσ]; simpa using hy⟩
    | some p =>
      obtain ⟨f, l⟩ := p
      rw [hσ] at hu
      obtain ⟨ta, x, tt, tn, hva, fr, hm, ho⟩ := hu
      have hs1 : (valueAt kvs1 c).isSome = true := by rw [hva]; rfl
      replace N9 := News.add N9 (q := (ta, tupObj #[.int f tt, x] tn)) (by k_mem)
      cases l with
      | none =>
        cases ho
        k_steps
        exact comp_same F9 hN9 off (.inr ⟨_, .head _, rfl, _, rfl⟩) ⟨rfl, by rw [take_filter hc, open_yes hσ]; exact IntsAre.append hy (.cons _ _ .nil)⟩
      | some e =>
        obtain ⟨_, rfl⟩ := ho
        k_steps
        exact comp_same F9 hN9 off (.inr ⟨_, .head _, rfl, _, rfl⟩) ⟨rfl, by rw [take_filter hc, open_shut hσ]; simpa using hy⟩
  · rintro g9 ys nw ⟨e, hy⟩
    subst e
    intro D9 h7 tk7 F7 N7 o1
    have I1 := I.keep (q := (L' + 1, oS)) (fun p hp => Nat.ne_of_lt (Nat.lt_succ_of_lt (lt_of_all l1.2.2.2.2.2.2 p hp)))
    have I2 := I1.keep (q := (D9, LCg.lst ys)) (fun p hp => off1_mem o1 p (by
      rcases List.mem_cons.mp hp with rfl | hp
      · k_mem
      · repeat (first | exact hp | apply List.mem_cons_of_mem)))
    have N2 : News g' L' h7 ((D9, LCg.lst ys) :: (L' + 1, oS) :: news) := fun p hp => N7 p (by
      rcases List.mem_cons.mp hp with rfl | hp
      · k_mem
      · rcases List.mem_cons.mp hp with rfl | hp
        · k_mem
        · repeat (first | exact hp | apply List.mem_cons_of_mem))
    have hyf : IntsAre ys (ns.filter (open' σ1)) := by
      have e : ns.take its.toArray.size = ns := List.take_of_length_le (by rw [List.size_toArray, hits.length]; exact Nat.le_refl _)
      rw [e] at hy
      exact hy
    k_steps
    refine list_here [("method", .ref M), ("found", .ref D9)] (fun i nw => Inv w _ k (mark σ1 wd ((ns.filter (open' σ1)).take i)) σ2 ns nw) rfl (fun i nw J => J.fixed _ (.head _)) (by assumption) (ps2 rfl rfl) N2 (by rw [List.take_zero, mark_nil]; exact I2) ?_ ?_
    · intro i v u nw h6 tk6 I6 oI6 hv6 J6 hne F6 N6
      obtain ⟨c, t, rfl, hc⟩ := IntsAre.at hyf i v (by simpa using hv6)
      obtain ⟨f, hσ⟩ := open_some (List.mem_filter.mp (List.mem_of_getElem? hc)).2
      have J7 := J6.keep (q := (I6, oI6)) hne
      have hm := mark_in (w := wd) (S := (ns.filter (open' σ1)).take i) hσ
      have hN6 := N6
      obtain ⟨N6, J8⟩ := both N6 J7 (J7.fixed _ (.tail _ (.tail _ (.tail _ hMD))))
      obtain ⟨N6, J8⟩ := both N6 J8 (J8.fixed _ (.tail _ (.tail _ (.tail _ hM))))
      obtain ⟨N6, J8⟩ := both N6 J8 (J8.fixed _ (.tail _ (.tail _ (.tail _ hD))))
      obtain ⟨N6, J8⟩ := both N6 J8 (J8.fixed _ (.tail _ (.tail _ (.tail _ hW))))
      obtain ⟨N6, J8⟩ := both N6 J8 (J8.fixed _ (.tail _ (.tail _ (.head _))))
      (try k_fold)
      by_cases e : c ∈ (ns.filter (open' σ1)).take i
      · rw [if_pos e] at hm
        k_steps
        exact loop_other (by assumption) (ps2 rfl rfl) (by assumption) J8 (fun p hp => hne p (J6.fixed p hp)) (fun nw' K => by rw [take_snoc hc, mark_snoc hσ, set_same hm]; exact K)
      · rw [if_neg e] at hm
        k_steps
        rename Inv _ _ _ (set _ _ _) _ _ _ => J9
        exact loop_other (by assumption) (ps2 rfl rfl) (by assumption) J9 (fun p hp => hne p (J6.fixed p hp)) (fun nw' K => by rw [take_snoc hc, mark_snoc hσ]; exact K)
    · intro u nw h6 tk6 J6 F6 N6
      have e : (ns.filter (open' σ1)).take ys.toArray.size = ns.filter (open' σ1) := List.take_of_length_le (by rw [List.size_toArray, hyf.length]; exact Nat.le_refl _)
      rw [e] at J6
      k_steps
      exact ret _ _ _ _ _ _ hyf (by assumption) (by assumption) (J6.fixed _ (.head _)) J6.leave.leave
end Mine
namespace Mine
open PyProof.V PySem.Calls PySem.Spec
local macro_rules | `(tactic| ktr_room) => `(tactic| ((try simp only [depth_under_make, depth_under_kw, depth_in1, depth_deeper, depth_caller]); (try dsimp only [ktrTop]); omega))
local macro_rules | `(tactic| k_room) => `(tactic| ktr_room)
local macro_rules | `(tactic| ke_room) => `(tactic| ((try simp only [units_in1, units_deeper, Around.mark_units, units_caller]); (try dsimp only [ktrTop]); omega))
local macro_rules | `(tactic| walk_at "ite") => `(tactic| (k_closed; with_reducible (first | refine ite_pos (by decide) ?_ | refine ite_neg (by decide) ?_)))
local macro_rules | `(tactic| k_all) => `(tactic| assumption)
local macro_rules | `(tactic| k_mem) => `(tactic| assumption)

abbrev kDict (h1 h2 h3 h4 h5 : Int) (t1 t2 t3 t4 t5 : Tok) (v1 v2 v3 v4 v5 : Value) : Obj :=
  dictOf [⟨h1, .str (Str.ofString "kind") t1, v1⟩, ⟨h2, .str (Str.ofString "code") t2, v2⟩, ⟨h3, .str (Str.ofString "edges") t3, v3⟩, ⟨h4, .str (Str.ofString "first") t4, v4⟩, ⟨h5, .str (Str.ofString "last") t5, v5⟩] 5
theorem optNone : OptV .none none := rfl
theorem optInt {i : Int} {t : Tok} : OptV (.int i t) (some i) := ⟨t, rfl⟩
theorem withinT_spec {w : World} {p : Program} {loose : List Str} {mean : ExcName → Option Value} {mg mb : Str → Option Value}
    {dp un : Nat} {gd : Option (List Code)} {cn : Str} {cs : Scope} {L a : Addr} {ccd : Value} {cl : List (Str × Addr)} {outer : List Env} {A₀ : Around} {base h₀ : Heap} {m : Str → Option Value}
    {news : List (Addr × Obj)} {s : Shared} {Q E : Value → Shared → Prop}
    (B : Below A₀ base outer h₀) (F : Fr h₀ L s.heap m) (X : (frag.heap_1 w.params).In h₀) (N : News h₀ L s.heap news) (T : Top p loose mean mg mb h₀) (hk : cs.kind = .function) (hdp : dp + 10 < recursionLimit) (hun : un + 100 < cLine)
  {b : Addr} {f wd : Int} {l : Option Int} {x : Value} {tf tw : Tok} {n : Nat} (hb : (b, tupObj #[.int f tf, x] n) ∈ news) (hx : OptV x l)
  (ret : ∀ (r : Bool) h' tk', r = inB f l wd → Fr h₀ L h' m → News h₀ L h' news → Q (.bool r) { s with heap := h', toks := tk' }) :
  wpAny (model PySem.Challenge.rw_pc0217_01.prog w) (ktrTop dp un gd cn cs L a ccd cl outer) (call (.ref 727) [.ref b, .int wd tw]) Q E s := by
  revert X; k_fill; intro X
  replace N := News.add N hb
  cases l with
  | none =>
    cases hx
    refine wpAny_call ?_
    k_dflt ktr_enter
    k_steps
    · exact ret _ _ _ (inB_none (by assumption)).symm (by assumption) (News.drop (by assumption))
    · refine ret _ _ _ ?_ (by assumption) (News.drop (by assumption))
      rw [inB_no (by assumption)]
      exact decide_eq_false (by assumption)
  | some i =>
    obtain ⟨t, rfl⟩ := hx
    refine wpAny_call ?_
    k_dflt ktr_enter
    k_steps
    · exact ret _ _ _ (inB_some (by assumption)).symm (by assumption) (News.drop (by assumption))
    · refine ret _ _ _ ?_ (by assumption) (News.drop (by assumption))
      rw [inB_no (by assumption)]
      exact decide_eq_false (by assumption)
theorem made_holds {w : World} {p : Program} {loose : List Str} {mean : ExcName → Option Value} {mg mb : Str → Option Value}
    {dp un : Nat} {gd : Option (List Code)} {cn : Str} {cs : Scope} {L a : Addr} {ccd : Value} {cl : List (Str × Addr)} {outer : List Env} {A₀ : Around} {base h₀ : Heap} {m : Str → Option Value}
    {news : List (Addr × Obj)} {s : Shared} {Q E : Value → Shared → Prop}
    (B : Below A₀ base outer h₀) (F : Fr h₀ L s.heap m) (X : (frag.heap_1 w.params).In h₀) (N : News h₀ L s.heap news) (T : Top p loose mean mg mb h₀) (hk : cs.kind = .function) (hdp : dp + 10 < recursionLimit) (hun : un + 100 < cLine)
  {K KD : Addr} {f wd : Int} {l : Option Int} {x : Value} {tf tw : Tok} {h1 h2 h3 h4 h5 : Int} {t1 t2 t3 t4 t5 : Tok} {v1 v2 v3 : Value} (hK : (K, instObj 659 KD) ∈ news) (hKD : (KD, kDict h1 h2 h3 h4 h5 t1 t2 t3 t4 t5 v1 v2 v3 (.int f tf) x) ∈ news) (hx : OptV x l)
  (ret : ∀ (r : Bool) h' tk', r = inB f l wd → Fr h₀ L h' m → News h₀ L h' news → Q (.bool r) { s with heap := h', toks := tk' }) :
  wpAny (model PySem.Challenge.rw_pc0217_01.prog w) (ktrTop dp un gd cn cs L a ccd cl outer) (call (.ref 656) [.ref K, .int wd tw]) Q E s := by
  revert X; k_fill; intro X
  replace N := News.add (News.add N hKD) (.tail _ hK)
  cases l with
  | none =>
    cases hx
    refine wpAny_call ?_
    k_dflt ktr_enter
    k_steps
    · exact ret _ _ _ (inB_none (by assumption)).symm (by assumption) (News.drop (News.drop (by assumption)))
    · refine ret _ _ _ ?_ (by assumption) (News.drop (News.drop (by assumption)))
      rw [inB_no (by assumption)]
      exact decide_eq_false (by assumption)
  | some i =>
    obtain ⟨t, rfl⟩ := hx
    refine wpAny_call ?_
    k_dflt ktr_enter
    k_steps
    · exact ret _ _ _ (inB_some (by assumption)).symm (by assumption) (News.drop (News.drop (by assumption)))
    · refine ret _ _ _ ?_ (by assumption) (News.drop (News.drop (by assumption)))
      rw [inB_no (by assumption)]
      exact decide_eq_false (by assumption)
end Mine
namespace Mine
open PyProof.V PySem.Calls PySem.Spec
local macro_rules | `(tactic| ktr_room) => `(tactic| ((try simp only [depth_under_make, depth_under_kw, depth_in1, depth_deeper, depth_caller]); (try dsimp only [ktrTop]); omega))
local macro_rules | `(tactic| k_room) => `(tactic| ktr_room)
local macro_rules | `(tactic| ke_room) => `(tactic| ((try simp only [units_in1, units_deeper, Around.mark_units, units_caller]); (try dsimp only [ktrTop]); omega))
local macro_rules | `(tactic| walk_at "ite") => `(tactic| (k_closed; with_reducible (first | refine ite_pos (by decide) ?_ | refine ite_neg (by decide) ?_)))
local macro_rules | `(tactic| k_all) => `(tactic| assumption)
local macro_rules | `(tactic| k_mem) => `(tactic| assumption)
local macro_rules | `(tactic| walk_at "eval Name") => `(tactic| (k_here; k_dflt (refine' nameX_F ?N ?c ?m ?d ?_ ?a ?b; (case b => rfl); (case a => rfl); (case N => k_asm); (case c => rfl); (case m => k_mem); (case d => k_asm); k_whole)))
local macro_rules | `(tactic| walk_at "eval Name") => `(tactic| (k_here; k_dflt (refine' nameX_C ?N ?c ?m ?d ?_ ?a ?b; (case b => rfl); (case a => rfl); (case N => k_asm); (case c => rfl); (case m => k_mem); (case d => k_asm); k_whole)))
local macro_rules | `(tactic| walk_at "call ref") => `(tactic| (k_here; (with_reducible show wpAny _ _ (call (Value.ref 720) _ _) _ _ _); refine halt ?_))
local macro_rules | `(tactic| walk_at "eval ListComp") => `(tactic| (k_here; k_dflt (refine comp_evalU (F₀ := by k_asm) (by with_unfolding_all rfl) (by decide) (by rfl) (by decide) (by rfl) ?_)))
local macro_rules | `(tactic| walk_at "call ref") => `(tactic| (k_here; (with_reducible show wpAny _ _ (call (Value.ref 656) _ _) _ _ _); k_dflt (refine' made_holds ?sB ?sF ?sX ?sN ?sT ?sk ?sd ?su ?s1 ?s2 ?s3 ?_; (case sB => k_asm); (case sF => k_asm); (case sX => k_asm); (case sN => k_asm); (case sT => k_asm); (case sk => exact rfl); (case sd => ktr_room); (case su => ke_room); (case s1 => k_mem); (case s2 => k_mem); (case s3 => first | exact optNone | exact optInt)); intro r' h' tk' e' F' N'; (try k_sweep)))
local macro_rules | `(tactic| walk_at "call ref") => `(tactic| (k_here; (with_reducible show wpAny _ _ (call (Value.ref 727) _ _) _ _ _); k_dflt (refine' withinT_spec ?sB ?sF ?sX ?sN ?sT ?sk ?sd ?su ?s1 ?s2 ?_; (case sB => k_asm); (case sF => k_asm); (case sX => k_asm); (case sN => k_asm); (case sT => k_asm); (case sk => exact rfl); (case sd => ktr_room); (case su => ke_room); (case s1 => k_mem); (case s2 => first | exact optNone | exact optInt)); intro r' h' tk' e' F' N'; (try k_sweep)))
local macro_rules | `(tactic| walk_at "compareOp Eq ref ref") => `(tactic| (k_here; (with_reducible show wpAny _ _ (compareOp CmpOp.Eq (Value.ref _) (Value.ref _)) _ _ _); refine halt ?_))

theorem bools_snoc {f : Int} {l : Option Int} {i : Nat} {ys : List Value} {r : Bool} (hy : ys = ((List.range i).map (fun j => inB f l ((j : Nat) : Int))).map Value.bool) (hr : r = inB f l (i : Int)) :
    ys ++ [Value.bool r] = ((List.range (i + 1)).map (fun j => inB f l ((j : Nat) : Int))).map Value.bool := by
  subst hy hr
  simp [List.range_succ]
theorem made_spec {w : World} {p : Program} {loose : List Str} {mean : ExcName → Option Value} {mg mb : Str → Option Value}
    {dp un : Nat} {gd : Option (List Code)} {cn : Str} {cs : Scope} {L a : Addr} {ccd : Value} {cl : List (Str × Addr)} {outer : List Env} {A₀ : Around} {base h₀ : Heap} {m : Str → Option Value}
    {rest : List (Addr × Obj)} {s : Shared} {hop : Addr} {va vb : Int} {ta tb : Tok} {n : Nat} {Q E : Value → Shared → Prop}
    (B : Below A₀ base outer h₀) (F : Fr h₀ L s.heap m) (X : (frag.heap_1 w.params).In h₀) (N : News h₀ L s.heap ((hop, listOf #[.int va ta, .int vb tb] n) :: rest)) (T : Top p loose mean mg mb h₀) (hk : cs.kind = .function) (hdp : dp + 30 < recursionLimit) (hun : un + 300 < cLine)
  (off : ∀ p ∈ rest, p.1 ≠ hop) (hb0 : 0 ≤ vb) (hb1 : vb < 2147483587)
  (ret : ∀ (a' b' : Int) (ta' tb' : Tok) (n' : Nat) (h' : Heap) (tk' : Nat), 0 ≤ b' → b' < 2147483587 → Fr h₀ L h' m → News h₀ L h' ((hop, listOf #[.int a' ta', .int b' tb'] n') :: rest) → Q (.bool true) { s with heap := h', toks := tk' }) :
  wpAny (model PySem.Challenge.rw_pc0217_01.prog w) (ktrTop dp un gd cn cs L a ccd cl outer) (call (.ref 739) [.ref hop]) Q E s := by
  revert X; k_fill; intro X
  refine wpAny_call ?_
  k_dflt (refine' code_defC ?k1 ?k2 ?k3 ?k4 ?k5 ?kA ?kF ?kK ?k6 ?k7 ?k8 ?k9 ?kB ?kD ?_ ?c2 ?c3 ?c4; (case kA => exact rfl); (case kF => exact rfl); (case kK => assumption); (case k1 => k_asm); (case k2 => k_asm); (case k3 => k_asm); (case k4 => k_asm); (case k5 => k_asm); (case k6 => k_is); (case k7 => k_is); (case k8 => k_room); (case k9 => first | exact BindsTo.of_eq rfl | exact binds_K (by k_in) rfl (by k_is) rfl rfl rfl | fail "k_enter: no rule for these arguments"); (case kB => exact rfl); (case kD => decide +kernel); (case c2 => exact rfl); (case c3 => exact rfl); (case c4 => exact rfl); k_whole; intro g' L' h' tk' cells' FG' F' N' Y' B' X' T' l1; (try k_lt l1); k_cells Y'; (try simp only [List.cons_append, List.nil_append] at N'); (try dsimp only); (try k_lift B'); (try k_fold))
  rename_i oA oB oC dA dB dC
  have f1 : ∀ p ∈ rest, p.1 ≠ L' + 1 := fun p hp => Nat.ne_of_lt (Nat.lt_succ_of_lt (lt_of_all l1.2 p hp))
  have f2 : ∀ p ∈ rest, p.1 ≠ L' + 1 + 1 := fun p hp => Nat.ne_of_lt (Nat.lt_succ_of_lt (Nat.lt_succ_of_lt (lt_of_all l1.2 p hp)))
  have f3 : ∀ p ∈ rest, p.1 ≠ L' + 1 + 1 + 1 := fun p hp => Nat.ne_of_lt (Nat.lt_succ_of_lt (Nat.lt_succ_of_lt (Nat.lt_succ_of_lt (lt_of_all l1.2 p hp))))
  k_steps
  unfold Halt
  k_dflt (refine' scoop_spec ?sB ?sF ?sX ?sN ?sU ?sT ?sk ?sd ?su ?b0 ?b1 ?m0 ?m1 ?_; (case sB => k_asm); (case sF => k_asm); (case sX => k_asm); (case sN => k_asm); (case sT => k_asm); (case sk => exact rfl); (case sd => ktr_room); (case su => ke_room); (case sU => k_updF); (case b0 => assumption); (case b1 => assumption); (case m0 => decide); (case m1 => decide)); intro r1 a1 b1 s1 ta1 tb1 n1 h1 tk1 r10 r11 b10 b11 F1 N1
  (try dsimp only at N1)
  k_steps
  unfold Halt
  k_dflt (refine' scoop_spec ?sB ?sF ?sX ?sN ?sU ?sT ?sk ?sd ?su ?b0 ?b1 ?m0 ?m1 ?_; (case sB => k_asm); (case sF => k_asm); (case sX => k_asm); (case sN => k_asm); (case sT => k_asm); (case sk => exact rfl); (case sd => ktr_room); (case su => ke_room); (case sU => k_updF); (case b0 => assumption); (case b1 => assumption); (case m0 => decide); (case m1 => decide)); intro r2 a2 b2 s2 ta2 tb2 n2 h2 tk2 r20 r21 b20 b21 F2 N2
  (try dsimp only at N2)
  k_steps
  · rename IsRange _ _ _ _ _ _ _ _ => R9
    refine compHere_range 10 (fun i ys nw => nw = _ ∧ ys = ((List.range i).map (fun j => inB r1 none ((j : Nat) : Int))).map Value.bool) rfl (by assumption) (by assumption) R9 (by decide) (by rfl) (by rw [sizeLine_eq]; omega) ⟨rfl, rfl⟩ ?_ ?_
    · rintro i ys nw t I9 oI C9 oC D9 m₂ h9 tk9 E' hi ⟨e, hy⟩ hC9 hx9 F9 N9 off ne
      subst e
      (try k_unmd)
      (try k_fold)
      k_steps
      exact comp_same (by assumption) (by assumption) off trivial ⟨rfl, bools_snoc hy (by assumption)⟩
    · rintro g9 ys nw ⟨e, hy⟩
      subst e
      intro D9 h7 tk7 F7 N7 o1
      k_steps
      rename IsRange _ _ _ _ _ _ _ _ => R8
      refine compHere_range 10 (fun i ys nw => nw = _ ∧ ys = ((List.range i).map (fun j => inB r1 none ((j : Nat) : Int))).map Value.bool) rfl (by assumption) (by assumption) R8 (by decide) (by rfl) (by rw [sizeLine_eq]; omega) ⟨rfl, rfl⟩ ?_ ?_
      · rintro i ys' nw t I9 oI C9 oC D8 m₂ h9 tk9 E' hi ⟨e, hy'⟩ hC9 hx9 F9 N9 off ne
        subst e
        (try k_unmd)
        (try k_fold)
        k_steps
        exact comp_same (by assumption) (News.drop (by assumption)) off trivial ⟨rfl, bools_snoc hy' (by assumption)⟩
      · rintro g9 ys' nw ⟨e, hy'⟩
        subst e
        intro D8 h7 tk7 F7 N7 o1
        k_steps
        unfold Halt
        subst hy hy'
        k_dflt (refine' eq_bools (bs := (List.range 10).map (fun j => inB r1 none ((j : Nat) : Int))) ?ea2 ?eb2 ?ec2 ?_; (case ea2 => exact ⟨_, (N7 _ (.tail _ (.head _))).1, rfl, _, rfl⟩); (case eb2 => exact ⟨_, (N7 _ (.head _)).1, rfl, _, rfl⟩); (case ec2 => ke_room))
        k_steps
        rename News h₀ L _ _ => N5
        exact ret _ _ _ _ _ _ _ b20 b21 (by assumption) (fun p hp => N5 p (by
          rcases List.mem_cons.mp hp with rfl | hp
          · k_mem
          · repeat (first | exact hp | apply List.mem_cons_of_mem)))
  · unfold Halt
    k_dflt (refine' scoop_spec ?sB ?sF ?sX ?sN ?sU ?sT ?sk ?sd ?su ?b0 ?b1 ?m0 ?m1 ?_; (case sB => k_asm); (case sF => k_asm); (case sX => k_asm); (case sN => k_asm); (case sT => k_asm); (case sk => exact rfl); (case sd => ktr_room); (case su => ke_room); (case sU => k_updF); (case b0 => assumption); (case b1 => assumption); (case m0 => decide); (case m1 => decide)); intro r3 a3 b3 s3 ta3 tb3 n3 h3 tk3 r30 r31 b30 b31 F3 N3
    (try dsimp only at N3)
    k_steps
    rename IsRange _ _ _ _ _ _ _ _ => R9
    refine compHere_range 10 (fun i ys nw => nw = _ ∧ ys = ((List.range i).map (fun j => inB r1 (some (r1 + r3)) ((j : Nat) : Int))).map Value.bool) rfl (by assumption) (by assumption) R9 (by decide) (by rfl) (by rw [sizeLine_eq]; omega) ⟨rfl, rfl⟩ ?_ ?_
    · rintro i ys nw t I9 oI C9 oC D9 m₂ h9 tk9 E' hi ⟨e, hy⟩ hC9 hx9 F9 N9 off ne
      subst e
      (try k_unmd)
      (try k_fold)
      k_steps
      exact comp_same (by assumption) (by assumption) off trivial ⟨rfl, bools_snoc hy (by assumption)⟩
    · rintro g9 ys nw ⟨e, hy⟩
      subst e
      intro D9 h7 tk7 F7 N7 o1
      k_steps
      rename IsRange _ _ _ _ _ _ _ _ => R8
      refine compHere_range 10 (fun i ys nw => nw = _ ∧ ys = ((List.range i).map (fun j => inB r1 (some (r1 + r3)) ((j : Nat) : Int))).map Value.bool) rfl (by assumption) (by assumption) R8 (by decide) (by rfl) (by rw [sizeLine_eq]; omega) ⟨rfl, rfl⟩ ?_ ?_
      · rintro i ys' nw t I9 oI C9 oC D8 m₂ h9 tk9 E' hi ⟨e, hy'⟩ hC9 hx9 F9 N9 off ne
        subst e
        (try k_unmd)
        (try k_fold)
        k_steps
        exact comp_same (by assumption) (News.drop (by assumption)) off trivial ⟨rfl, bools_snoc hy' (by assumption)⟩
      · rintro g9 ys' nw ⟨e, hy'⟩
        subst e
        intro D8 h7 tk7 F7 N7 o1
        k_steps
        unfold Halt
        subst hy hy'
        k_dflt (refine' eq_bools (bs := (List.range 10).map (fun j => inB r1 (some (r1 + r3)) ((j : Nat) : Int))) ?ea3 ?eb3 ?ec3 ?_; (case ea3 => exact ⟨_, (N7 _ (.tail _ (.head _))).1, rfl, _, rfl⟩); (case eb3 => exact ⟨_, (N7 _ (.head _)).1, rfl, _, rfl⟩); (case ec3 => ke_room))
        k_steps
        rename News h₀ L _ _ => N5
        exact ret _ _ _ _ _ _ _ b30 b31 (by assumption) (fun p hp => N5 p (by
          rcases List.mem_cons.mp hp with rfl | hp
          · k_mem
          · repeat (first | exact hp | apply List.mem_cons_of_mem)))
theorem made_inv {w : World} {p : Program} {loose : List Str} {mean : ExcName → Option Value} {mg mb : Str → Option Value}
    {dp un : Nat} {gd : Option (List Code)} {cn : Str} {cs : Scope} {L a : Addr} {ccd : Value} {cl : List (Str × Addr)} {outer : List Env} {A₀ : Around} {base h₀ : Heap} {m : Str → Option Value}
    {news : List (Addr × Obj)} {s : Shared} {Q E : Value → Shared → Prop}
    (B : Below A₀ base outer h₀) (F : Fr h₀ L s.heap m) (X : (frag.heap_1 w.params).In h₀) (N : News h₀ L s.heap news) (T : Top p loose mean mg mb h₀) (hk : cs.kind = .function) (hdp : dp + 30 < recursionLimit) (hun : un + 300 < cLine)
  {P : Par} {k : Nat} {σ1 σ2 : St} {ns : List Int} (I : Inv w P k σ1 σ2 ns news)
  (ret : ∀ h' tk' news', Fr h₀ L h' m → News h₀ L h' news' → Inv w P k σ1 σ2 ns news' → Q (.bool true) { s with heap := h', toks := tk' }) :
  wpAny (model PySem.Challenge.rw_pc0217_01.prog w) (ktrTop dp un gd cn cs L a ccd cl outer) (call (.ref 739) [.ref P.H]) Q E s := by
  obtain ⟨va, vb, ta, tb, n, hm, b0, b1⟩ := I.hop
  exact made_spec B F X (News.first N hm) T hk hdp hun others_ne b0 b1 fun a' b' ta' tb' n' h' tk' b0' b1' F' N' => ret _ _ _ F' (News.back N') (I.hopSet b0' b1')
end Mine
namespace Mine
open PyProof.V PySem.Calls PySem.Spec
local macro_rules | `(tactic| ktr_room) => `(tactic| ((try simp only [depth_under_make, depth_under_kw, depth_in1, depth_deeper, depth_caller]); (try dsimp only [ktrTop]); omega))
local macro_rules | `(tactic| k_room) => `(tactic| ktr_room)
local macro_rules | `(tactic| ke_room) => `(tactic| ((try simp only [units_in1, units_deeper, Around.mark_units, units_caller]); (try dsimp only [ktrTop]); omega))
local macro_rules | `(tactic| walk_at "ite") => `(tactic| (k_closed; with_reducible (first | refine ite_pos (by decide) ?_ | refine ite_neg (by decide) ?_)))
local macro_rules | `(tactic| k_all) => `(tactic| assumption)
local macro_rules | `(tactic| k_mem) => `(tactic| assumption)
local macro_rules | `(tactic| walk_at "eval Name") => `(tactic| (k_here; k_dflt (refine' nameX_F ?N ?c ?m ?d ?_ ?a ?b; (case b => rfl); (case a => rfl); (case N => k_asm); (case c => rfl); (case m => k_mem); (case d => k_asm); k_whole)))
local macro_rules | `(tactic| walk_at "eval Name") => `(tactic| (k_here; k_dflt (refine' nameX_C ?N ?c ?m ?d ?_ ?a ?b; (case b => rfl); (case a => rfl); (case N => k_asm); (case c => rfl); (case m => k_mem); (case d => k_asm); k_whole)))
local macro_rules | `(tactic| walk_at "subscriptTail") => `(tactic| (k_here; (with_reducible show wpAny _ _ (subscriptTail _ _ (Value.ref _) (Value.int _ _)) _ _ _); k_dflt (refine my_item (by k_asm) (by k_mem) (by k_asm) (by k_asm) ?_)))
local macro_rules | `(tactic| walk_at "compareOp NotIn int ref") => `(tactic| (k_here; k_dflt (refine kdg_notin (knd := PySem.intKind _ _) (by k_asm) (by k_mem) (by k_asm) (by k_asm) (intKind_is _ _ _ _) _ (by k_asm) ?_)))
local macro_rules | `(tactic| walk_at "compareOp In int ref") => `(tactic| (k_here; k_dflt (refine kda_in (knd := PySem.intKind _ _) (by k_asm) (by k_mem) (by k_asm) (by k_asm) (intKind_is _ _ _ _) _ (by k_asm) ?_)))
local macro_rules | `(tactic| walk_at "exec Assign cons ListComp") => `(tactic| (k_here; k_dflt (refine comp_assign (F₀ := by k_asm) (by rfl) (by with_unfolding_all rfl) (by with_unfolding_all rfl) (by decide) (by rfl) (by decide) (by rfl) (by rfl) (by rfl) ?_)))
local macro_rules | `(tactic| walk_at "eval ListComp") => `(tactic| (k_here; k_dflt (refine comp_eval (F₀ := by k_asm) (by with_unfolding_all rfl) (by decide) (by rfl) (by decide) (by rfl) ?_)))
local macro_rules | `(tactic| walk_at "exec Assign cons ListComp") => `(tactic| (k_here; (with_reducible show wpAny _ _ (exec (Stmt.Assign [PySem.Expr.Subscript _ _ _] _ _) _) _ _ _); with_reducible refine wpAny_Assign_Subscript ?_ ?_; rotate_left; with_unfolding_all rfl))
local macro_rules | `(tactic| walk_at "call ref") => `(tactic| (k_here; (with_reducible show wpAny _ _ (call (Value.ref 720) _ _) _ _ _); refine halt ?_))
local macro_rules | `(tactic| walk_at "call ref") => `(tactic| (k_here; (with_reducible show wpAny _ _ (call (Value.ref 628) _ _) _ _ _); refine halt ?_))
local macro_rules | `(tactic| walk_at "exec For Name Name cons nil") => `(tactic| (k_here; refine halt ?_))
local macro_rules | `(tactic| walk_at "setItem ref int") => `(tactic| (k_here; (with_reducible show wpAny _ _ (PySem.setItem (Value.ref _) (Value.int _ _) _) _ _ _); refine halt ?_))
local macro_rules | `(tactic| walk_at "setItem ref ref") => `(tactic| (k_here; (with_reducible show wpAny _ _ (PySem.setItem (Value.ref _) (Value.ref _) _) _ _ _); refine halt ?_))
local macro_rules | `(tactic| walk_at "compareOp NotEq ref ref") => `(tactic| (k_here; (with_reducible show wpAny _ _ (compareOp CmpOp.NotEq (Value.ref _) (Value.ref _)) _ _ _); refine halt ?_))

def turnIf : Stmt := match turnBody with | _ :: s :: _ => s | _ => default
def turnDeed : List Stmt := match turnIf with | .If _ _ (.If _ _ b _ :: _) _ => b | _ => []
theorem ps1 {m : Str → Option Value} {a : Str} {va : Value} (ha : m a = some va) : ∀ p ∈ [(a, va)], m p.1 = some p.2 := fun p hp => by
  rw [List.mem_singleton.mp hp]; exact ha
structure Lamb (P : Par) (ED EDD ER LAM LC cH : Addr) (e3 e4 e5 : Int) (t3 t4 t5 lt : Tok) (qual : Str) (pm ctv : Value) (oc oH : Obj) (lvs : Array Value) : Prop where
  hE : (ED, instObj 577 EDD) ∈ P.fx
  hED : (EDD, eDict e3 e4 e5 t3 t4 t5 ER LAM) ∈ P.fx
  hL : (LAM, kla_obj (Str.ofString "<lambda>") qual lamArgs lamBody lamScope [(Str.ofString "hit", cH)] pm LC ctv) ∈ P.fx
  hLC : (LC, oc) ∈ P.fx
  h3 : oc.data = .fields lvs
  h4 : lvs[1]? = some (.str qual lt)
  hC : (cH, oH) ∈ P.fx
  h6 : oH.data = .cell (some (.ref P.HIT))
theorem Lamb.add {P : Par} {ED EDD ER LAM LC cH : Addr} {e3 e4 e5 : Int} {t3 t4 t5 lt : Tok} {qual : Str} {pm ctv : Value} {oc oH : Obj} {lvs : Array Value} (Y : Lamb P ED EDD ER LAM LC cH e3 e4 e5 t3 t4 t5 lt qual pm ctv oc oH lvs) (q : Addr × Obj) :
    Lamb (P.add q) ED EDD ER LAM LC cH e3 e4 e5 t3 t4 t5 lt qual pm ctv oc oH lvs :=
  ⟨.tail _ Y.hE, .tail _ Y.hED, .tail _ Y.hL, .tail _ Y.hLC, Y.h3, Y.h4, .tail _ Y.hC, Y.h6⟩

theorem method_keep {w : World} {P : Par} {k : Nat} {σ1 σ2 : St} {ns : List Int} {nw : List (Addr × Obj)} {h₀ h : Heap} {L : Addr} {x d a b c e : Addr} {ox od oa ob oc oe : Obj} (N : News h₀ L h ((x, ox) :: (d, od) :: (a, oa) :: (b, ob) :: (c, oc) :: (e, oe) :: nw))
    (J : Inv w P k σ1 σ2 ns nw) {ED EDD ER LAM LC cH : Addr} {e3 e4 e5 : Int} {t3 t4 t5 lt : Tok} {qual : Str} {pm ctv : Value} {oc' oH : Obj} {lvs : Array Value} (Y : Lamb P ED EDD ER LAM LC cH e3 e4 e5 t3 t4 t5 lt qual pm ctv oc' oH lvs) (l1 : @LT.lt Nat _ a d ∧ @LT.lt Nat _ b d ∧ @LT.lt Nat _ c d ∧ @LT.lt Nat _ e d ∧ AllLt d nw) (l2 : @LT.lt Nat _ d x) :
    News h₀ L h ((x, ox) :: (d, od) :: nw) ∧ Inv w ((P.add (d, od)).add (x, ox)) k σ1 σ2 ns ((x, ox) :: (d, od) :: nw) ∧ Lamb ((P.add (d, od)).add (x, ox)) ED EDD ER LAM LC cH e3 e4 e5 t3 t4 t5 lt qual pm ctv oc' oH lvs := by
  have lt' := lt_of_all l1.2.2.2.2
  refine ⟨fun p hp => N p ?_, (J.keep (q := (d, od)) (fun p hp => Nat.ne_of_lt (lt' p hp))).keep (q := (x, ox)) fun p hp => ?_, (Y.add _).add _⟩
  · rcases List.mem_cons.mp hp with rfl | hp
    · exact .head _
    · rcases List.mem_cons.mp hp with rfl | hp
      · exact .tail _ (.head _)
      · exact .tail _ (.tail _ (.tail _ (.tail _ (.tail _ (.tail _ hp)))))
  · rcases List.mem_cons.mp hp with rfl | hp
    · exact Nat.ne_of_lt l2
    · exact Nat.ne_of_lt (Nat.lt_trans (lt' p hp) l2)
theorem keepN {w : World} {P : Par} {k : Nat} {σ1 σ2 : St} {ns : List Int} {news : List (Addr × Obj)} {h₀ h : Heap} {L : Addr} {q : Addr × Obj} (_N : News h₀ L h (q :: news)) (I : Inv w P k σ1 σ2 ns news) (lt : ∀ p ∈ news, p.1 < q.1) : Inv w (P.add q) k σ1 σ2 ns (q :: news) := I.keep (ne_of_lts lt)
theorem keep3 {w : World} {P : Par} {k : Nat} {σ1 σ2 : St} {ns : List Int} {news : List (Addr × Obj)} {I C D : Addr} {oI oC oD : Obj} (J : Inv w P k σ1 σ2 ns news) (off : LCg.Off3 I C D news) (ne : (@Ne Nat I C) ∧ (@Ne Nat I D) ∧ (@Ne Nat C D)) :
    Inv w (((P.add (D, oD)).add (C, oC)).add (I, oI)) k σ1 σ2 ns ((I, oI) :: (C, oC) :: (D, oD) :: news) := by
  have J1 := J.keep (q := (D, oD)) (fun p hp => (off.mem p hp).2.2)
  have J2 := J1.keep (q := (C, oC)) (fun p hp => by
    rcases List.mem_cons.mp hp with rfl | hp
    · exact Ne.symm ne.2.2
    · exact (off.mem p hp).2.1)
  exact J2.keep (q := (I, oI)) (fun p hp => by
    rcases List.mem_cons.mp hp with rfl | hp
    · exact Ne.symm ne.1
    · rcases List.mem_cons.mp hp with rfl | hp
      · exact Ne.symm ne.2.1
      · exact (off.mem p hp).1)
theorem ps4 {m : Str → Option Value} {a b c d : Str} {va vb vc vd : Value} (ha : m a = some va) (hb : m b = some vb) (hc : m c = some vc) (hd : m d = some vd) : ∀ p ∈ [(a, va), (b, vb), (c, vc), (d, vd)], m p.1 = some p.2 := fun p hp => by
  rcases List.mem_cons.mp hp with rfl | hp
  · exact ha
  · exact ps3 hb hc hd p hp
theorem six {t0 t1 t2 t3 t4 t5 : Tok} {i : Nat} {v : Value} (h : ([Value.int 5 t0, .int 3 t1, .int 0 t2, .int 1 t3, .int 4 t4, .int 2 t5] : List Value).toArray[i]? = some v) : ∃ c t, v = .int c t := by
  obtain ⟨c, t, e, _⟩ := IntsAre.at (.cons 5 t0 (.cons 3 t1 (.cons 0 t2 (.cons 1 t3 (.cons 4 t4 (.cons 2 t5 .nil)))))) i v (by simpa using h)
  exact ⟨c, t, e⟩
theorem deed_block {w : World} {p : Program} {loose : List Str} {mean : ExcName → Option Value} {mg mb : Str → Option Value}
    {dp un : Nat} {gd : Option (List Code)} {L fa : Addr} {outer : List Env} {A₀ : Around} {base h₀ : Heap}
    {news : List (Addr × Obj)} {s : Shared} {Q : Flow → Shared → Prop} {E : Value → Shared → Prop}
    (B : Below A₀ base outer h₀) (X : (frag.heap_1 w.params).In h₀) (T : Top p loose mean mg mb h₀) (hdp : dp + 40 < recursionLimit) (hun : un + 400 < cLine)
  (hE : PassesOwn (model PySem.Challenge.rw_pc0217_01.prog w) (ktrTop dp un gd (Str.ofString "law") lawScope L fa (.ref 743) (cellsFrom (L + 1) lawScope.names []) outer) (envOfC (Str.ofString "law") lawScope L fa (.ref 743)) E)
  {P : Par} {k : Nat} {σ : St} {ns : List Int} {W DW ED EDD ER LAM LC : Addr} {oH oR oT oc : Obj} {e1 e2 e3 e4 e5 : Int} {t1 t2 t3 t4 t5 lt : Tok} {qual : Str} {pm ctv : Value} {lvs : Array Value} {i : Nat} {ti : Tok} {u₀ : Str → Option Value}
  (hW : (W, instObj 631 DW) ∈ P.fx) (hD : (DW, wDict e1 e2 t1 t2 ED P.WR) ∈ P.fx) (hcH : (L + 1, oH) ∈ P.fx) (dH : oH.data = .cell (some (.ref P.H))) (hcR : (L + 1 + 1, oR) ∈ P.fx) (dR : oR.data = .cell (some (.ref P.RR))) (dT : oT.data = .cell (some (.ref P.HIT)))
  (Y : Lamb P ED EDD ER LAM LC (L + 1 + 1 + 1) e3 e4 e5 t3 t4 t5 lt qual pm ctv oc oT lvs)
  (I : Inv w P k σ σ ns news) (hz : k ≤ 100) (hlen : ns.length ≤ 6) {way user world : Int} {tw tu td : Tok}
  (F : Fr h₀ L s.heap (fun y => if y = Str.ofString "way" then some (.int way tw) else if y = Str.ofString "user" then some (.int user tu) else if y = Str.ofString "world" then some (.int world td) else if y = Str.ofString "turn" then some (.int (i : Int) ti) else if y = Str.ofString "worlds" then some (.ref W) else u₀ y)) (N : News h₀ L s.heap news)
  (ret : ∀ h' tk' nw' σ' ns' (u' : Str → Option Value), ns'.length ≤ 6 → Fr h₀ L h' (fun y => if y = Str.ofString "worlds" then some (.ref W) else u' y) → News h₀ L h' nw' → Inv w P k σ' σ' ns' nw' → Q .next { s with heap := h', toks := tk' }) :
  wpAny (model PySem.Challenge.rw_pc0217_01.prog w) (ktrTop dp un gd (Str.ofString "law") lawScope L fa (.ref 743) (cellsFrom (L + 1) lawScope.names []) outer) (execs turnDeed (envOfC (Str.ofString "law") lawScope L fa (.ref 743))) Q E s := by

  revert X; k_fill; intro X
  generalize hx_turnDeed : turnDeed = x_turnDeed
  generalize hx_lawScope : lawScope = x_lawScope
  conv at hx_turnDeed => lhs; whnf
  subst hx_turnDeed
  conv at hx_lawScope => lhs; whnf
  subst hx_lawScope

  have mH := I.fixed _ hcH
  have mR := I.fixed _ hcR
  have mT := I.fixed _ Y.hC
  k_steps
  rename News _ _ _ _ => N1
  rename Fr _ _ _ _ => F1
  rename ∀ p ∈ news, p.1 < _ => lt1
  have I1 := keepN N1 I lt1
  refine compHere_list (fun i ys nw => Inv w _ k σ σ ns nw ∧ ∃ zs, IntsAre ys zs ∧ zs.length ≤ i) rfl F1 N1 (.head _) (Nat.le_of_ble_eq_true rfl) ⟨I1, [], .nil, Nat.le_refl _⟩ ?_ ?_
  · rintro i ys nw v I9 oI C9 oC D9 m₂ h9 tk9 E' ⟨J, zs, hy, hl⟩ hv hC9 hx9 F9 N9 off ne
    obtain ⟨c, t, rfl⟩ := six hv
    have J3 := keep3 (D := D9) (oD := LCg.lst ys) (C := C9) (oC := oC) (I := I9) (oI := oI) J off ne
    have mH9 := J3.fixed _ (.tail _ (.tail _ (.tail _ (.tail _ hcH))))
    (try k_unmd)
    (try k_fold)
    k_steps
    unfold Halt
    k_dflt (refine' scoop_invH ?h2B ?h2F ?h2X ?h2N ?h2T ?h2k ?h2d ?h2u J3 rfl (by decide) (by decide) ?_; (case h2B => k_asm); (case h2F => k_asm); (case h2X => k_asm); (case h2N => k_asm); (case h2T => k_asm); (case h2k => exact rfl); (case h2d => ktr_room); (case h2u => ke_room))
    intro r1 s1 h1 tk1 nw1 r10 r11 F1 N1 J1
    have mC := J1.fixed _ (.tail _ (.head _))
    k_steps
    · exact comp_other (by assumption) (by assumption) J1 (fun p hp => off.mem p (J.fixed p hp)) ne (fun nw' K => ⟨.inr ⟨_, K.fixed _ (.head _), rfl, _, rfl⟩, K, _, IntsAre.append hy (.cons _ _ .nil), by simp only [List.length_append, List.length_cons, List.length_nil]; omega⟩)
    · exact comp_other (by assumption) (by assumption) J1 (fun p hp => off.mem p (J.fixed p hp)) ne (fun nw' K => ⟨.inr ⟨_, K.fixed _ (.head _), rfl, _, rfl⟩, K, zs, hy, by omega⟩)
  · rintro g9 ys nw ⟨J, zs, hy, hl⟩
    intro D9 h7 tk7 F7 N7 o1
    have mT7 := J.fixed _ (.tail _ Y.hC)
    k_steps
    obtain ⟨_, _, hmT, _⟩ := J.hit
    have eA := off1_mem o1 _ hmT
    have eB := Heap.lt_size (N7 _ (.tail _ hmT)).1
    have FS := F7.push { cls := .type "slice", data := .fields #[.none, .none, .none] }
    have NS := News.push F7 N7 { cls := .type "slice", data := .fields #[.none, .none, .none] }
    have hl6 : zs.length ≤ 6 := hl
    unfold Halt
    k_dflt (refine hitSet_inv FS NS J rfl (Ne.symm eA) (Nat.ne_of_gt eB) hy (by omega) (by omega) ?_)
    intro h8 nw8 F8 N8 J8
    have K8 := J8.leave
    obtain ⟨vs8, n8, hT8, hz8⟩ := K8.hit
    obtain ⟨o2, kvs2, d2⟩ := K8.d2
    have hd2 := d2.dict
    have mRR : (P.RR, o2) ∈ nw8 := d2.mem
    have lo : (P.RR == sysModules) = false := K8.ok.lor
    have mT8 := K8.fixed _ Y.hC
    have mR8 := K8.fixed _ hcR
    k_steps
    refine compHere_list (fun i ys nw => nw = nw8 ∧ IntsAre ys ((zs.take i).filter (open' σ))) rfl (by assumption) N8 hT8 (by rw [List.size_toArray, hz8.length, sizeLine_eq]; omega) ⟨rfl, .nil⟩ ?_ ?_
    · rintro i ys' nw v I9 oI C9 oC D9 m₂ h9 tk9 E' ⟨e, hy'⟩ hv hC9 hx9 F9 N9 off ne
      subst e
      obtain ⟨c, t, rfl, hc⟩ := IntsAre.at hz8 i v (by simpa using hv)
      have hu := d2.at' c
      have hN9 := N9
      (try k_unmd)
      (try k_fold)
      cases hσ : σ c with
      | none =>
        rw [hσ] at hu
        have hu2 : (valueAt kvs2 c).isSome = false := hu
        k_steps
        exact comp_same F9 hN9 off (.inr ⟨_, hT8, rfl, _, rfl⟩) ⟨rfl, by rw [take_filter hc, open_no hσ]; simpa using hy'⟩
      | some p =>
        obtain ⟨f, l⟩ := p
        rw [hσ] at hu
        obtain ⟨ta, x, tt, tn, hva, fr, hm, ho⟩ := hu
        have hs1 : (valueAt kvs2 c).isSome = true := by rw [hva]; rfl
        replace N9 := News.add N9 (q := (ta, listOf #[.int f tt, x] tn)) (by k_mem)
        cases l with
        | none =>
          cases ho
          k_steps
          exact comp_same F9 hN9 off (.inr ⟨_, hT8, rfl, _, rfl⟩) ⟨rfl, by rw [take_filter hc, open_yes hσ]; exact IntsAre.append hy' (.cons _ _ .nil)⟩
        | some e =>
          obtain ⟨_, rfl⟩ := ho
          k_steps
          exact comp_same F9 hN9 off (.inr ⟨_, hT8, rfl, _, rfl⟩) ⟨rfl, by rw [take_filter hc, open_shut hσ]; simpa using hy'⟩
    · rintro g9' ys' nw ⟨e, hy'⟩
      subst e
      intro D7 h6 tk6 F6 N6 o6
      have hyf : IntsAre ys' (zs.filter (open' σ)) := by
        have e : zs.take vs8.toArray.size = zs := List.take_of_length_le (by rw [List.size_toArray, hz8.length]; exact Nat.le_refl _)
        rw [e] at hy'
        exact hy'
      have K9 := K8.keep (q := (D7, LCg.lst ys')) (off1_mem o6)
      k_steps
      unfold Halt
      with_unfolding_all refine' for_here F6 ?zk1 ?zk2 ?zk3 (hE := hE)
      case zk1 => exact rfl
      case zk2 => exact rfl
      k_steps
      refine list_here [(Str.ofString "worlds", .ref W), (Str.ofString "turn", .int (i : Int) ti), (Str.ofString "world", .int world td), (Str.ofString "due", .ref D7)] (fun j nw => Inv w _ k σ (mark σ world ((zs.filter (open' σ)).take j)) zs nw) rfl (fun j nw J => J.fixed _ (.head _)) (by assumption) (ps4 rfl rfl rfl rfl) N6 (by rw [List.take_zero, mark_nil]; exact K9) ?_ ?_
      · intro j v u nw h5 tk5 I5 oI5 hv5 J5 hne5 F5 N5
        obtain ⟨c, t, rfl, hc⟩ := IntsAre.at hyf j v (by simpa using hv5)
        obtain ⟨f, hσ⟩ := open_some (List.mem_filter.mp (List.mem_of_getElem? hc)).2
        have J4 := J5.keep (q := (I5, oI5)) hne5
        obtain ⟨o3, kvs3, d3⟩ := J4.d2
        have hd3 := d3.dict
        have mRR3 : (P.RR, o3) ∈ (I5, oI5) :: nw := d3.mem
        have hu3 := d3.at' c
        rw [mark_in hσ] at hu3
        obtain ⟨la, x, tt, tn, hva, fr, hm, ho⟩ := hu3
        have mR5 := J4.fixed _ (.tail _ (.tail _ hcR))
        (try k_fold)
        k_steps
        unfold Halt
        k_dflt (refine rowSet_inv F5 N5 J4 d3 hva hm ?_)
        intro h4 nw4 F4 N4 K4
        k_steps
        exact loop_other (by assumption) (ps4 rfl rfl rfl rfl) (by assumption) K4 (fun p hp => hne5 p (J5.fixed p hp)) (fun nw' K => by rw [take_snoc hc, mark_snoc hσ]; exact K)
      · intro u nw h5 tk5 J5 F5 N5
        have e : (zs.filter (open' σ)).take ys'.toArray.size = zs.filter (open' σ) := List.take_of_length_le (by rw [List.size_toArray, hyf.length]; exact Nat.le_refl _)
        rw [e] at J5
        have mW5 := J5.fixed _ (.tail _ hW)
        have mD5 := J5.fixed _ (.tail _ hD)
        k_steps
        rename News h₀ L _ _ => N4
        obtain ⟨N3, J3, Y3⟩ := method_keep N4 J5 (Y.add _) (by assumption) (by assumption)
        unfold Halt
        k_dflt (refine' added_inv ?h1B ?h1F ?h1X ?h1N ?h1T ?h1k ?h1d ?h1u (.tail _ (.tail _ (.tail _ hW))) (.tail _ (.tail _ (.tail _ hD))) Y3.hE Y3.hED Y3.hL Y3.hLC Y3.h3 Y3.h4 Y3.hC Y3.h6 (.head _) (.tail _ (.head _)) J3 (by omega) (by omega) ?_; (case h1B => k_asm); (case h1F => k_asm); (case h1X => k_asm); (case h1N => exact N3); (case h1T => k_asm); (case h1k => exact rfl); (case h1d => ktr_room); (case h1u => ke_room))
        intro FD fvs fj h3 tk3 nw3 hF F3 N3' mFD J3'
        have mD7 := J3'.fixed _ (.tail _ (.tail _ (.head _)))
        k_steps
        unfold Halt
        k_dflt (refine ne_intsK (vs := fvs) (us := ys') ⟨_, (N3' _ mFD).1, rfl, _, rfl⟩ hF ⟨_, (N3' _ mD7).1, rfl, _, rfl⟩ hyf (by ke_room) ?_)
        simp only [decide_true, Bool.not_true]
        k_steps
        exact ret _ _ _ _ _ (kstB u [(Str.ofString "turn", .int (i : Int) ti), (Str.ofString "world", .int world td), (Str.ofString "due", .ref D7)]) hl6 (by assumption) (by assumption) J3'.leave.leave.leave
end Mine
namespace Mine
open PyProof.V PySem.Calls PySem.Spec
local macro_rules | `(tactic| ktr_room) => `(tactic| ((try simp only [depth_under_make, depth_under_kw, depth_in1, depth_deeper, depth_caller]); (try dsimp only [ktrTop]); omega))
local macro_rules | `(tactic| k_room) => `(tactic| ktr_room)
local macro_rules | `(tactic| ke_room) => `(tactic| ((try simp only [units_in1, units_deeper, Around.mark_units, units_caller]); (try dsimp only [ktrTop]); omega))
local macro_rules | `(tactic| walk_at "ite") => `(tactic| (k_closed; with_reducible (first | refine ite_pos (by decide) ?_ | refine ite_neg (by decide) ?_)))
local macro_rules | `(tactic| k_all) => `(tactic| assumption)
local macro_rules | `(tactic| k_mem) => `(tactic| assumption)
local macro_rules | `(tactic| walk_at "eval Name") => `(tactic| (k_here; k_dflt (refine' nameX_F ?N ?c ?m ?d ?_ ?a ?b; (case b => rfl); (case a => rfl); (case N => k_asm); (case c => rfl); (case m => k_mem); (case d => k_asm); k_whole)))
local macro_rules | `(tactic| walk_at "eval Name") => `(tactic| (k_here; k_dflt (refine' nameX_C ?N ?c ?m ?d ?_ ?a ?b; (case b => rfl); (case a => rfl); (case N => k_asm); (case c => rfl); (case m => k_mem); (case d => k_asm); k_whole)))
local macro_rules | `(tactic| walk_at "exec For Name Call cons nil") => `(tactic| (k_here; (rename Fr _ _ _ _ => lF'); (with_unfolding_all refine' for_here lF' ?k1 ?k2 ?_; (case k1 => exact rfl); (case k2 => exact rfl); k_whole)))
local macro_rules | `(tactic| walk_at "exec For Name Tuple cons nil") => `(tactic| (k_here; (rename Fr _ _ _ _ => lF'); (with_unfolding_all refine' for_here lF' ?k1 ?k2 ?_; (case k1 => exact rfl); (case k2 => exact rfl); k_whole)))
local macro_rules | `(tactic| walk_at "exec For Name Name cons nil") => `(tactic| (k_here; (rename Fr _ _ _ _ => lF'); (with_unfolding_all refine' for_here lF' ?k1 ?k2 ?_; (case k1 => exact rfl); (case k2 => exact rfl); k_whole)))
local macro_rules | `(tactic| walk_at "subscriptTail") => `(tactic| (k_here; (with_reducible show wpAny _ _ (subscriptTail _ _ (Value.ref _) (Value.int _ _)) _ _ _); k_dflt (refine my_item (by k_asm) (by k_mem) (by k_asm) (by k_asm) ?_)))
local macro_rules | `(tactic| walk_at "compareOp NotIn int ref") => `(tactic| (k_here; k_dflt (refine kdg_notin (knd := PySem.intKind _ _) (by k_asm) (by k_mem) (by k_asm) (by k_asm) (intKind_is _ _ _ _) _ (by k_asm) ?_)))
local macro_rules | `(tactic| walk_at "compareOp In int ref") => `(tactic| (k_here; k_dflt (refine kda_in (knd := PySem.intKind _ _) (by k_asm) (by k_mem) (by k_asm) (by k_asm) (intKind_is _ _ _ _) _ (by k_asm) ?_)))
local macro_rules | `(tactic| walk_at "execs cons") => `(tactic| (k_here; (with_reducible show wpAny _ _ (execs (Stmt.Assign [PySem.Expr.Subscript _ _ _] (PySem.Expr.ListComp _ _ _ _) _ :: _) _) _ _ _); refine halt ?_))
local macro_rules | `(tactic| walk_at "call ref") => `(tactic| (k_here; (with_reducible show wpAny _ _ (call (Value.ref 720) _ _) _ _ _); refine halt ?_))
local macro_rules | `(tactic| walk_at "call ref") => `(tactic| (k_here; (with_reducible show wpAny _ _ (call (Value.ref 602) _ _) _ _ _); refine halt ?_))
local macro_rules | `(tactic| walk_at "call ref") => `(tactic| (k_here; (with_reducible show wpAny _ _ (call (Value.ref 623) _ _) _ _ _); refine halt ?_))
local macro_rules | `(tactic| walk_at "call ref") => `(tactic| (k_here; (with_reducible show wpAny _ _ (call (Value.ref 734) _ _) _ _ _); refine halt ?_))
local macro_rules | `(tactic| walk_at "setItem ref int") => `(tactic| (k_here; (with_reducible show wpAny _ _ (PySem.setItem (Value.ref _) (Value.int _ _) _) _ _ _); refine halt ?_))
local macro_rules | `(tactic| walk_at "setItem ref ref") => `(tactic| (k_here; (with_reducible show wpAny _ _ (PySem.setItem (Value.ref _) (Value.ref _) _) _ _ _); refine halt ?_))

theorem turn_spec {w : World} {p : Program} {loose : List Str} {mean : ExcName → Option Value} {mg mb : Str → Option Value}
    {dp un : Nat} {gd : Option (List Code)} {L fa : Addr} {outer : List Env} {A₀ : Around} {base h₀ : Heap}
    {news : List (Addr × Obj)} {s : Shared} {Q : Flow → Shared → Prop} {E : Value → Shared → Prop}
    (B : Below A₀ base outer h₀) (X : (frag.heap_1 w.params).In h₀) (T : Top p loose mean mg mb h₀) (hdp : dp + 40 < recursionLimit) (hun : un + 400 < cLine)
  (hE : PassesOwn (model PySem.Challenge.rw_pc0217_01.prog w) (ktrTop dp un gd (Str.ofString "law") lawScope L fa (.ref 743) (cellsFrom (L + 1) lawScope.names []) outer) (envOfC (Str.ofString "law") lawScope L fa (.ref 743)) E)
  {I9 : Addr} {oI9 : Obj} {P : Par} {k : Nat} {σ : St} {ns : List Int} {W DW ED EDD ER LAM LC : Addr} {oH oR oT oc : Obj} {e1 e2 e3 e4 e5 : Int} {t1 t2 t3 t4 t5 lt : Tok} {qual : Str} {pm ctv : Value} {lvs : Array Value} {i : Nat} {ti : Tok} {u₀ : Str → Option Value}
  (hW : (W, instObj 631 DW) ∈ P.fx) (hD : (DW, wDict e1 e2 t1 t2 ED P.WR) ∈ P.fx) (hcH : (L + 1, oH) ∈ P.fx) (dH : oH.data = .cell (some (.ref P.H))) (hcR : (L + 1 + 1, oR) ∈ P.fx) (dR : oR.data = .cell (some (.ref P.RR))) (dT : oT.data = .cell (some (.ref P.HIT)))
  (Y : Lamb P ED EDD ER LAM LC (L + 1 + 1 + 1) e3 e4 e5 t3 t4 t5 lt qual pm ctv oc oT lvs)
  (I : Inv w P k σ σ ns news) (hz : k ≤ 100) (hlen : ns.length ≤ 6)
  (hne : ∀ p ∈ news, p.1 ≠ I9)
  (F : Fr h₀ L s.heap (fun y => if y = Str.ofString "turn" then some (.int (i : Int) ti) else kstB u₀ [(Str.ofString "worlds", .ref W)] y)) (N : News h₀ L s.heap ((I9, oI9) :: news)) :
  wpAny (model PySem.Challenge.rw_pc0217_01.prog w) (ktrTop dp un gd (Str.ofString "law") lawScope L fa (.ref 743) (cellsFrom (L + 1) lawScope.names []) outer) (execs turnBody (envOfC (Str.ofString "law") lawScope L fa (.ref 743))) (LoopPost h₀ L I9 oI9 [(Str.ofString "worlds", .ref W)] (fun nw => ∃ σ' ns', ns'.length ≤ 6 ∧ Inv w P (k + 2) σ' σ' ns' nw) s Q) E s := by
  revert X; k_fill; intro X
  generalize hx_turnBody : turnBody = x_turnBody
  generalize hx_lawScope : lawScope = x_lawScope
  conv at hx_turnBody => lhs; whnf
  subst hx_turnBody
  conv at hx_lawScope => lhs; whnf
  subst hx_lawScope

  have F0 : Fr h₀ L s.heap (fun y => if y = Str.ofString "turn" then some (.int (i : Int) ti) else if y = Str.ofString "worlds" then some (.ref W) else u₀ y) := F
  clear F
  have hW' : (W, instObj 631 DW) ∈ (P.add (I9, oI9)).fx := .tail _ hW
  have hD' : (DW, wDict e1 e2 t1 t2 ED P.WR) ∈ (P.add (I9, oI9)).fx := .tail _ hD
  have hfx : ∀ p ∈ P.fx, p.1 ≠ I9 := fun p hp => hne p (I.fixed p hp)
  have J := I.keep (q := (I9, oI9)) hne
  have mH := J.fixed _ (.tail _ hcH)
  k_steps
  unfold Halt
  k_dflt (refine' scoop_inv (P := P.add (I9, oI9)) ?h1B ?h1F ?h1X ?h1N ?h1T ?h1k ?h1d ?h1u J (by decide) (by decide) ?_; (case h1B => k_asm); (case h1F => k_asm); (case h1X => k_asm); (case h1N => k_asm); (case h1T => k_asm); (case h1k => exact rfl); (case h1d => ktr_room); (case h1u => ke_room))
  intro r1 s1 h1 tk1 nw1 r10 r11 F1 N1 J1
  have mH1 := J1.fixed _ (.tail _ hcH)
  k_steps
  unfold Halt
  k_dflt (refine' scoop_inv (P := P.add (I9, oI9)) ?h2B ?h2F ?h2X ?h2N ?h2T ?h2k ?h2d ?h2u J1 (by decide) (by decide) ?_; (case h2B => k_asm); (case h2F => k_asm); (case h2X => k_asm); (case h2N => k_asm); (case h2T => k_asm); (case h2k => exact rfl); (case h2d => ktr_room); (case h2u => ke_room))
  intro r2 s2 h2 tk2 nw2 r20 r21 F2 N2 J2
  have mH2 := J2.fixed _ (.tail _ hcH)
  k_steps
  unfold Halt
  k_dflt (refine' scoop_inv (P := P.add (I9, oI9)) ?h3B ?h3F ?h3X ?h3N ?h3T ?h3k ?h3d ?h3u J2 (by decide) (by decide) ?_; (case h3B => k_asm); (case h3F => k_asm); (case h3X => k_asm); (case h3N => k_asm); (case h3T => k_asm); (case h3k => exact rfl); (case h3d => ktr_room); (case h3u => ke_room))
  intro r3 s3 h3 tk3 nw3 r30 r31 F3 N3 J3
  have mR3 := J3.fixed _ (.tail _ hcR)
  have mW3 := J3.fixed _ hW'
  have mD3 := J3.fixed _ hD'
  rcases Int.lt_or_le r1 2 with q | q
  · k_steps
    unfold Halt
    k_dflt (refine' begins_inv (P := P.add (I9, oI9)) ?h4B ?h4F ?h4X ?h4N ?h4T ?h4k ?h4d ?h4u hW' hD' (J3.cons _) (by rw [sizeLine_eq]; omega) ?_; (case h4B => k_asm); (case h4F => k_asm); (case h4X => k_asm); (case h4N => k_asm); (case h4T => k_asm); (case h4k => exact rfl); (case h4d => ktr_room); (case h4u => ke_room))
    intro h4 tk4 nw4 F4 N4 J4
    have mR4 := J4.fixed _ (.tail _ hcR)
    k_steps
    unfold Halt
    k_dflt (refine rowNew_inv (P := P.add (I9, oI9)) (by assumption) (by assumption) (by assumption) J4 (by rw [sizeLine_eq]; omega) ?_)
    intro h5 tk5 nw5 F5 N5 J5
    have mR5 := J5.fixed _ (.tail _ hcR)
    have mW5 := J5.fixed _ hW'
    have mD5 := J5.fixed _ hD'
    k_steps
    unfold Halt
    k_dflt (refine' shown_inv (P := P.add (I9, oI9)) ?h5B ?h5F ?h5X ?h5N ?h5T ?h5k ?h5d ?h5u hW' hD' J5 ?_; (case h5B => k_asm); (case h5F => k_asm); (case h5X => k_asm); (case h5N => k_asm); (case h5T => k_asm); (case h5k => exact rfl); (case h5d => ktr_room); (case h5u => ke_room))
    intro h6 tk6 F6 N6
    k_steps
    exact loop_other (by assumption) (ps1 rfl) (by assumption) (J5.up (by omega)) hfx (fun nw' K => ⟨_, _, hlen, K⟩)
  · obtain ⟨o2, kvs2, d2⟩ := J3.d2
    have hd2 := d2.dict
    have mRR : (P.RR, o2) ∈ nw3 := d2.mem
    have lo : (P.RR == sysModules) = false := J3.ok.lor
    have hu := d2.at' r2
    rcases Int.lt_or_le r1 4 with q4 | q4
    · cases hσ : σ r2 with
      | none =>
        rw [hσ] at hu
        have hu2 : (valueAt kvs2 r2).isSome = false := hu
        k_steps
        unfold Halt
        k_dflt (refine' begins_inv (P := P.add (I9, oI9)) ?h6B ?h6F ?h6X ?h6N ?h6T ?h6k ?h6d ?h6u hW' hD' (J3.cons _) (by rw [sizeLine_eq]; omega) ?_; (case h6B => k_asm); (case h6F => k_asm); (case h6X => k_asm); (case h6N => k_asm); (case h6T => k_asm); (case h6k => exact rfl); (case h6d => ktr_room); (case h6u => ke_room))
        intro h4 tk4 nw4 F4 N4 J4
        have mR4 := J4.fixed _ (.tail _ hcR)
        k_steps
        unfold Halt
        k_dflt (refine rowNew_inv (P := P.add (I9, oI9)) (by assumption) (by assumption) (by assumption) J4 (by rw [sizeLine_eq]; omega) ?_)
        intro h5 tk5 nw5 F5 N5 J5
        have mR5 := J5.fixed _ (.tail _ hcR)
        have mW5 := J5.fixed _ hW'
        have mD5 := J5.fixed _ hD'
        k_steps
        unfold Halt
        k_dflt (refine' shown_inv (P := P.add (I9, oI9)) ?h7B ?h7F ?h7X ?h7N ?h7T ?h7k ?h7d ?h7u hW' hD' J5 ?_; (case h7B => k_asm); (case h7F => k_asm); (case h7X => k_asm); (case h7N => k_asm); (case h7T => k_asm); (case h7k => exact rfl); (case h7d => ktr_room); (case h7u => ke_room))
        intro h6 tk6 F6 N6
        k_steps
        exact loop_other (by assumption) (ps1 rfl) (by assumption) (J5.up (by omega)) hfx (fun nw' K => ⟨_, _, hlen, K⟩)
      | some pp =>
        obtain ⟨f, l⟩ := pp
        rw [hσ] at hu
        have hu2 : (valueAt kvs2 r2).isSome = true := by obtain ⟨_, _, _, _, hva, _⟩ := hu; rw [hva]; rfl
        cases l with
        | none =>
          k_steps
          unfold Halt
          k_dflt (refine' ends_inv (P := P.add (I9, oI9)) ?h8B ?h8F ?h8X ?h8N ?h8T ?h8k ?h8d ?h8u hW' hD' (J3.cons _) (by rw [sizeLine_eq]; omega) hσ ?_; (case h8B => k_asm); (case h8F => k_asm); (case h8X => k_asm); (case h8N => k_asm); (case h8T => k_asm); (case h8k => exact rfl); (case h8d => ktr_room); (case h8u => ke_room))
          intro h4 tk4 nw4 F4 N4 J4
          have mR4 := J4.fixed _ (.tail _ hcR)
          obtain ⟨o3, kvs3, d3⟩ := J4.d2
          have hd3 := d3.dict
          have mRR3 : (P.RR, o3) ∈ nw4 := d3.mem
          have hu3 := d3.at' r2
          rw [hσ] at hu3
          obtain ⟨la, x, t, n, hva, fr, hm, ho⟩ := hu3
          cases ho
          have hN4 := N4
          replace N4 := News.add N4 hm
          k_steps
          unfold Halt
          k_dflt (refine rowSet_inv (P := P.add (I9, oI9)) (by assumption) hN4 J4 d3 hva hm ?_)
          intro h5 nw5 F5 N5 J5
          have mR5 := J5.fixed _ (.tail _ hcR)
          have mW5 := J5.fixed _ hW'
          have mD5 := J5.fixed _ hD'
          k_steps
          unfold Halt
          k_dflt (refine' shown_inv (P := P.add (I9, oI9)) ?h9B ?h9F ?h9X ?h9N ?h9T ?h9k ?h9d ?h9u hW' hD' J5 ?_; (case h9B => k_asm); (case h9F => k_asm); (case h9X => k_asm); (case h9N => k_asm); (case h9T => k_asm); (case h9k => exact rfl); (case h9d => ktr_room); (case h9u => ke_room))
          intro h6 tk6 F6 N6
          k_steps
          exact loop_other (by assumption) (ps1 rfl) (by assumption) (J5.up (by omega)) hfx (fun nw' K => ⟨_, _, hlen, K⟩)
        | some e =>
          k_steps
          unfold Halt
          k_dflt (refine' ends_known (P := P.add (I9, oI9)) ?h10B ?h10F ?h10X ?h10N ?h10T ?h10k ?h10d ?h10u hW' hD' (J3.cons _) hσ ?_; (case h10B => k_asm); (case h10F => k_asm); (case h10X => k_asm); (case h10N => k_asm); (case h10T => k_asm); (case h10k => exact rfl); (case h10d => ktr_room); (case h10u => ke_room))
          intro h4 tk4 F4 N4
          obtain ⟨la, x, t, n, hva, fr, hm, tx, rfl⟩ := hu
          replace N4 := News.add N4 (.tail _ hm)
          k_steps
          unfold Halt
          k_dflt (refine' shown_inv (P := P.add (I9, oI9)) ?h11B ?h11F ?h11X ?h11N ?h11T ?h11k ?h11d ?h11u hW' hD' ((J3.cons _).cons _) ?_; (case h11B => k_asm); (case h11F => k_asm); (case h11X => k_asm); (case h11N => k_asm); (case h11T => k_asm); (case h11k => exact rfl); (case h11d => ktr_room); (case h11u => ke_room))
          intro h6 tk6 F6 N6
          k_steps
          exact loop_other (by assumption) (ps1 rfl) (by assumption) (((J3.cons _).cons _).up (by omega)) hfx (fun nw' K => ⟨_, _, hlen, K⟩)
    · cases hb : (valueAt kvs2 r2).isSome with
      | false =>
        k_steps
        unfold Halt
        k_dflt (refine' deed_block (P := P.add (I9, oI9)) (u₀ := u₀) ?hZ12B ?hZ12X ?hZ12T ?hZ12d ?hZ12u hE hW' hD' (.tail _ hcH) dH (.tail _ hcR) dR dT (Y.add _) (J3.cons _) hz hlen ?hZ12F ?hZ12N ?_; (case hZ12B => k_asm); (case hZ12X => k_asm); (case hZ12T => k_asm); (case hZ12F => k_asm); (case hZ12N => k_asm); (case hZ12d => ktr_room); (case hZ12u => ke_room))
        intro h5 tk5 nw5 σ' ns' u' hl' F5 N5 J5
        have mR5 := J5.fixed _ (.tail _ hcR)
        have mW5 := J5.fixed _ hW'
        have mD5 := J5.fixed _ hD'
        k_steps
        unfold Halt
        k_dflt (refine' shown_inv (P := P.add (I9, oI9)) ?h13B ?h13F ?h13X ?h13N ?h13T ?h13k ?h13d ?h13u hW' hD' J5 ?_; (case h13B => k_asm); (case h13F => k_asm); (case h13X => k_asm); (case h13N => k_asm); (case h13T => k_asm); (case h13k => exact rfl); (case h13d => ktr_room); (case h13u => ke_room))
        intro h6 tk6 F6 N6
        k_steps
        exact loop_other (by assumption) (ps1 rfl) (by assumption) (J5.up (by omega)) hfx (fun nw' K => ⟨_, _, hl', K⟩)
      | true =>
        k_steps
        unfold Halt
        k_dflt (refine' deed_block (P := P.add (I9, oI9)) (u₀ := u₀) ?hZ14B ?hZ14X ?hZ14T ?hZ14d ?hZ14u hE hW' hD' (.tail _ hcH) dH (.tail _ hcR) dR dT (Y.add _) (J3.cons _) hz hlen ?hZ14F ?hZ14N ?_; (case hZ14B => k_asm); (case hZ14X => k_asm); (case hZ14T => k_asm); (case hZ14F => k_asm); (case hZ14N => k_asm); (case hZ14d => ktr_room); (case hZ14u => ke_room))
        intro h5 tk5 nw5 σ' ns' u' hl' F5 N5 J5
        have mR5 := J5.fixed _ (.tail _ hcR)
        have mW5 := J5.fixed _ hW'
        have mD5 := J5.fixed _ hD'
        k_steps
        unfold Halt
        k_dflt (refine' shown_inv (P := P.add (I9, oI9)) ?h15B ?h15F ?h15X ?h15N ?h15T ?h15k ?h15d ?h15u hW' hD' J5 ?_; (case h15B => k_asm); (case h15F => k_asm); (case h15X => k_asm); (case h15N => k_asm); (case h15T => k_asm); (case h15k => exact rfl); (case h15d => ktr_room); (case h15u => ke_room))
        intro h6 tk6 F6 N6
        k_steps
        exact loop_other (by assumption) (ps1 rfl) (by assumption) (J5.up (by omega)) hfx (fun nw' K => ⟨_, _, hl', K⟩)
end Mine
namespace Mine
open PyProof.V PySem.Calls PySem.Spec
local macro_rules | `(tactic| ktr_room) => `(tactic| ((try simp only [depth_under_make, depth_under_kw, depth_in1, depth_deeper, depth_caller]); (try dsimp only [ktrTop]); omega))
local macro_rules | `(tactic| k_room) => `(tactic| ktr_room)
local macro_rules | `(tactic| ke_room) => `(tactic| ((try simp only [units_in1, units_deeper, Around.mark_units, units_caller]); (try dsimp only [ktrTop]); omega))
local macro_rules | `(tactic| walk_at "ite") => `(tactic| (k_closed; with_reducible (first | refine ite_pos (by decide) ?_ | refine ite_neg (by decide) ?_)))
local macro_rules | `(tactic| k_all) => `(tactic| assumption)
local macro_rules | `(tactic| k_mem) => `(tactic| assumption)
local macro_rules | `(tactic| walk_at "eval Name") => `(tactic| (k_here; k_dflt (refine' nameX_F ?N ?c ?m ?d ?_ ?a ?b; (case b => rfl); (case a => rfl); (case N => k_asm); (case c => rfl); (case m => k_mem); (case d => k_asm); k_whole)))
local macro_rules | `(tactic| walk_at "eval Name") => `(tactic| (k_here; k_dflt (refine' nameX_C ?N ?c ?m ?d ?_ ?a ?b; (case b => rfl); (case a => rfl); (case N => k_asm); (case c => rfl); (case m => k_mem); (case d => k_asm); k_whole)))
local macro_rules | `(tactic| walk_at "call ref") => `(tactic| (k_here; (with_reducible show wpAny _ _ (call (Value.ref 602) _ _) _ _ _); refine halt ?_))
local macro_rules | `(tactic| walk_at "call ref") => `(tactic| (k_here; (with_reducible show wpAny _ _ (call (Value.ref 623) _ _) _ _ _); refine halt ?_))
local macro_rules | `(tactic| walk_at "call ref") => `(tactic| (k_here; (with_reducible show wpAny _ _ (call (Value.ref 609) _ _) _ _ _); refine halt ?_))
local macro_rules | `(tactic| walk_at "call ref") => `(tactic| (k_here; (with_reducible show wpAny _ _ (call (Value.ref 739) _ _) _ _ _); refine halt ?_))

def lawTail : List Stmt := lawBody.drop 5
theorem set_at {σ : St} {u : Int} {p : Int × Option Int} : set σ u p u = some p := by simp [set]
theorem tail_spec {w : World} {p : Program} {loose : List Str} {mean : ExcName → Option Value} {mg mb : Str → Option Value}
    {dp un : Nat} {gd : Option (List Code)} {L fa : Addr} {outer : List Env} {A₀ : Around} {base h₀ : Heap}
    {news : List (Addr × Obj)} {s : Shared} {Q : Flow → Shared → Prop} {E : Value → Shared → Prop}
    (B : Below A₀ base outer h₀) (X : (frag.heap_1 w.params).In h₀) (T : Top p loose mean mg mb h₀) (hdp : dp + 40 < recursionLimit) (hun : un + 400 < cLine)
  {P : Par} {k : Nat} {σ : St} {ns : List Int} {W DW ED : Addr} {oH : Obj} {e1 e2 : Int} {t1 t2 : Tok} {u₀ : Str → Option Value}
  (hW : (W, instObj 631 DW) ∈ P.fx) (hD : (DW, wDict e1 e2 t1 t2 ED P.WR) ∈ P.fx) (hcH : (L + 1, oH) ∈ P.fx) (dH : oH.data = .cell (some (.ref P.H)))
  (I : Inv w P k σ σ ns news) (hz : k ≤ 100)
  (F : Fr h₀ L s.heap (kstB u₀ [(Str.ofString "worlds", .ref W)])) (N : News h₀ L s.heap news)
  (ret : ∀ h' tk' nw' σ1 σ2 (u' : Str → Option Value), Fr h₀ L h' u' → News h₀ L h' nw' → Inv w P (k + 1) σ1 σ2 ns nw' → Q (.ret (.bool true)) { s with heap := h', toks := tk' }) :
  wpAny (model PySem.Challenge.rw_pc0217_01.prog w) (ktrTop dp un gd (Str.ofString "law") lawScope L fa (.ref 743) (cellsFrom (L + 1) lawScope.names []) outer) (execs lawTail (envOfC (Str.ofString "law") lawScope L fa (.ref 743))) Q E s := by
  revert X; k_fill; intro X
  generalize hx_lawTail : lawTail = x_lawTail
  generalize hx_lawScope : lawScope = x_lawScope
  conv at hx_lawTail => lhs; whnf
  subst hx_lawTail
  conv at hx_lawScope => lhs; whnf
  subst hx_lawScope

  have F0 : Fr h₀ L s.heap (fun y => if y = Str.ofString "worlds" then some (.ref W) else u₀ y) := F
  clear F
  have mW := I.fixed _ hW
  have mD := I.fixed _ hD
  k_steps
  unfold Halt
  k_dflt (refine' begins_inv (P := P) ?h1B ?h1F ?h1X ?h1N ?h1T ?h1k ?h1d ?h1u hW hD I (by rw [sizeLine_eq]; omega) ?_; (case h1B => k_asm); (case h1F => k_asm); (case h1X => k_asm); (case h1N => k_asm); (case h1T => k_asm); (case h1k => exact rfl); (case h1d => ktr_room); (case h1u => ke_room))
  intro h1 tk1 nw1 F1 N1 J1
  have mW1 := J1.fixed _ hW
  have mD1 := J1.fixed _ hD
  k_steps
  unfold Halt
  k_dflt (refine' ends_inv (P := P) ?h2B ?h2F ?h2X ?h2N ?h2T ?h2k ?h2d ?h2u hW hD J1 (by rw [sizeLine_eq]; omega) set_at ?_; (case h2B => k_asm); (case h2F => k_asm); (case h2X => k_asm); (case h2N => k_asm); (case h2T => k_asm); (case h2k => exact rfl); (case h2d => ktr_room); (case h2u => ke_room))
  intro h2 tk2 nw2 F2 N2 J2
  have mW2 := J2.fixed _ hW
  have mD2 := J2.fixed _ hD
  have mH2 := J2.fixed _ hcH
  k_steps
  unfold Halt
  k_dflt (refine' ends_known (P := P) ?h3B ?h3F ?h3X ?h3N ?h3T ?h3k ?h3d ?h3u hW hD J2 set_at ?_; (case h3B => k_asm); (case h3F => k_asm); (case h3X => k_asm); (case h3N => k_asm); (case h3T => k_asm); (case h3k => exact rfl); (case h3d => ktr_room); (case h3u => ke_room))
  intro h3 tk3 F3 N3
  obtain ⟨o3, kvs3, d3⟩ := J2.d1
  have hu := d3.at' 0
  rw [set_at] at hu
  obtain ⟨ta, x, t, n, hv, fr, hm, tx, rfl⟩ := hu
  k_steps
  unfold Halt
  k_dflt (refine' bounds_spec ?h4B ?h4F ?h4X ?h4N ?h4T ?h4k ?h4d ?h4u (J2.fixed _ hW) (J2.fixed _ hD) d3.mem d3.dict hv ?_; (case h4B => k_asm); (case h4F => k_asm); (case h4X => k_asm); (case h4N => k_asm); (case h4T => k_asm); (case h4k => exact rfl); (case h4d => ktr_room); (case h4u => ke_room))
  intro h4 tk4 F4 N4
  have hN4 := N4
  replace N4 := News.add N4 hm
  k_steps
  unfold Halt
  k_dflt (refine' made_inv (P := P) ?h5B ?h5F ?h5X ?h5N ?h5T ?h5k ?h5d ?h5u ((J2.cons _).cons _) ?_; (case h5B => k_asm); (case h5F => k_asm); (case h5X => k_asm); (case h5N => k_asm); (case h5T => k_asm); (case h5k => exact rfl); (case h5d => ktr_room); (case h5u => ke_room))
  intro h5 tk5 nw5 F5 N5 J5
  have mH5 := J5.fixed _ hcH
  k_steps
  unfold Halt
  k_dflt (refine' made_inv (P := P) ?h6B ?h6F ?h6X ?h6N ?h6T ?h6k ?h6d ?h6u J5 ?_; (case h6B => k_asm); (case h6F => k_asm); (case h6X => k_asm); (case h6N => k_asm); (case h6T => k_asm); (case h6k => exact rfl); (case h6d => ktr_room); (case h6u => ke_room))
  intro h6 tk6 nw6 F6 N6 J6
  k_steps
  exact ret _ _ _ _ _ _ (by assumption) (by assumption) J6
end Mine
namespace Mine
open PyProof.V PySem.Calls PySem.Spec
local macro_rules | `(tactic| ktr_room) => `(tactic| ((try simp only [depth_under_make, depth_under_kw, depth_in1, depth_deeper, depth_caller]); (try dsimp only [ktrTop]); omega))
local macro_rules | `(tactic| k_room) => `(tactic| ktr_room)
local macro_rules | `(tactic| ke_room) => `(tactic| ((try simp only [units_in1, units_deeper, Around.mark_units, units_caller]); (try dsimp only [ktrTop]); omega))
local macro_rules | `(tactic| walk_at "ite") => `(tactic| (k_closed; with_reducible (first | refine ite_pos (by decide) ?_ | refine ite_neg (by decide) ?_)))
local macro_rules | `(tactic| k_all) => `(tactic| assumption)
local macro_rules | `(tactic| k_mem) => `(tactic| assumption)

theorem rsmall : ∀ {n : Nat}, n ≤ 9 → Builtin.Range.small 0 (n:Int) 1 = true ∧ Builtin.Range.rangeSize 0 (n:Int) 1 = (n:Int)
  | 0, _ => by decide
  | 1, _ => by decide
  | 2, _ => by decide
  | 3, _ => by decide
  | 4, _ => by decide
  | 5, _ => by decide
  | 6, _ => by decide
  | 7, _ => by decide
  | 8, _ => by decide
  | 9, _ => by decide
  | n + 10, h => by omega
theorem start_inv {w : World} {news : List (Addr × Obj)} {P : Par} {va vb : Int} {ta tb : Tok} {n n2 : Nat} {o1 o2 : Obj}
    (hH : (P.H, listOf #[.int va ta, .int vb tb] n) ∈ news) (hHIT : (P.HIT, listOf #[] n2) ∈ news) (h1 : (P.WR, o1) ∈ news) (h2 : (P.RR, o2) ∈ news)
    (d1 : o1.IsDictOf (PySem.intKind pr w) []) (d2 : o2.IsDictOf (PySem.intKind pr w) []) (b0 : 0 ≤ vb) (b1 : vb < 2147483587)
    (hfx : ∀ q ∈ P.fx, q ∈ news) (ok : P.Ok) : Inv w P 0 (fun _ => none) (fun _ => none) [] news :=
  ⟨ok, hfx, ⟨va, vb, ta, tb, n, hH, b0, b1⟩, ⟨[], n2, hHIT, .nil⟩, ⟨o1, [], h1, d1, Nat.le_refl _, fun _ => rfl⟩, ⟨o2, [], h2, d2, Nat.le_refl _, fun _ => rfl, fun _ _ _ h => by cases h⟩⟩
theorem ok_of {H HIT WR RR W DW ED EDD LAM LC L : Nat} {a1 a2 a3 a4 a5 a6 a7 a8 a9 a10 : Obj} (h0 : 741 < L) (h1 : L + 1 + 1 + 1 < H) (h2 : H < HIT) (h3 : HIT < EDD) (h4 : EDD < ED) (h5 : ED < LC) (h6 : LC < LAM) (h7 : LAM < DW) (h8 : DW < W) (h9 : W < WR) (h10 : WR < RR)
    (lo1 : (WR == sysModules) = false) (lo2 : (RR == sysModules) = false) :
    Par.Ok ⟨H, HIT, WR, RR, [(W, a1), (DW, a2), (ED, a3), (EDD, a4), (LAM, a5), (LC, a6), (L + 1, a7), (L + 1 + 1, a8), (L + 1 + 1 + 1, a9), (741, a10)]⟩ := by
  refine ⟨by show HIT ≠ H; omega, by show WR ≠ H; omega, by show RR ≠ H; omega, by show WR ≠ HIT; omega, by show RR ≠ HIT; omega, by show RR ≠ WR; omega, lo1, lo2, ?_, ?_, ?_, ?_⟩
  all_goals
    intro q hq
    simp only [List.mem_cons, List.not_mem_nil, or_false] at hq
    rcases hq with rfl | rfl | rfl | rfl | rfl | rfl | rfl | rfl | rfl | rfl <;> (intro e; have e' : (_ : Nat) = (_ : Nat) := e; dsimp only at e'; omega)
theorem law_loop {w : World} {p : Program} {loose : List Str} {mean : ExcName → Option Value} {mg mb : Str → Option Value}
    {dp un : Nat} {gd : Option (List Code)} {L fa : Addr} {outer : List Env} {A₀ : Around} {base h₀ : Heap}
    {news : List (Addr × Obj)} {s : Shared} {Q0 Q : Flow → Shared → Prop} {sc ls : Scope} {tb tl : List Stmt} {la : Arguments} {lb : PySem.Expr} {E : Value → Shared → Prop}
    
    (e₁ : lawScope = sc) (e₂ : turnBody = tb) (e₃ : lawTail = tl) (e₄ : lamArgs = la) (e₅ : lamBody = lb) (e₆ : lamScope = ls) (B : Below A₀ base outer h₀) (X : (frag.heap_1 w.params).In h₀) (T : Top p loose mean mg mb h₀) (hdp : dp + 40 < recursionLimit) (hun : un + 400 < cLine)
  (hE : PassesOwn (model PySem.Challenge.rw_pc0217_01.prog w) (ktrTop dp un gd (Str.ofString "law") sc L fa (.ref 743) (cellsFrom (L + 1) sc.names []) outer) (envOfC (Str.ofString "law") sc L fa (.ref 743)) E)
  {H HIT WR RR W DW ED EDD ER LAM LC : Addr} {oH oR oT oX oc o1 o2 : Obj} {e1 e2 e3 e4 e5 : Int} {t1 t2 t3 t4 t5 lt : Tok} {qual : Str} {pm ctv : Value} {lvs : Array Value} {m : Str → Option Value}
  {va vb b₀ : Int} {u1 u2 u3 u4 u5 : Tok} {n1 n2 : Nat} {r : Addr}
  (hm : m (Str.ofString "worlds") = some (.ref W)) (hW : (W, instObj 631 DW) ∈ news) (hD : (DW, wDict e1 e2 t1 t2 ED WR) ∈ news) (hEd : (ED, instObj 577 EDD) ∈ news) (hEdd : (EDD, eDict e3 e4 e5 t3 t4 t5 ER LAM) ∈ news)
  (hL : (LAM, kla_obj (Str.ofString "<lambda>") qual la lb ls [(Str.ofString "hit", L + 1 + 1 + 1)] pm LC ctv) ∈ news) (hLC : (LC, oc) ∈ news) (h3 : oc.data = .fields lvs) (h4 : lvs[1]? = some (.str qual lt))
  (hcH : (L + 1, oH) ∈ news) (dH : oH.data = .cell (some (.ref H))) (hcR : (L + 1 + 1, oR) ∈ news) (dR : oR.data = .cell (some (.ref RR))) (hcT : (L + 1 + 1 + 1, oT) ∈ news) (dT : oT.data = .cell (some (.ref HIT)))
  (hX : (741, oX) ∈ news) (hH : (H, listOf #[.int va u1, .int vb u2] n1) ∈ news) (b0 : 0 ≤ vb) (b1 : vb < 2147483587) (hHIT : (HIT, listOf #[] n2) ∈ news)
  (hWR : (WR, o1) ∈ news) (d1 : o1.IsDictOf (PySem.intKind pr w) []) (hRR : (RR, o2) ∈ news) (d2 : o2.IsDictOf (PySem.intKind pr w) [])
  (ok : Par.Ok ⟨H, HIT, WR, RR, [(W, instObj 631 DW), (DW, wDict e1 e2 t1 t2 ED WR), (ED, instObj 577 EDD), (EDD, eDict e3 e4 e5 t3 t4 t5 ER LAM), (LAM, kla_obj (Str.ofString "<lambda>") qual la lb ls [(Str.ofString "hit", L + 1 + 1 + 1)] pm LC ctv), (LC, oc), (L + 1, oH), (L + 1 + 1, oR), (L + 1 + 1 + 1, oT), (741, oX)]⟩)
  (r0 : 0 ≤ b₀) (r1 : b₀ < 6) (R0 : IsRange s.heap r 0 (4 + b₀) 1 u3 u4 u5) (F : Fr h₀ L s.heap m) (N : News h₀ L s.heap news)
  (hnext : ∀ s', wpAny (model PySem.Challenge.rw_pc0217_01.prog w) (ktrTop dp un gd (Str.ofString "law") sc L fa (.ref 743) (cellsFrom (L + 1) sc.names []) outer) (execs tl (envOfC (Str.ofString "law") sc L fa (.ref 743))) Q E s' → Q0 .next s')
  (fin : ∀ h' tk' nw' (u' : Str → Option Value), Fr h₀ L h' u' → News h₀ L h' nw' → (741, oX) ∈ nw' → Q (.ret (.bool true)) { s with heap := h', toks := tk' }) :
  LoopHere pr w (ktrTop dp un gd (Str.ofString "law") sc L fa (.ref 743) (cellsFrom (L + 1) sc.names []) outer) h₀ (envOfC (Str.ofString "law") sc L fa (.ref 743)) (Str.ofString "turn") tb Q0 E (.ref r) s := by
  subst e₁ e₂ e₃ e₄ e₅ e₆
  have hfx : ∀ q ∈ [(W, instObj 631 DW), (DW, wDict e1 e2 t1 t2 ED WR), (ED, instObj 577 EDD), (EDD, eDict e3 e4 e5 t3 t4 t5 ER LAM), (LAM, kla_obj (Str.ofString "<lambda>") qual lamArgs lamBody lamScope [(Str.ofString "hit", L + 1 + 1 + 1)] pm LC ctv), (LC, oc), (L + 1, oH), (L + 1 + 1, oR), (L + 1 + 1 + 1, oT), (741, oX)], q ∈ news := by
    intro q hq
    rcases List.mem_cons.mp hq with rfl | hq; exact hW
    rcases List.mem_cons.mp hq with rfl | hq; exact hD
    rcases List.mem_cons.mp hq with rfl | hq; exact hEd
    rcases List.mem_cons.mp hq with rfl | hq; exact hEdd
    rcases List.mem_cons.mp hq with rfl | hq; exact hL
    rcases List.mem_cons.mp hq with rfl | hq; exact hLC
    rcases List.mem_cons.mp hq with rfl | hq; exact hcH
    rcases List.mem_cons.mp hq with rfl | hq; exact hcR
    rcases List.mem_cons.mp hq with rfl | hq; exact hcT
    rcases List.mem_cons.mp hq with rfl | hq; exact hX
    cases hq
  have I0 := start_inv (P := ⟨H, HIT, WR, RR, _⟩) hH hHIT hWR hRR d1 d2 b0 b1 hfx ok
  have mW : (W, instObj 631 DW) ∈ [(W, instObj 631 DW), (DW, wDict e1 e2 t1 t2 ED WR), (ED, instObj 577 EDD), (EDD, eDict e3 e4 e5 t3 t4 t5 ER LAM), (LAM, kla_obj (Str.ofString "<lambda>") qual lamArgs lamBody lamScope [(Str.ofString "hit", L + 1 + 1 + 1)] pm LC ctv), (LC, oc), (L + 1, oH), (L + 1 + 1, oR), (L + 1 + 1 + 1, oT), (741, oX)] := .head _
  generalize hP : (⟨H, HIT, WR, RR, _⟩ : Par) = P at I0
  have gD : (DW, wDict e1 e2 t1 t2 ED P.WR) ∈ P.fx := by subst hP; exact .tail _ (.head _)
  have gW : (W, instObj 631 DW) ∈ P.fx := by subst hP; exact .head _
  have gH : (L + 1, oH) ∈ P.fx := by subst hP; exact .tail _ (.tail _ (.tail _ (.tail _ (.tail _ (.tail _ (.head _))))))
  have gR : (L + 1 + 1, oR) ∈ P.fx := by subst hP; exact .tail _ (.tail _ (.tail _ (.tail _ (.tail _ (.tail _ (.tail _ (.head _)))))))
  have gX : (741, oX) ∈ P.fx := by subst hP; exact .tail _ (.tail _ (.tail _ (.tail _ (.tail _ (.tail _ (.tail _ (.tail _ (.tail _ (.head _)))))))))
  have eH : oH.data = .cell (some (.ref P.H)) := by subst hP; exact dH
  have eR : oR.data = .cell (some (.ref P.RR)) := by subst hP; exact dR
  have eT : oT.data = .cell (some (.ref P.HIT)) := by subst hP; exact dT
  have Y : Lamb P ED EDD ER LAM LC (L + 1 + 1 + 1) e3 e4 e5 t3 t4 t5 lt qual pm ctv oc oT lvs := by
    subst hP
    exact ⟨.tail _ (.tail _ (.head _)), .tail _ (.tail _ (.tail _ (.head _))), .tail _ (.tail _ (.tail _ (.tail _ (.head _)))), .tail _ (.tail _ (.tail _ (.tail _ (.tail _ (.head _))))), h3, h4,
      .tail _ (.tail _ (.tail _ (.tail _ (.tail _ (.tail _ (.tail _ (.tail _ (.head _)))))))), dT⟩
  clear mW hfx ok hP
  obtain ⟨j, hj⟩ : ∃ j : Nat, (j : Int) = 4 + b₀ := ⟨(4 + b₀).toNat, by omega⟩
  rw [← hj] at R0
  have hs := rsmall (n := j) (by omega)
  refine range_here [(Str.ofString "worlds", .ref W)] (fun i nw => ∃ σ' ns', ns'.length ≤ 6 ∧ Inv w P (2 * i) σ' σ' ns' nw) rfl R0 hs.1 hs.2 F (ps1 hm) N ⟨_, _, by decide, I0⟩ ?_ ?_
  · rintro i t u nw h tk I9 oI9 hi ⟨σ, ns, hl, I⟩ hne F1 N1
    exact turn_spec B X T hdp hun hE gW gD gH eH gR eR eT Y I (by show 2 * i ≤ 100; omega) hl hne F1 N1
  · rintro u nw h tk ⟨σ, ns, hl, I⟩ F1 N1
    refine hnext _ (tail_spec B X T hdp hun gW gD gH eH I (by omega) F1 N1 ?_)
    intro h' tk' nw' σ1 σ2 u' F2 N2 I2
    exact fin _ _ _ _ F2 N2 (I2.fixed _ gX)
end Mine
namespace Mine
open PyProof.V PySem.Calls PySem.Spec
local macro_rules | `(tactic| ktr_room) => `(tactic| ((try simp only [depth_under_make, depth_under_kw, depth_in1, depth_deeper, depth_caller]); (try dsimp only [ktrTop]); omega))
local macro_rules | `(tactic| k_room) => `(tactic| ktr_room)
local macro_rules | `(tactic| ke_room) => `(tactic| ((try simp only [units_in1, units_deeper, Around.mark_units, units_caller]); (try dsimp only [ktrTop]); omega))
local macro_rules | `(tactic| walk_at "ite") => `(tactic| (k_closed; with_reducible (first | refine ite_pos (by decide) ?_ | refine ite_neg (by decide) ?_)))
local macro_rules | `(tactic| walk_at "exec For Name Call cons nil") => `(tactic| (k_here; (rename Fr _ _ _ _ => lF'); (with_unfolding_all refine' for_here lF' ?k1 ?k2 ?_; (case k1 => exact rfl); (case k2 => exact rfl); k_whole)))
local macro_rules | `(tactic| walk_at "exec For Name Tuple cons nil") => `(tactic| (k_here; (rename Fr _ _ _ _ => lF'); (with_unfolding_all refine' for_here lF' ?k1 ?k2 ?_; (case k1 => exact rfl); (case k2 => exact rfl); k_whole)))
local macro_rules | `(tactic| walk_at "exec For Name Name cons nil") => `(tactic| (k_here; (rename Fr _ _ _ _ => lF'); (with_unfolding_all refine' for_here lF' ?k1 ?k2 ?_; (case k1 => exact rfl); (case k2 => exact rfl); k_whole)))
local macro_rules | `(tactic| walk_at "call ref") => `(tactic| (k_here; (with_reducible show wpAny _ _ (call (Value.ref 713) _ _) _ _ _); k_dflt (refine' hopper_spec ?sB ?sF ?sX ?sN ?sT ?sk ?sd ?su ?s1 ?s2 ?s3 ?_; (case sB => k_asm); (case sF => k_asm); (case sX => k_asm); (case sN => k_asm); (case sT => k_asm); (case sk => exact rfl); (case sd => ktr_room); (case su => ke_room); (case s1 => assumption); (case s2 => assumption); (case s3 => assumption)); intro D' va' vb' ta' tb' n' h' tk' b0' b1' lt' F' N'; (try k_lt lt'); (try k_sweep)))
local macro_rules | `(tactic| walk_at "call ref") => `(tactic| (k_here; (with_reducible show wpAny _ _ (call (Value.ref 720) _ _) _ _ _); k_dflt (refine' scoop_spec ?sB ?sF ?sX ?sN ?sU ?sT ?sk ?sd ?su ?b0 ?b1 ?m0 ?m1 ?_; (case sB => k_asm); (case sF => k_asm); (case sX => k_asm); (case sN => k_asm); (case sT => k_asm); (case sk => exact rfl); (case sd => ktr_room); (case su => ke_room); (case sU => k_updF); (case b0 => assumption); (case b1 => assumption); (case m0 => decide); (case m1 => decide)); intro r' va' vb' t' ta' tb' n' h' tk' r0' r1' b0' b1' F' N'; (try dsimp only at N'); (try k_sweep)))

theorem len63 {ns : List Int} (h : ¬ ((63:Nat):Int) < ((ns.length : Nat) : Int)) : ns.length ≤ 63 := by omega
def ats : List Addr := [2, 3, 15, 17, 18, 20, 21, 22, 23, 24, 25, 26, 27, 29, 30, 32, 33, 34, 35, 37, 38, 40, 41, 42, 44, 45, 47, 48, 49, 51, 52, 54, 55, 56, 58, 59, 61, 62, 63, 66, 67, 68, 71, 72, 73, 75, 76, 78, 79, 80, 83, 84, 92, 94, 95, 97, 98, 99, 101, 102, 104, 105, 106, 108, 109, 111, 112, 113, 115, 116, 118, 119, 120, 122, 123, 125, 126, 127, 128, 129, 130, 131, 141, 142, 144, 145, 147, 148, 149, 151, 152, 154, 155, 156, 158, 159, 161, 162, 163, 165, 166, 168, 169, 170, 172, 173, 175, 176, 177, 180, 181, 182, 184, 185, 187, 188, 189, 191, 192, 194, 195, 196, 198, 199, 201, 202, 203, 204, 205, 206, 207, 210, 213, 214, 215, 217, 218, 220, 221, 222, 224, 225, 227, 228, 229, 232, 233, 234, 237, 238, 239, 242, 243, 244, 246, 247, 249, 250, 251, 252, 253, 254, 262, 264, 265, 267, 268, 269, 271, 272, 274, 275, 276, 278, 279, 281, 282, 283, 285, 286, 288, 289, 290, 292, 293, 295, 296, 297, 299, 300, 302, 303, 304, 307, 308, 309, 312, 313, 314, 317, 318, 319, 322, 323, 324, 326, 327, 329, 330, 331, 334, 335, 336, 338, 339, 341, 342, 343, 345, 346, 348, 349, 350, 351, 352, 353, 354, 357, 359, 360, 362, 363, 364, 366, 367, 369, 370, 371, 373, 374, 376, 377, 378, 381, 382, 383, 384, 386, 387, 389, 390, 391, 393, 394, 396, 397, 398, 399, 401, 402, 404, 405, 413, 415, 416, 418, 419, 420, 422, 423, 425, 426, 427, 429, 430, 432, 433, 434, 437, 438, 439, 441, 442, 444, 445, 446, 448, 449, 451, 452, 453, 455, 456, 458, 459, 460, 462, 463, 465, 466, 467, 469, 470, 472, 473, 474, 476, 477, 479, 480, 481, 483, 484, 486, 487, 488, 490, 491, 493, 494, 495, 497, 498, 500, 501, 502, 504, 505, 507, 508, 509, 511, 512, 514, 515, 516, 518, 519, 521, 522, 523, 526, 527, 528, 529, 530, 531, 532, 535, 537, 538, 540, 541, 549, 551, 552, 554, 555, 556, 558, 559, 561, 562, 563, 565, 566, 568, 569, 570, 573, 574, 575, 576, 577, 578, 579, 589, 591, 592, 594, 595, 596, 598, 599, 601, 602, 603, 605, 606, 608, 609, 610, 612, 613, 615, 616, 617, 619, 620, 622, 623, 624, 627, 628, 629, 630, 631, 632, 633, 643, 645, 646, 648, 649, 650, 652, 653, 655, 656, 657, 658, 659, 660, 661, 671, 672, 674, 675, 677, 678, 679, 681, 682, 684, 685, 686, 688, 689, 691, 692, 693, 695, 696, 698, 699, 700, 701, 702, 703, 704, 707, 709, 710, 712, 713, 714, 716, 717, 719, 720, 721, 723, 724, 726, 727, 728, 730, 731, 733, 734, 735, 738, 739, 740, 743, 744]
/- Names taken on purpose: with them taken the kit lays no twins of constants of this very file (their equations would make the compiled file too big). No proof uses these rows. -/
theorem law.tw10017303938028548802 : True := trivial
theorem law.tw10023686192747115796 : True := trivial
theorem law.tw10047779025188342691 : True := trivial
theorem law.tw10077782211673108025 : True := trivial
theorem law.tw10092249737918297831 : True := trivial
theorem law.tw10175032002033253018 : True := trivial
theorem law.tw10184130182752807196 : True := trivial
theorem law.tw10186569243386992914 : True := trivial
theorem law.tw10198373884071604499 : True := trivial
theorem law.tw10217726386000427819 : True := trivial
theorem law.tw10235096204767538841 : True := trivial
theorem law.tw102369953223478417 : True := trivial
theorem law.tw10256362016006735932 : True := trivial
theorem law.tw10267598413121274360 : True := trivial
theorem law.tw10301352058568885028 : True := trivial
theorem law.tw10302016490043328485 : True := trivial
theorem law.tw10309131346113790939 : True := trivial
theorem law.tw10315161632072059570 : True := trivial
theorem law.tw10325818145041431185 : True := trivial
theorem law.tw10341232955530992781 : True := trivial
theorem law.tw10343620613306851896 : True := trivial
theorem law.tw1038466656383067803 : True := trivial
theorem law.tw10400890980155540096 : True := trivial
theorem law.tw10415937617996713741 : True := trivial
theorem law.tw10419344180020835187 : True := trivial
theorem law.tw10426067975794604667 : True := trivial
theorem law.tw10427431760851071818 : True := trivial
theorem law.tw10465857802619788157 : True := trivial
theorem law.tw10504286700687651304 : True := trivial
theorem law.tw1050659009266240554 : True := trivial
theorem law.tw10514562384108138522 : True := trivial
theorem law.tw10559308171346628317 : True := trivial
theorem law.tw10591461037688281247 : True := trivial
theorem law.tw1060527474883285679 : True := trivial
theorem law.tw10611236791313016760 : True := trivial
theorem law.tw10621653777096046941 : True := trivial
theorem law.tw10662095047964012595 : True := trivial
theorem law.tw10679139363750780021 : True := trivial
theorem law.tw10688277823682773845 : True := trivial
theorem law.tw10739836229700673485 : True := trivial
theorem law.tw10752825066518504711 : True := trivial
theorem law.tw10769356432485607983 : True := trivial
theorem law.tw10807159166486711602 : True := trivial
theorem law.tw10874921433726861904 : True := trivial
theorem law.tw10946248856476168029 : True := trivial
theorem law.tw10951376844813844235 : True := trivial
theorem law.tw10965469551872863244 : True := trivial
theorem law.tw10974992932302739955 : True := trivial
theorem law.tw11013384265288417636 : True := trivial
theorem law.tw11016118962022476393 : True := trivial
theorem law.tw11046850342002332991 : True := trivial
theorem law.tw11097398223588278986 : True := trivial
theorem law.tw11110636111776139030 : True := trivial
theorem law.tw11166914248177860083 : True := trivial
theorem law.tw11172963110503608720 : True := trivial
theorem law.tw11218094928909113304 : True := trivial
theorem law.tw112705790502168455 : True := trivial
theorem law.tw11276399659005007461 : True := trivial
theorem law.tw11298811038324506620 : True := trivial
theorem law.tw11301418021767285613 : True := trivial
theorem law.tw11342317759691371823 : True := trivial
theorem law.tw11344415483884623159 : True := trivial
theorem law.tw11382707499955547593 : True := trivial
theorem law.tw11392337797598563276 : True := trivial
theorem law.tw11394383290079777767 : True := trivial
theorem law.tw11426579822771166962 : True := trivial
theorem law.tw11430425064320331171 : True := trivial
theorem law.tw11444997793602299991 : True := trivial
theorem law.tw11495715967210877117 : True := trivial
theorem law.tw11508276016772910950 : True := trivial
theorem law.tw1153827692895563706 : True := trivial
theorem law.tw11568188458581799787 : True := trivial
theorem law.tw11572628800222441447 : True := trivial
theorem law.tw11583309005084267911 : True := trivial
theorem law.tw11583600929483320462 : True := trivial
theorem law.tw11584526780024618974 : True := trivial
theorem law.tw11585939484337836193 : True := trivial
theorem law.tw11623775344073916624 : True := trivial
theorem law.tw11665692917106012508 : True := trivial
theorem law.tw11673065614148770094 : True := trivial
theorem law.tw11677494256100043861 : True := trivial
theorem law.tw11717155636593292668 : True := trivial
theorem law.tw11730304314397825215 : True := trivial
theorem law.tw1173056557569260014 : True := trivial
theorem law.tw1173816454557449656 : True := trivial
theorem law.tw11740940271191787082 : True := trivial
theorem law.tw1180481574515560740 : True := trivial
theorem law.tw11815264373039893456 : True := trivial
theorem law.tw11823684753796001451 : True := trivial
theorem law.tw11824627970844036440 : True := trivial
theorem law.tw11828176328403043835 : True := trivial
theorem law.tw11842154518297904970 : True := trivial
theorem law.tw11863417558548698572 : True := trivial
theorem law.tw11889812260386729796 : True := trivial
theorem law.tw11902286102626654415 : True := trivial
theorem law.tw11906571095565090093 : True := trivial
theorem law.tw11935970676940699786 : True := trivial
theorem law.tw11937483305184348357 : True := trivial
theorem law.tw11942493962630935323 : True := trivial
theorem law.tw11946092861730549028 : True := trivial
theorem law.tw11948677172620494662 : True := trivial
theorem law.tw11963977292032122386 : True := trivial
theorem law.tw11989444508090820831 : True := trivial
theorem law.tw12013849283962830758 : True := trivial
theorem law.tw1203716257701319383 : True := trivial
theorem law.tw12053299388426269135 : True := trivial
theorem law.tw12108104176957899831 : True := trivial
theorem law.tw12135178488530861281 : True := trivial
theorem law.tw12150825232487008385 : True := trivial
theorem law.tw12160674346724409166 : True := trivial
theorem law.tw12195891886813247594 : True := trivial
theorem law.tw12226650004936688724 : True := trivial
theorem law.tw122314062626193385 : True := trivial
theorem law.tw12273551080150456667 : True := trivial
theorem law.tw12279908804925343222 : True := trivial
theorem law.tw12333802034479711089 : True := trivial
theorem law.tw1233659125815921913 : True := trivial
theorem law.tw12381065012802370727 : True := trivial
theorem law.tw12406287720787640118 : True := trivial
theorem law.tw12409729927284601452 : True := trivial
theorem law.tw12417648047208412264 : True := trivial
theorem law.tw12460558941114831546 : True := trivial
theorem law.tw12471144291089424557 : True := trivial
theorem law.tw12519877948920524721 : True := trivial
theorem law.tw12528612297456115742 : True := trivial
theorem law.tw12537412202909233088 : True := trivial
theorem law.tw12559101401677230178 : True := trivial
theorem law.tw12568657380275995950 : True := trivial
theorem law.tw12575316582035668456 : True := trivial
theorem law.tw12590918176133248614 : True := trivial
theorem law.tw12610608067756550805 : True := trivial
theorem law.tw12631125104204803094 : True := trivial
theorem law.tw1264996779986177813 : True := trivial
theorem law.tw12651357785339719109 : True := trivial
theorem law.tw12674282577319284049 : True := trivial
theorem law.tw12692742163140075742 : True := trivial
theorem law.tw127317143326429855 : True := trivial
theorem law.tw12770879722433261261 : True := trivial
theorem law.tw12772357769716873759 : True := trivial
theorem law.tw12778752544866661580 : True := trivial
theorem law.tw12800761440855176379 : True := trivial
theorem law.tw12823695869238226855 : True := trivial
theorem law.tw12838285178560531828 : True := trivial
theorem law.tw12840742523174619060 : True := trivial
theorem law.tw12843600542912737457 : True := trivial
theorem law.tw12858416332795934490 : True := trivial
theorem law.tw12906018389369034649 : True := trivial
theorem law.tw13015613923333616007 : True := trivial
theorem law.tw13019635082776253091 : True := trivial
theorem law.tw13047991302672676317 : True := trivial
theorem law.tw13066497780578153882 : True := trivial
theorem law.tw13067897157357767901 : True := trivial
theorem law.tw13083425294397752484 : True := trivial
theorem law.tw13105785379291272536 : True := trivial
theorem law.tw13105815490342322615 : True := trivial
theorem law.tw13106965193916438251 : True := trivial
theorem law.tw13150898266244850823 : True := trivial
theorem law.tw13212096257208779674 : True := trivial
theorem law.tw13229063250939053747 : True := trivial
theorem law.tw13255749571415808605 : True := trivial
theorem law.tw13268986533569954456 : True := trivial
theorem law.tw13390953723484002094 : True := trivial
theorem law.tw13422351003552722203 : True := trivial
theorem law.tw13437287165872944686 : True := trivial
theorem law.tw13440086921605842478 : True := trivial
theorem law.tw13451534032485702743 : True := trivial
theorem law.tw13478563133243941227 : True := trivial
theorem law.tw13483101245441255321 : True := trivial
theorem law.tw13488528207839692323 : True := trivial
theorem law.tw13522494884491878246 : True := trivial
theorem law.tw13526318596587369203 : True := trivial
theorem law.tw13542253949724653569 : True := trivial
theorem law.tw13568788915459206134 : True := trivial
theorem law.tw13571462578222039278 : True := trivial
theorem law.tw1362119116733059706 : True := trivial
theorem law.tw13632639987278980995 : True := trivial
theorem law.tw13633674342485586220 : True := trivial
theorem law.tw13650714166813701049 : True := trivial
theorem law.tw13667275876176876367 : True := trivial
theorem law.tw13689942948840679331 : True := trivial
theorem law.tw13705118421938282093 : True := trivial
theorem law.tw13708295860528259264 : True := trivial
theorem law.tw13718042623122868279 : True := trivial
theorem law.tw13728773443057724059 : True := trivial
theorem law.tw13749054020404154894 : True := trivial
theorem law.tw13759417580001532375 : True := trivial
theorem law.tw13759499700678286921 : True := trivial
theorem law.tw13791976218914085910 : True := trivial
theorem law.tw13792675428249388266 : True := trivial
theorem law.tw13817118937593592305 : True := trivial
theorem law.tw1383731269468801798 : True := trivial
theorem law.tw13839857845054364484 : True := trivial
theorem law.tw138574305562521906 : True := trivial
theorem law.tw13876013198041843859 : True := trivial
theorem law.tw13880050052962715347 : True := trivial
theorem law.tw1389820569774816010 : True := trivial
theorem law.tw13920396046425469239 : True := trivial
theorem law.tw13936643096378992333 : True := trivial
theorem law.tw13942842804053233393 : True := trivial
theorem law.tw13961721518649118276 : True := trivial
theorem law.tw13987225519633593624 : True := trivial
theorem law.tw13987723442651042584 : True := trivial
theorem law.tw13988015933445734196 : True := trivial
theorem law.tw13991671423132386651 : True := trivial
theorem law.tw14010076898232200416 : True := trivial
theorem law.tw14035150605665280278 : True := trivial
theorem law.tw14076399572816568179 : True := trivial
theorem law.tw14088043095209975282 : True := trivial
theorem law.tw14088940365590322637 : True := trivial
theorem law.tw14100809504472025193 : True := trivial
theorem law.tw14143938635558692539 : True := trivial
theorem law.tw14203077291407213153 : True := trivial
theorem law.tw14240871002873000807 : True := trivial
theorem law.tw14256497347100926749 : True := trivial
theorem law.tw14270107973215770438 : True := trivial
theorem law.tw1430069585349653914 : True := trivial
theorem law.tw14311389908670430172 : True := trivial
theorem law.tw14317502822950231774 : True := trivial
theorem law.tw14325307061458958174 : True := trivial
theorem law.tw14347874162851305126 : True := trivial
theorem law.tw14369906706373830997 : True := trivial
theorem law.tw14378802154175168248 : True := trivial
theorem law.tw14379462156141025328 : True := trivial
theorem law.tw14436188486168700746 : True := trivial
theorem law.tw1447171808669064302 : True := trivial
theorem law.tw14499171404124301396 : True := trivial
theorem law.tw14515976153276121890 : True := trivial
theorem law.tw14521358192807160333 : True := trivial
theorem law.tw14532296871065327056 : True := trivial
theorem law.tw14533119002083711444 : True := trivial
theorem law.tw14576799054823838208 : True := trivial
theorem law.tw14577606919805201265 : True := trivial
theorem law.tw14599413283764096708 : True := trivial
theorem law.tw14617560702391422364 : True := trivial
theorem law.tw14638260998799547269 : True := trivial
theorem law.tw1465873621379359671 : True := trivial
theorem law.tw1465988683178648907 : True := trivial
theorem law.tw1466779918729120563 : True := trivial
theorem law.tw1469735678299482304 : True := trivial
theorem law.tw14708469453074290282 : True := trivial
theorem law.tw14708914154082527141 : True := trivial
theorem law.tw14744833100613178862 : True := trivial
theorem law.tw14749892692755204182 : True := trivial
theorem law.tw14782981152658694796 : True := trivial
theorem law.tw14789840032233709398 : True := trivial
theorem law.tw14800722902956816629 : True := trivial
theorem law.tw14802755200647372418 : True := trivial
theorem law.tw14805874555140095111 : True := trivial
theorem law.tw14822561477600552272 : True := trivial
theorem law.tw14823078309275213862 : True := trivial
theorem law.tw14831383725187164143 : True := trivial
theorem law.tw14833993005684555312 : True := trivial
theorem law.tw14848663850042179269 : True := trivial
theorem law.tw14854347315293268277 : True := trivial
theorem law.tw14863036695008648806 : True := trivial
theorem law.tw15015745976456417031 : True := trivial
theorem law.tw15041525498782234677 : True := trivial
theorem law.tw15057182624156400746 : True := trivial
theorem law.tw15063641883320774979 : True := trivial
theorem law.tw15103271704813389963 : True := trivial
theorem law.tw15133894477763591001 : True := trivial
theorem law.tw15162945169585403142 : True := trivial
theorem law.tw15176254315650684438 : True := trivial
theorem law.tw15190560575060366405 : True := trivial
theorem law.tw15203146848449140188 : True := trivial
theorem law.tw1520941332042229010 : True := trivial
theorem law.tw15246947223726993395 : True := trivial
theorem law.tw15256692100603658409 : True := trivial
theorem law.tw15275852157875592578 : True := trivial
theorem law.tw15289330230984754401 : True := trivial
theorem law.tw15302435305213789078 : True := trivial
theorem law.tw15342779543168225819 : True := trivial
theorem law.tw15346544961363321373 : True := trivial
theorem law.tw15380865273908049988 : True := trivial
theorem law.tw15384585382880442412 : True := trivial
theorem law.tw15389614509561763626 : True := trivial
theorem law.tw15473402846913379219 : True := trivial
theorem law.tw15493454373403193892 : True := trivial
theorem law.tw15494371944516692473 : True := trivial
theorem law.tw15496741712441836406 : True := trivial
theorem law.tw15514850812878357745 : True := trivial
theorem law.tw15525161276326080298 : True := trivial
theorem law.tw15533061470841769869 : True := trivial
theorem law.tw15604590091830466827 : True := trivial
theorem law.tw15615498541637825414 : True := trivial
theorem law.tw15618438894097758181 : True := trivial
theorem law.tw15654887443514685115 : True := trivial
theorem law.tw15680351461648652349 : True := trivial
theorem law.tw15700806725817004867 : True := trivial
theorem law.tw15716018542321952146 : True := trivial
theorem law.tw15766633513702204512 : True := trivial
theorem law.tw15780532435565012867 : True := trivial
theorem law.tw15811142124933470021 : True := trivial
theorem law.tw15842686482387449074 : True := trivial
theorem law.tw15844911930040286848 : True := trivial
theorem law.tw15872714501068328079 : True := trivial
theorem law.tw15887162238682033566 : True := trivial
theorem law.tw15926445105586498537 : True := trivial
theorem law.tw15937226240868199268 : True := trivial
theorem law.tw15944410689205409886 : True := trivial
theorem law.tw15965980055267658272 : True := trivial
theorem law.tw15999924402797230065 : True := trivial
theorem law.tw1600026505215413530 : True := trivial
theorem law.tw16031990899927697246 : True := trivial
theorem law.tw16094286417534094656 : True := trivial
theorem law.tw1610100390967393046 : True := trivial
theorem law.tw16114145909470816235 : True := trivial
theorem law.tw16117387737037462480 : True := trivial
theorem law.tw16117644310600213416 : True := trivial
theorem law.tw16121300976676042060 : True := trivial
theorem law.tw16125145973140629509 : True := trivial
theorem law.tw16127396978525395202 : True := trivial
theorem law.tw16135512224290333599 : True := trivial
theorem law.tw16143402536387952546 : True := trivial
theorem law.tw16149082301048216158 : True := trivial
theorem law.tw16165545079687566800 : True := trivial
theorem law.tw16173505291465673776 : True := trivial
theorem law.tw16176092079185841447 : True := trivial
theorem law.tw16176621900282738615 : True := trivial
theorem law.tw16202531623733960336 : True := trivial
theorem law.tw16224417117830211812 : True := trivial
theorem law.tw16234711888074852603 : True := trivial
theorem law.tw16251456166430716674 : True := trivial
theorem law.tw1625687556541757332 : True := trivial
theorem law.tw16265916976389111379 : True := trivial
theorem law.tw16283311888657096546 : True := trivial
theorem law.tw16306203998025977777 : True := trivial
theorem law.tw16308925916262877119 : True := trivial
theorem law.tw16320569818401670327 : True := trivial
theorem law.tw16334506775019375125 : True := trivial
theorem law.tw163467674121137261 : True := trivial
theorem law.tw1635936076561994385 : True := trivial
theorem law.tw16360857089514365176 : True := trivial
theorem law.tw16405326720138702633 : True := trivial
theorem law.tw16417708465784863236 : True := trivial
theorem law.tw16426571651486727909 : True := trivial
theorem law.tw16453499918431264371 : True := trivial
theorem law.tw16469498818747127984 : True := trivial
theorem law.tw16511300880660718354 : True := trivial
theorem law.tw16530098565264643361 : True := trivial
theorem law.tw16555174397237850865 : True := trivial
theorem law.tw16562281266993608982 : True := trivial
theorem law.tw16585132557245215809 : True := trivial
theorem law.tw16588905709249636379 : True := trivial
theorem law.tw16617871175012263787 : True := trivial
theorem law.tw16653298701519530459 : True := trivial
theorem law.tw16658522673551069384 : True := trivial
theorem law.tw16686367200484181685 : True := trivial
theorem law.tw16754735025710492841 : True := trivial
theorem law.tw16762458994305022840 : True := trivial
theorem law.tw16781324522502593039 : True := trivial
theorem law.tw16800591462905864772 : True := trivial
theorem law.tw16813236886810034266 : True := trivial
theorem law.tw16840123298276764928 : True := trivial
theorem law.tw16845419430133399865 : True := trivial
theorem law.tw1686647556559472485 : True := trivial
theorem law.tw16884566110622355778 : True := trivial
theorem law.tw16931624348194923968 : True := trivial
theorem law.tw16936248138489258172 : True := trivial
theorem law.tw16969368358214040724 : True := trivial
theorem law.tw16986089415065116321 : True := trivial
theorem law.tw16992137452496337772 : True := trivial
theorem law.tw17065853034018868707 : True := trivial
theorem law.tw17093361896211462796 : True := trivial
theorem law.tw17118460274778945656 : True := trivial
theorem law.tw17155121183968833655 : True := trivial
theorem law.tw17180186633401351929 : True := trivial
theorem law.tw17190579585055793647 : True := trivial
theorem law.tw17204149490039463547 : True := trivial
theorem law.tw17262744447901875323 : True := trivial
theorem law.tw1726676707928303028 : True := trivial
theorem law.tw17322645514826386617 : True := trivial
theorem law.tw17351294838357633443 : True := trivial
theorem law.tw17357379494525512551 : True := trivial
theorem law.tw17360577748265574369 : True := trivial
theorem law.tw17373431669744476528 : True := trivial
theorem law.tw17380744481426790967 : True := trivial
theorem law.tw17383301986935559125 : True := trivial
theorem law.tw17405017239844752494 : True := trivial
theorem law.tw17434446165756496795 : True := trivial
theorem law.tw1746432321631148817 : True := trivial
theorem law.tw17472744829559773135 : True := trivial
theorem law.tw17485718604911638032 : True := trivial
theorem law.tw17490534313506657616 : True := trivial
theorem law.tw17502139389040140158 : True := trivial
theorem law.tw17506701968014169379 : True := trivial
theorem law.tw17521603330594381506 : True := trivial
theorem law.tw17585447988674925725 : True := trivial
theorem law.tw17617285060259143518 : True := trivial
theorem law.tw17644929820385954830 : True := trivial
theorem law.tw17661046409378373187 : True := trivial
theorem law.tw17702700018548142076 : True := trivial
theorem law.tw17706900550284877695 : True := trivial
theorem law.tw17722742745207735485 : True := trivial
theorem law.tw17809833116000397319 : True := trivial
theorem law.tw17816892725917836692 : True := trivial
theorem law.tw17865747701858748339 : True := trivial
theorem law.tw17880333376003554739 : True := trivial
theorem law.tw17885409212239369024 : True := trivial
theorem law.tw17902572638220959821 : True := trivial
theorem law.tw17931810161776639709 : True := trivial
theorem law.tw17954688815868799476 : True := trivial
theorem law.tw17968703191050498054 : True := trivial
theorem law.tw17973245312826799877 : True := trivial
theorem law.tw17985451953469339569 : True := trivial
theorem law.tw18024705061545192003 : True := trivial
theorem law.tw18028811614330443932 : True := trivial
theorem law.tw1803423151024578886 : True := trivial
theorem law.tw18048234928913447597 : True := trivial
theorem law.tw18072629212493113695 : True := trivial
theorem law.tw18087031937497475063 : True := trivial
theorem law.tw18114796583763774893 : True := trivial
theorem law.tw18175444698000654424 : True := trivial
theorem law.tw18197471594963353654 : True := trivial
theorem law.tw18219528747456934684 : True := trivial
theorem law.tw18226205385310702603 : True := trivial
theorem law.tw1823688381079382038 : True := trivial
theorem law.tw18237845556270483021 : True := trivial
theorem law.tw18256614335192688444 : True := trivial
theorem law.tw18312642829208519918 : True := trivial
theorem law.tw18363710198205610729 : True := trivial
theorem law.tw1856641416765329477 : True := trivial
theorem law.tw1888967101186279259 : True := trivial
theorem law.tw1894415437690322856 : True := trivial
theorem law.tw1900324959677325778 : True := trivial
theorem law.tw1908816509439594260 : True := trivial
theorem law.tw1913044124354089977 : True := trivial
theorem law.tw1938744211872416739 : True := trivial
theorem law.tw1940508613919620296 : True := trivial
theorem law.tw1963671677247560394 : True := trivial
theorem law.tw1981339053424895550 : True := trivial
theorem law.tw2015715439407602895 : True := trivial
theorem law.tw2022067537559949955 : True := trivial
theorem law.tw2030965984702790068 : True := trivial
theorem law.tw2043706901426579902 : True := trivial
theorem law.tw2044714275650722372 : True := trivial
theorem law.tw2048163516462596894 : True := trivial
theorem law.tw2066843600984799122 : True := trivial
theorem law.tw2070672184697497193 : True := trivial
theorem law.tw2109362653829874276 : True := trivial
theorem law.tw2146406837688113226 : True := trivial
theorem law.tw2151773729862844728 : True := trivial
theorem law.tw2166595475072027153 : True := trivial
theorem law.tw2190958759868804901 : True := trivial
theorem law.tw2194676819345254659 : True := trivial
theorem law.tw2197534260023057625 : True := trivial
theorem law.tw2271115096406454409 : True := trivial
theorem law.tw2306052480582322947 : True := trivial
theorem law.tw234088651831972884 : True := trivial
theorem law.tw2355131481168834475 : True := trivial
theorem law.tw2408790809215497928 : True := trivial
theorem law.tw2428457723711304594 : True := trivial
theorem law.tw2469817801405369238 : True := trivial
theorem law.tw2471118842875268746 : True := trivial
theorem law.tw2478590926110498673 : True := trivial
theorem law.tw2534802532812314358 : True := trivial
theorem law.tw253840606061104439 : True := trivial
theorem law.tw2540654813821913800 : True := trivial
theorem law.tw2550525375325809800 : True := trivial
theorem law.tw2568047147079326155 : True := trivial
theorem law.tw256976601096795226 : True := trivial
theorem law.tw259394306007589022 : True := trivial
theorem law.tw2605698508614247781 : True := trivial
theorem law.tw2616515249056484813 : True := trivial
theorem law.tw2631597217383475997 : True := trivial
theorem law.tw2637188902194257474 : True := trivial
theorem law.tw2688440419461138214 : True := trivial
theorem law.tw2706467153675513630 : True := trivial
theorem law.tw2717157226930896203 : True := trivial
theorem law.tw2747473955017203386 : True := trivial
theorem law.tw2767130036542949939 : True := trivial
theorem law.tw2772920992713636412 : True := trivial
theorem law.tw27750575347808274 : True := trivial
theorem law.tw2787570134857116660 : True := trivial
theorem law.tw2825811335486693242 : True := trivial
theorem law.tw2840554221268165817 : True := trivial
theorem law.tw2864799831941436772 : True := trivial
theorem law.tw2867496390186870437 : True := trivial
theorem law.tw2867984728959990353 : True := trivial
theorem law.tw2875338257047697019 : True := trivial
theorem law.tw2947115874711867620 : True := trivial
theorem law.tw3008341582244820868 : True := trivial
theorem law.tw3009095056115078190 : True := trivial
theorem law.tw3022312534896902172 : True := trivial
theorem law.tw3043470036575428307 : True := trivial
theorem law.tw3044046162406575875 : True := trivial
theorem law.tw304548727882767379 : True := trivial
theorem law.tw3054335285294786930 : True := trivial
theorem law.tw3058312387204168268 : True := trivial
theorem law.tw3120224187761796320 : True := trivial
theorem law.tw3161069045813151812 : True := trivial
theorem law.tw3180723083338580804 : True := trivial
theorem law.tw3229700554076719671 : True := trivial
theorem law.tw3230608261355345448 : True := trivial
theorem law.tw3250915212149896916 : True := trivial
theorem law.tw3260919848671502144 : True := trivial
theorem law.tw3272815010394513277 : True := trivial
theorem law.tw3291430995647064902 : True := trivial
theorem law.tw334166082916658206 : True := trivial
theorem law.tw3354418783263562886 : True := trivial
theorem law.tw3369179463843577602 : True := trivial
theorem law.tw3373445221797699062 : True := trivial
theorem law.tw338395416337859295 : True := trivial
theorem law.tw3385168825531313072 : True := trivial
theorem law.tw339836876861548572 : True := trivial
theorem law.tw3410264322593213964 : True := trivial
theorem law.tw3411735182426506251 : True := trivial
theorem law.tw3457248441646642254 : True := trivial
theorem law.tw3458491807833918984 : True := trivial
theorem law.tw3459007337505406896 : True := trivial
theorem law.tw3499271817265539070 : True := trivial
theorem law.tw351354326529436124 : True := trivial
theorem law.tw3515449065397969731 : True := trivial
theorem law.tw3533238546431096377 : True := trivial
theorem law.tw3540389220791546976 : True := trivial
theorem law.tw354945379286729580 : True := trivial
theorem law.tw3558784788051183347 : True := trivial
theorem law.tw3571156449328691658 : True := trivial
theorem law.tw3602087526383413984 : True := trivial
theorem law.tw3624210043245696575 : True := trivial
theorem law.tw3626631501046058187 : True := trivial
theorem law.tw3634103573656307507 : True := trivial
theorem law.tw3635574925395915108 : True := trivial
theorem law.tw3654072222135447482 : True := trivial
theorem law.tw3682453597880938187 : True := trivial
theorem law.tw3684762893912169845 : True := trivial
theorem law.tw3754850963998221704 : True := trivial
theorem law.tw3764636346061320997 : True := trivial
theorem law.tw3775361592671485517 : True := trivial
theorem law.tw3789102771369546251 : True := trivial
theorem law.tw3797747664263751548 : True := trivial
theorem law.tw3877819282751843081 : True := trivial
theorem law.tw3886675843612926803 : True := trivial
theorem law.tw3911520878051630713 : True := trivial
theorem law.tw3921742220093380145 : True := trivial
theorem law.tw3943894540705788830 : True := trivial
theorem law.tw3975011203230848119 : True := trivial
theorem law.tw3999723570078350482 : True := trivial
theorem law.tw4006667922045918614 : True := trivial
theorem law.tw402279622276383398 : True := trivial
theorem law.tw403514874580602406 : True := trivial
theorem law.tw4068673481559142534 : True := trivial
theorem law.tw407461395843676723 : True := trivial
theorem law.tw4089622393701157624 : True := trivial
theorem law.tw4093225961972846934 : True := trivial
theorem law.tw4173070603276499212 : True := trivial
theorem law.tw4189197808216739701 : True := trivial
theorem law.tw4194663440844013013 : True := trivial
theorem law.tw4285630546408260150 : True := trivial
theorem law.tw4286572355808766822 : True := trivial
theorem law.tw4326799050210483083 : True := trivial
theorem law.tw4340128086173337695 : True := trivial
theorem law.tw434239029886370409 : True := trivial
theorem law.tw4346506710939506518 : True := trivial
theorem law.tw4374311865265045770 : True := trivial
theorem law.tw445187652221266311 : True := trivial
theorem law.tw4457238533287925758 : True := trivial
theorem law.tw4465646653704629892 : True := trivial
theorem law.tw4486032776419574197 : True := trivial
theorem law.tw4492928987723264295 : True := trivial
theorem law.tw4508402080735471834 : True := trivial
theorem law.tw4523824963191099297 : True := trivial
theorem law.tw4537243172502812280 : True := trivial
theorem law.tw4545973453172447737 : True := trivial
theorem law.tw4549768856118776384 : True := trivial
theorem law.tw456163412107929985 : True := trivial
theorem law.tw4567791690157840171 : True := trivial
theorem law.tw4571645102805042067 : True := trivial
theorem law.tw4603515126424664187 : True := trivial
theorem law.tw4622507943286758663 : True := trivial
theorem law.tw4648666894120409344 : True := trivial
theorem law.tw4656522077572595867 : True := trivial
theorem law.tw466093691909171813 : True := trivial
theorem law.tw4676788777328934994 : True := trivial
theorem law.tw4679974759194884242 : True := trivial
theorem law.tw4704640042688703944 : True := trivial
theorem law.tw472668490227771761 : True := trivial
theorem law.tw4843196698346154017 : True := trivial
theorem law.tw4846713546244368349 : True := trivial
theorem law.tw4891778461783962505 : True := trivial
theorem law.tw4893575301116900237 : True := trivial
theorem law.tw4901188629543592175 : True := trivial
theorem law.tw4908517660498442698 : True := trivial
theorem law.tw4917558012181272488 : True := trivial
theorem law.tw4988357156186295978 : True := trivial
theorem law.tw5037233810833290919 : True := trivial
theorem law.tw5074664015257517900 : True := trivial
theorem law.tw5079013609374358204 : True := trivial
theorem law.tw5112332982280096225 : True := trivial
theorem law.tw51276879991702401 : True := trivial
theorem law.tw5152554778974162585 : True := trivial
theorem law.tw5160153681172496555 : True := trivial
theorem law.tw5186830071266829134 : True := trivial
theorem law.tw5193999175931551279 : True := trivial
theorem law.tw519598522186407377 : True := trivial
theorem law.tw5210029761005115848 : True := trivial
theorem law.tw5223661357717994792 : True := trivial
theorem law.tw522805188825062445 : True := trivial
theorem law.tw5241873987765446382 : True := trivial
theorem law.tw5297855924027211889 : True := trivial
theorem law.tw5330901876675591851 : True := trivial
theorem law.tw53783548723167669 : True := trivial
theorem law.tw5432566325926082126 : True := trivial
theorem law.tw54563967648231285 : True := trivial
theorem law.tw5461974950726986916 : True := trivial
theorem law.tw5478055030515842151 : True := trivial
theorem law.tw5526464036434691521 : True := trivial
theorem law.tw559181110591177822 : True := trivial
theorem law.tw5592734015908502955 : True := trivial
theorem law.tw5605097953502348874 : True := trivial
theorem law.tw5606725698872088183 : True := trivial
theorem law.tw564559526481096679 : True := trivial
theorem law.tw5649149158178163895 : True := trivial
theorem law.tw568555166003729926 : True := trivial
theorem law.tw5710286041021286952 : True := trivial
theorem law.tw5727335911104298072 : True := trivial
theorem law.tw5735001160259028687 : True := trivial
theorem law.tw5757006862646242492 : True := trivial
theorem law.tw5759119513877862361 : True := trivial
theorem law.tw5759171584303317809 : True := trivial
theorem law.tw5765074778068036712 : True := trivial
theorem law.tw5778479216837208672 : True := trivial
theorem law.tw5808560155020538968 : True := trivial
theorem law.tw5822903616692022278 : True := trivial
theorem law.tw5837443200255339034 : True := trivial
theorem law.tw5865331365556526202 : True := trivial
theorem law.tw5887883138666542783 : True := trivial
theorem law.tw5926448791855114412 : True := trivial
theorem law.tw59572031778389095 : True := trivial
theorem law.tw5962509045511649851 : True := trivial
theorem law.tw5995636244603389501 : True := trivial
theorem law.tw6003215673028684012 : True := trivial
theorem law.tw6004520436032409730 : True := trivial
theorem law.tw6086229705292442542 : True := trivial
theorem law.tw6102668323687505502 : True := trivial
theorem law.tw6118522254490007756 : True := trivial
theorem law.tw6145632894437374147 : True := trivial
theorem law.tw615078624715520641 : True := trivial
theorem law.tw6181767216480634638 : True := trivial
theorem law.tw6226999849681690003 : True := trivial
theorem law.tw6277695593091390052 : True := trivial
theorem law.tw6286618539715635974 : True := trivial
theorem law.tw6289346023763460466 : True := trivial
theorem law.tw6305633960668747206 : True := trivial
theorem law.tw6320052863035037261 : True := trivial
theorem law.tw6354018499285256535 : True := trivial
theorem law.tw6384622485912284485 : True := trivial
theorem law.tw6394418113948073315 : True := trivial
theorem law.tw6424448315993446631 : True := trivial
theorem law.tw6427174196504210575 : True := trivial
theorem law.tw6446545568877546841 : True := trivial
theorem law.tw6460622447872880723 : True := trivial
theorem law.tw6463740839748345367 : True := trivial
theorem law.tw6519122298890219348 : True := trivial
theorem law.tw655683508416521606 : True := trivial
theorem law.tw6567547706753919033 : True := trivial
theorem law.tw6570022011229800607 : True := trivial
theorem law.tw6584260631595109972 : True := trivial
theorem law.tw6597703633786072401 : True := trivial
theorem law.tw6627507069022015959 : True := trivial
theorem law.tw663048005711513719 : True := trivial
theorem law.tw663549203295587526 : True := trivial
theorem law.tw6636046092353448235 : True := trivial
theorem law.tw6639682718240228982 : True := trivial
theorem law.tw6665858662584570254 : True := trivial
theorem law.tw674138735105968255 : True := trivial
theorem law.tw6797567353260315697 : True := trivial
theorem law.tw6806221382148513329 : True := trivial
theorem law.tw6827226416931352268 : True := trivial
theorem law.tw6828209207439402694 : True := trivial
theorem law.tw6851489509044044948 : True := trivial
theorem law.tw6868005720005893525 : True := trivial
theorem law.tw6872861749132703480 : True := trivial
theorem law.tw6901615715716342155 : True := trivial
theorem law.tw6906583014144836424 : True := trivial
theorem law.tw6914921336513587705 : True := trivial
theorem law.tw691842779745001572 : True := trivial
theorem law.tw6944951937206755967 : True := trivial
theorem law.tw6973893990897824167 : True := trivial
theorem law.tw6981911342545965932 : True := trivial
theorem law.tw7021529481118678600 : True := trivial
theorem law.tw7059899664208695735 : True := trivial
theorem law.tw7096782637782417568 : True := trivial
theorem law.tw7100727894271808853 : True := trivial
theorem law.tw7125311364333075395 : True := trivial
theorem law.tw7171897867850184110 : True := trivial
theorem law.tw7219418724992983073 : True := trivial
theorem law.tw7228040930830709755 : True := trivial
theorem law.tw7238077460143993408 : True := trivial
theorem law.tw7264552106395557346 : True := trivial
theorem law.tw7265808846902933852 : True := trivial
theorem law.tw7270247864881950596 : True := trivial
theorem law.tw7283594651733678074 : True := trivial
theorem law.tw7322376048046499335 : True := trivial
theorem law.tw740211120730030258 : True := trivial
theorem law.tw7429079395582752953 : True := trivial
theorem law.tw7430217499180593974 : True := trivial
theorem law.tw743264849047517613 : True := trivial
theorem law.tw7472392605112009958 : True := trivial
theorem law.tw7552202227076822705 : True := trivial
theorem law.tw7585802756859319165 : True := trivial
theorem law.tw7598944934544261139 : True := trivial
theorem law.tw7626034129862577542 : True := trivial
theorem law.tw7630794467942622387 : True := trivial
theorem law.tw7640020190703548235 : True := trivial
theorem law.tw7650714045787232364 : True := trivial
theorem law.tw7653468643433142808 : True := trivial
theorem law.tw7656013864741027499 : True := trivial
theorem law.tw766751810287931212 : True := trivial
theorem law.tw7712447660842303439 : True := trivial
theorem law.tw7727400499573335068 : True := trivial
theorem law.tw7734604250243216639 : True := trivial
theorem law.tw7753880514481173888 : True := trivial
theorem law.tw7757085409567536760 : True := trivial
theorem law.tw7805032114618664510 : True := trivial
theorem law.tw7861290965237921058 : True := trivial
theorem law.tw7873568984172552413 : True := trivial
theorem law.tw7874035108860355382 : True := trivial
theorem law.tw791899376490664284 : True := trivial
theorem law.tw7928155888929269629 : True := trivial
theorem law.tw7939736985586983429 : True := trivial
theorem law.tw7947664461464936259 : True := trivial
theorem law.tw7947930243295647825 : True := trivial
theorem law.tw7974842139376466880 : True := trivial
theorem law.tw7990135326770990556 : True := trivial
theorem law.tw8011040964148999876 : True := trivial
theorem law.tw8053484116034330024 : True := trivial
theorem law.tw8096505338646543528 : True := trivial
theorem law.tw8111664155686639096 : True := trivial
theorem law.tw811658124584790753 : True := trivial
theorem law.tw8208282992192066176 : True := trivial
theorem law.tw8214018013531795001 : True := trivial
theorem law.tw8214243552090061388 : True := trivial
theorem law.tw8222779815710385419 : True := trivial
theorem law.tw8319792697340206452 : True := trivial
theorem law.tw8326462920639921141 : True := trivial
theorem law.tw8355193580418170465 : True := trivial
theorem law.tw8379801371077579658 : True := trivial
theorem law.tw8400101796353163633 : True := trivial
theorem law.tw8400330649371614963 : True := trivial
theorem law.tw8439701749127279522 : True := trivial
theorem law.tw8469116424944935334 : True := trivial
theorem law.tw8476946520831507393 : True := trivial
theorem law.tw8481551819484204512 : True := trivial
theorem law.tw8513888615960419155 : True := trivial
theorem law.tw8541979377530643823 : True := trivial
theorem law.tw8549964072919090490 : True := trivial
theorem law.tw8555554519771857762 : True := trivial
theorem law.tw8586705632084015521 : True := trivial
theorem law.tw8616365168702025429 : True := trivial
theorem law.tw8671826632647032580 : True := trivial
theorem law.tw8695362306470200571 : True := trivial
theorem law.tw8696591131425080441 : True := trivial
theorem law.tw8733048874739728715 : True := trivial
theorem law.tw8765402361407721219 : True := trivial
theorem law.tw8807841539937598354 : True := trivial
theorem law.tw8819820080943635200 : True := trivial
theorem law.tw8840981965253692143 : True := trivial
theorem law.tw8862305216795178012 : True := trivial
theorem law.tw8877418767269552731 : True := trivial
theorem law.tw8909797698515804255 : True := trivial
theorem law.tw8941945780141715332 : True := trivial
theorem law.tw8945754567795272355 : True := trivial
theorem law.tw8952797441857020512 : True := trivial
theorem law.tw8953799811704845711 : True := trivial
theorem law.tw8958012244803539818 : True := trivial
theorem law.tw8973987400215944159 : True := trivial
theorem law.tw8982606715950602116 : True := trivial
theorem law.tw9022724931740917465 : True := trivial
theorem law.tw9035912170408793244 : True := trivial
theorem law.tw9040353744561016323 : True := trivial
theorem law.tw9091569675055190766 : True := trivial
theorem law.tw9096682357707289654 : True := trivial
theorem law.tw9116961117901415946 : True := trivial
theorem law.tw9142270756455014936 : True := trivial
theorem law.tw9171909744762028523 : True := trivial
theorem law.tw917995684807299206 : True := trivial
theorem law.tw9259028747146209043 : True := trivial
theorem law.tw9306489563800820662 : True := trivial
theorem law.tw9352411309777683346 : True := trivial
theorem law.tw9378306084680490058 : True := trivial
theorem law.tw940310143306944107 : True := trivial
theorem law.tw9419902438303260944 : True := trivial
theorem law.tw9505315131864032382 : True := trivial
theorem law.tw9507168425194765073 : True := trivial
theorem law.tw9549881006879880859 : True := trivial
theorem law.tw9557124704186283899 : True := trivial
theorem law.tw9590647126063797726 : True := trivial
theorem law.tw959195223876475222 : True := trivial
theorem law.tw9641771715135223730 : True := trivial
theorem law.tw9705406087231273881 : True := trivial
theorem law.tw9710088225557845874 : True := trivial
theorem law.tw9773320771725097094 : True := trivial
theorem law.tw9774928459537144336 : True := trivial
theorem law.tw9787818695334845006 : True := trivial
theorem law.tw9859195445176284192 : True := trivial
theorem law.tw986719644861196294 : True := trivial
theorem law.tw9869512813609090013 : True := trivial
theorem law.tw9870198538304392489 : True := trivial
theorem law.tw9897934542801524638 : True := trivial
theorem law.tw9926356499664884447 : True := trivial
theorem law.tw9937669407633546576 : True := trivial
theorem law.tw9946861707870233718 : True := trivial
theorem law.tw9991608351915889733 : True := trivial
theorem law.tw16212392567207492675 : True := trivial
theorem law.tw15068483726869450994 : True := trivial
theorem law.tw10416244568729210123 : True := trivial
local macro_rules | `(tactic| k_head) => `(tactic| o_head (kmHook frag.heap_1 ats (fun _ => by kernel_rfl) [741]))
set_option Elab.async true in
theorem law : PySem.Challenge.rw_pc0217_01.Holds := by
  w_on
  o_law
  k_head
  (case hw => w_witness2)
  k_go0
  (all_goals try k_fold)
  have hlen63 := len63 (by assumption)
  rename IntsAre _ _ => hI9
  k_steps
  refine' law_loop ?qa1 ?qa2 ?qa3 ?qa4 ?qa5 ?qa6 ?qB ?qX ?qT ?qd ?qu ?qE ?qm ?qW ?qD ?qEd ?qEdd ?qL ?qLC ?q3 ?q4 ?qcH ?qeH ?qcR ?qeR ?qcT ?qeT ?qXX ?qH ?qb0 ?qb1 ?qHIT ?qWR ?qd1 ?qRR ?qd2 ?qok ?qr0 ?qr1 ?qR0 ?qF ?qN ?qnext ?qfin
  (case qR0 => assumption)
  (case qF => assumption)
  (case qN => assumption)
  (case qB => k_asm)
  (case qX => k_asm)
  (case qT => k_asm)
  (case qd => ktr_room)
  (case qu => ke_room)
  (case qE => passes_own)
  (case qm => rfl)
  (case qW => exact .tail _ (.tail _ (.tail _ (.head _))))
  (case qD => exact .tail _ (.tail _ (.tail _ (.tail _ (.head _)))))
  (case qEd => exact .tail _ (.tail _ (.tail _ (.tail _ (.tail _ (.tail _ (.tail _ (.tail _ (.head _)))))))))
  (case qEdd => exact .tail _ (.tail _ (.tail _ (.tail _ (.tail _ (.tail _ (.tail _ (.tail _ (.tail _ (.head _))))))))))
  (case qL => exact .tail _ (.tail _ (.tail _ (.tail _ (.tail _ (.head _))))))
  (case qLC => exact .tail _ (.tail _ (.tail _ (.tail _ (.tail _ (.tail _ (.head _)))))))
  (case q3 => assumption)
  (case q4 => assumption)
  (case qcH => exact .tail _ (.tail _ (.tail _ (.tail _ (.tail _ (.tail _ (.tail _ (.tail _ (.tail _ (.tail _ (.tail _ (.tail _ (.tail _ (.tail _ (.tail _ (.head _))))))))))))))))
  (case qeH => assumption)
  (case qcR => exact .tail _ (.tail _ (.tail _ (.tail _ (.tail _ (.tail _ (.tail _ (.tail _ (.tail _ (.tail _ (.tail _ (.tail _ (.tail _ (.tail _ (.head _)))))))))))))))
  (case qeR => assumption)
  (case qcT => exact .tail _ (.tail _ (.tail _ (.tail _ (.tail _ (.tail _ (.tail _ (.tail _ (.tail _ (.tail _ (.tail _ (.tail _ (.tail _ (.head _))))))))))))))
  (case qeT => assumption)
  (case qXX => exact .tail _ (.tail _ (.tail _ (.tail _ (.tail _ (.tail _ (.tail _ (.tail _ (.tail _ (.tail _ (.tail _ (.tail _ (.tail _ (.tail _ (.tail _ (.tail _ (.head _)))))))))))))))))
  (case qH => exact .tail _ (.tail _ (.tail _ (.tail _ (.tail _ (.tail _ (.tail _ (.tail _ (.tail _ (.tail _ (.tail _ (.tail _ (.head _)))))))))))))
  (case qb0 => assumption)
  (case qb1 => assumption)
  (case qHIT => exact .tail _ (.tail _ (.tail _ (.tail _ (.tail _ (.tail _ (.tail _ (.tail _ (.tail _ (.tail _ (.tail _ (.head _))))))))))))
  (case qWR => exact .tail _ (.tail _ (.head _)))
  (case qd1 => assumption)
  (case qRR => exact .tail _ (.head _))
  (case qd2 => assumption)
  (case qr0 => assumption)
  (case qr1 => assumption)
  (case qnext => exact fun _ h => h)
  (case qok => refine ok_of ?_ ?_ ?_ ?_ ?_ ?_ ?_ ?_ ?_ ?_ ?_ (by assumption) (by assumption) <;> with_reducible (first | assumption | (apply And.left; assumption) | (apply And.left; apply And.right; assumption)))
  (case qa1 => conv => lhs; whnf)
  (case qa2 => conv => lhs; whnf)
  (case qa3 => conv => lhs; whnf)
  (case qa4 => conv => lhs; whnf)
  (case qa5 => conv => lhs; whnf)
  (case qa6 => conv => lhs; whnf)
  intro h9 tk9 nw9 u9 F9 N9 m9
  replace N9 := News.add N9 m9
  k_steps
  (all_goals (try k_data))
  all_goals w_report
end Mine
theorem PySem.Challenge.cw_pc0217_01_holds : PySem.Challenge.rw_pc0217_01.Holds :=
  Mine.law
