import PyProof.Rows.All
import Wide.All
import OpenK.AllK
import Wide.FinOn
import PySem.Challenge.RW_ov0054_01
open PySem PySem.W PyProof.Rows PySem.Calls
set_option Elab.async false
set_option maxRecDepth 100000
set_option maxHeartbeats 0
set_option linter.unusedVariables false
set_option rowWalk.seconds 0
set_option compiler.extract_closed false
namespace Mine
theorem left_boot {p q : Program} {loose : List Str} {Xt : Shared → Bool} {α : Type} {Yf : Shared → α} {Ya : World → α} {N : Nat} {g0 : Bool} (e : opening p = plainProg p.main.scope.names) (hN : Nat.ble 600 N = true) (f : ∀ s, fenceModules? p s = some s)
    (h : ∀ (w : World) (os : OsState), (match (boot_heap w.params).isNs mainGlobals && (Array.mk [] : Array GenState).size == 0 with
      | true => (PySem.W.Fast.tw14082659384304107361 PySem.W.Fast.tw14364793385576792824 p w (boot_heap w.params).objs.size ((boot_heap w.params).nsMap mainGlobals (Str.ofString "__annotations__")) N ⟨boot_heap w.params, Array.mk [], boot_drawn, boot_toks, os⟩ (topStub p)).bind fun s₁ => match staticsOk (importedModules p.main.body) (boot_heap w.params) s₁.heap && namesBound p s₁.heap && gensDone s₁ && laidKept (boot_heap w.params) s₁.heap with
          | true => some s₁
          | false => none
      | false => none).map (fun s => (openSeen q loose (importedModules p.main.body) Xt g0 s, Yf s)) = some (openGood q loose, Ya w)) : LeftO p q loose Xt Yf Ya N g0 := fun w => by
  obtain ⟨s, hs, hv⟩ := Option.map_eq_some_iff.mp (boot_open e hN f w)
  unfold openEnds
  rw [hs]
  obtain ⟨hp, gs, d, k, os⟩ := s
  cases hv
  have h := h w os
  rw [← PySem.W.Fast.te14082659384304107361, ← PySem.W.Fast.te14364793385576792824] at h
  exact h
section
local macro_rules | `(tactic| refine $h:ident (q := $q) (loose := $l) (Xt := $x) (XP := $xp) (Yf := $yf) (Ya := $ya) (YP := $yp) (N := $n) ?$y $args*) => `(tactic| (refine $h:ident (N := $n) (q := $q) (loose := $l) (Xt := $x) (XP := $xp) (Yf := $yf) (Ya := $ya) (YP := $yp) ?hx $args*; (case hx => exact left_boot (by kernel_rfl) (by kernel_rfl) (fun s => by kernel_rfl) (fun w os => by kernel_rfl))))
open_top hd for PySem.Challenge.rw_ov0054_01
end
theorem anew0 : True := by
  w_top off
  k_with_none
  k_with "gen" => (refine cut_genF ?_; intro q9 hq9)
  k_with "CutEnd" => (refine cut_in (by assumption) ?_)
  k_with "allLt" => (first | assumption | (rename _ ∧ _ => h9; obtain ⟨h91, h92⟩ := h9; k_extra "allLt"))
  k_with "call builtin:len" => (k_here; (with_reducible show wpAny _ _ (call (Value.builtin "len") [Value.ref _]) _ _ _); k_dflt (refine' len_led (by first | (k_asm) | fail) (by first | (k_mem) | fail) (by first | (omega) | fail) ?_; k_whole))
  k_with "exec For" => (k_here; (rename Fr _ _ _ _ => lF'); (with_unfolding_all refine' For_invVF lF' (by first | (k_dflt (exact rfl)) | fail) (by first | (k_dflt (exact rfl)) | fail) ?_; k_whole))
  k_with "exec For Name Attribute cons nil" => (walk_at "exec For")
  k_with "exec For Name Name cons nil" => (walk_at "exec For")
  k_with "exec For Name Call cons nil" => (walk_at "exec For")
  k_with "room" => (first | omega | (dsimp only [ktrTop, Around.deeper, Around.in1] at *; omega))
  k_with "enter" => (refine wpAny_call ?_; k_dflt cell_enter; (try generalize List.length (List.filterMap _ _) = ln9); k_extra "gen")
  k_with "getAttr ref" => (k_here; k_dflt (refine' get_own (by first | (k_asm) | fail) (by first | (k_asm) | fail) (by first | (k_inst) | fail) (by first | (k_is) | fail) (by first | (k_is) | fail) (by first | (k_is) | fail) (by first | (k_is) | fail) (by first | (assumption) | fail) (by first | (rfl) | fail) ?_; k_whole))
  k_with "small" => (first | omega | (simp only [List.length_append, List.length_cons, List.length_nil]; omega))
  k_with "call builtin:list.append" => (k_here; (with_reducible show wpAny _ _ (call (Value.builtin _) [Value.ref _, _]) _ _ _); k_dflt (refine' append_led (by first | (k_asm) | fail) (by first | (k_asm) | fail) (by first | (k_upd) | fail) (by first | (k_extra "small") | fail) ?_; k_whole); intro h' F' N'; (try k_sweep))
  k_with "turn map" => (intro z hz hp9 hs; (try dsimp only [kstB]); first | (simp only [hz, hs, if_false, Bool.false_eq_true]; done) | (have hz2 := hp9 _ (.head _); dsimp only at hz2; simp only [hz, hz2, hs, if_false, Bool.false_eq_true]; done) | (have hz2 := hp9 _ (.head _); have hz3 := hp9 _ (.tail _ (.head _)); dsimp only at hz2 hz3; simp only [hz, hz2, hz3, hs, if_false, Bool.false_eq_true]; done) | (have hs2 := hs; simp only [List.contains_cons, List.contains_nil, Bool.or_false, Bool.or_eq_false_iff, beq_eq_false_iff_ne, ne_eq] at hs2; simp only [hz, hs, hs2, if_false, Bool.false_eq_true]; done) | (have hz2 := hp9 _ (.head _); dsimp only at hz2; have hs2 := hs; simp only [List.contains_cons, List.contains_nil, Bool.or_false, Bool.or_eq_false_iff, beq_eq_false_iff_ne, ne_eq] at hs2; simp only [hz, hz2, hs, hs2, if_false, Bool.false_eq_true]))
  k_with "turn end 1" => (first | refine TurnEnd.next _ (by assumption) (by assumption) ?_ ?_ (by exact fun _ hp => nomatch hp) (by k_extra "turn map") | refine TurnEnd.cont _ (by assumption) (by assumption) ?_ ?_ (by exact fun _ hp => nomatch hp) (by k_extra "turn map"))
  k_with "turn end 2" => (first | refine TurnEnd.next (_, _) (by assumption) (by assumption) ?_ ?_ (by exact fun _ hp => nomatch hp) (by k_extra "turn map") | refine TurnEnd.cont (_, _) (by assumption) (by assumption) ?_ ?_ (by exact fun _ hp => nomatch hp) (by k_extra "turn map"))
  k_with "turn end 3" => (first | refine TurnEnd.next (_, _, _) (by assumption) (by assumption) ?_ ?_ (by exact fun _ hp => nomatch hp) (by k_extra "turn map") | refine TurnEnd.cont (_, _, _) (by assumption) (by assumption) ?_ ?_ (by exact fun _ hp => nomatch hp) (by k_extra "turn map"))
  first | walk1 | exact True.intro
section
def Stop (P : Prop) : Prop := P
theorem Stop.intro {P : Prop} (h : Stop P) : P := h
theorem Stop.of {P : Prop} (h : P) : Stop P := h

def LedOff (A B : List (Addr × Obj)) : Prop := ∀ p ∈ A, ∀ q ∈ B, q.1 ≠ p.1

/-- an end that is told apart -/
def CutEnd {α : Type} (Q : α → Shared → Prop) : α → Shared → Prop := Q
theorem cut_gen {α : Type} {M : Model} {A : Around} {m : Sem α} {Q : α → Shared → Prop} {E : Value → Shared → Prop} {s : Shared} (h : ∀ (Q9 : α → Shared → Prop), (∀ a s', Q a s' → Q9 a s') → wpAny M A m (CutEnd Q9) E s) : wpAny M A m Q E s := h Q fun _ _ h => h
theorem cut_genF {α : Type} {M : Model} {A : Around} {m : Sem α} {Q : α → Shared → Prop} {E : Value → Shared → Prop} {s : Shared} (h : ∀ (Q9 : α → Shared → Prop), (∀ a s', Q a s' → Q9 a s') → wpAny M A m (CutEnd Q9) (fun _ _ => False) s) : wpAny M A m Q E s := wpAny_mono (h Q fun _ _ h => h) (fun _ _ h => h) fun _ _ h => h.elim
theorem cut_in {α : Type} {Q Q9 : α → Shared → Prop} {a : α} {s' : Shared} (h : ∀ a s', Q a s' → Q9 a s') (hq : Q a s') : CutEnd Q9 a s' := h a s' hq
theorem cut_state {α : Type} {M : Model} {A : Around} {m : Sem α} {Q : α → Shared → Prop} {E : Value → Shared → Prop} {s : Shared} (R : α → Heap → Nat → Prop)
    (h1 : ∀ (Q9 : α → Shared → Prop), (∀ a h' tk', R a h' tk' → Q9 a { s with heap := h', toks := tk' }) → wpAny M A m (CutEnd Q9) E s)
    (h2 : ∀ (Q9 : α → Shared → Prop), (∀ a s', Q a s' → Q9 a s') → ∀ a h' tk', R a h' tk' → Q9 a { s with heap := h', toks := tk' }) : wpAny M A m Q E s :=
  h1 Q (h2 Q fun _ _ h => h)
theorem cut_stateF {α : Type} {M : Model} {A : Around} {m : Sem α} {Q : α → Shared → Prop} {E : Value → Shared → Prop} {s : Shared} {h₀ : Heap} {L : Addr} {mm : Str → Option Value} (_F : Fr h₀ L s.heap mm) (R : Heap → Addr → α → Heap → Nat → Prop)
    (h1 : ∀ (Q9 : α → Shared → Prop), (∀ a h' tk', R h₀ L a h' tk' → Q9 a { s with heap := h', toks := tk' }) → wpAny M A m (CutEnd Q9) E s)
    (h2 : ∀ (Q9 : α → Shared → Prop), (∀ a s', Q a s' → Q9 a s') → ∀ a h' tk', R h₀ L a h' tk' → Q9 a { s with heap := h', toks := tk' }) : wpAny M A m Q E s :=
  h1 Q (h2 Q fun _ _ h => h)
/-- what a turn hands on -/
def TurnEnd {σ : Type} (h₀ : Heap) (L : Addr) (x : Str) (stored : List Str) (m₀ : Str → Option Value) (Led : σ → List (Addr × Obj)) (ps : σ → List (Str × Value)) (P' : σ → Prop) (rest : List (Addr × Obj)) (s₁ : Shared) (Q : Flow → Shared → Prop) (f : Flow) (s₂ : Shared) : Prop :=
  match f with
  | .ret v => Q (.ret v) s₂
  | .brk => Q .next s₂
  | _ => ∃ c' h' tk' m', s₂ = { s₁ with heap := h', toks := tk' } ∧ P' c' ∧ LedOff (Led c') rest ∧ Fr h₀ L h' m' ∧ News h₀ L h' (Led c' ++ rest) ∧ (∀ p ∈ ps c', m' p.1 = some p.2) ∧ ∀ z, z ≠ x → (∀ p ∈ ps c', z ≠ p.1) → stored.contains z = false → m' z = m₀ z

section
variable {prog : Program} {w : World} {A : Around} {E : Value → Shared → Prop} {s : Shared} {env : Env} {h₀ : Heap} {x : Str} {body : List Stmt} {Q : Flow → Shared → Prop}

def LoopJ {σ : Type} (Led : σ → List (Addr × Obj)) (ps : σ → List (Str × Value)) (stored : List Str) (x : Str) (m₀ : Str → Option Value) (P : Nat → σ → Prop) (news : List (Addr × Obj)) (i : Nat) (m : Str → Option Value) (nx : List (Addr × Obj)) : Prop :=
  ∃ c, nx = Led c ++ news ∧ LedOff (Led c) news ∧ P i c ∧ (∀ p ∈ ps c, m p.1 = some p.2) ∧ ∀ z, z ≠ x → (∀ p ∈ ps c, z ≠ p.1) → stored.contains z = false → m z = m₀ z

theorem turn_up {σ : Type} {Led : σ → List (Addr × Obj)} {ps : σ → List (Str × Value)} {stored : List Str} {m₀ : Str → Option Value} {P : Nat → σ → Prop} {news own : List (Addr × Obj)} {i : Nat} {s₁ s₂ : Shared} {L : Addr} {f : Flow}
    (hno : OwnOff own (news.map (·.1)))
    (h : TurnEnd h₀ L x stored m₀ Led ps (P i) (news ++ own) s₁ Q f s₂) : InvPostG h₀ L (LoopJ Led ps stored x m₀ P news i) own s₁ Q f s₂ := by
  have go : (∃ c' h' tk' m', s₂ = { s₁ with heap := h', toks := tk' } ∧ P i c' ∧ LedOff (Led c') (news ++ own) ∧ Fr h₀ L h' m' ∧ News h₀ L h' (Led c' ++ (news ++ own)) ∧ (∀ p ∈ ps c', m' p.1 = some p.2) ∧ ∀ z, z ≠ x → (∀ p ∈ ps c', z ≠ p.1) → stored.contains z = false → m' z = m₀ z) →
      InvEndG h₀ L (LoopJ Led ps stored x m₀ P news i) own s₁ s₂ := by
    rintro ⟨c, h', tk, m', rfl, hP, ho, F, N, h1, h2⟩
    refine ⟨h', tk, m', Led c ++ (news ++ own), Led c ++ news, rfl, F, N, ?_, ?_, ?_, c, rfl, ?_, hP, h1, h2⟩
    · intro p hp
      rcases List.mem_append.mp hp with hp | hp
      · exact List.mem_append_left _ hp
      · exact List.mem_append_right _ (List.mem_append_left _ hp)
    · exact fun p hp => List.mem_append_right _ (List.mem_append_right _ hp)
    · intro p hp b hb
      obtain ⟨q, hq, rfl⟩ := List.mem_map.mp hb
      rcases List.mem_append.mp hq with hq | hq
      · exact ho q hq p (List.mem_append_right _ hp)
      · exact hno p hp q.1 (List.mem_map.mpr ⟨q, hq, rfl⟩)
    · exact fun p hp q hq => ho p hp q (List.mem_append_left _ hq)
  cases f with
  | ret v => exact h
  | brk => exact h
  | next => exact go h
  | cont => exact go h

theorem off_own {Led news own : List (Addr × Obj)} (h1 : LedOff Led news) (h2 : OwnOff own ((Led ++ news).map (·.1))) : LedOff Led (news ++ own) ∧ OwnOff own (news.map (·.1)) := by
  refine ⟨fun p hp q hq => ?_, fun p hp b hb => h2 p hp b ?_⟩
  · rcases List.mem_append.mp hq with hq | hq
    · exact h1 p hp q hq
    · exact h2 q hq p.1 (List.mem_map.mpr ⟨p, List.mem_append_left _ hp, rfl⟩)
  · obtain ⟨q, hq, rfl⟩ := List.mem_map.mp hb
    exact List.mem_map.mpr ⟨q, List.mem_append_right _ hq, rfl⟩

theorem for_list {σ : Type} {l : Addr} {vs : List Value} {nn : Nat} {m₀ : Str → Option Value} {news : List (Addr × Obj)} (Led : σ → List (Addr × Obj)) (ps : σ → List (Str × Value)) (stored : List Str) (P : Nat → σ → Prop) (c₀ : σ)
    (hh : A.handled = none) (hl : (l, listOf vs.toArray nn) ∈ news) (F : Fr h₀ env.locals s.heap m₀) (N : News h₀ env.locals s.heap (Led c₀ ++ news)) (hoff : LedOff (Led c₀) news) (hk : ∀ p ∈ ps c₀, m₀ p.1 = some p.2) (hp : P 0 c₀)
    (turn : ∀ i v c (u : Str → Option Value) rest h tk, vs[i]? = some v → P i c → (∀ p ∈ news, p ∈ rest) → LedOff (Led c) rest → Fr h₀ env.locals h (fun y => if y = x then some v else kstB (fun z => if stored.contains z then u z else m₀ z) (ps c) y) → News h₀ env.locals h (Led c ++ rest) →
      ∀ (Q9 : Flow → Shared → Prop), (∀ f s', TurnEnd h₀ env.locals x stored m₀ Led ps (P (i + 1)) rest { s with heap := h, toks := tk } Q f s' → Q9 f s') → wpAny (model prog w) A (execs body env) (CutEnd Q9) E { s with heap := h, toks := tk })
    (done : ∀ c (u : Str → Option Value) h tk, P vs.length c → LedOff (Led c) news → Fr h₀ env.locals h (fun y => if y = x then u y else kstB (fun z => if stored.contains z then u z else m₀ z) (ps c) y) → News h₀ env.locals h (Led c ++ news) → Q .next { s with heap := h, toks := tk }) :
    wpAny (model prog w) A (pyIter (.ref l)) (fun it s₂ => LoopAtV prog w A h₀ env x body Q E it s₂) E s := by
  refine kdl_iter (vs := vs) (nn := nn) (LoopJ Led ps stored x m₀ P news) hh (List.mem_append_right _ hl) F N ⟨c₀, rfl, hoff, hp, hk, fun _ _ _ _ => rfl⟩ ?_ ?_
  · rintro i v m₁ nx h tk own hv ho _ ⟨c, rfl, hof, hP, h1, h2⟩ F₁ N₁
    obtain ⟨o1, o2⟩ := off_own hof ho
    rw [List.append_assoc] at N₁
    refine wpAny_mono (turn i v c m₁ (news ++ own) h tk hv hP (fun p hp => List.mem_append_left _ hp) o1 (kst_fr h1 h2 F₁) N₁ _ fun _ _ h => h) (fun f s₂ hq => ?_) fun _ _ e => e
    have up := turn_up (P := P) (i := i + 1) o2 hq
    cases f with
    | ret v => exact up
    | brk => exact up
    | next =>
      obtain ⟨h', tk', m', news', nx, e, F', N', hn, ho', ha, hm⟩ := up
      refine ⟨h', tk', m', news', nx, e, F', N', hn, ho', ha, ?_, hm⟩
      obtain ⟨c', rfl, _⟩ := hm
      exact List.mem_append_right _ hl
    | cont =>
      obtain ⟨h', tk', m', news', nx, e, F', N', hn, ho', ha, hm⟩ := up
      refine ⟨h', tk', m', news', nx, e, F', N', hn, ho', ha, ?_, hm⟩
      obtain ⟨c', rfl, _⟩ := hm
      exact List.mem_append_right _ hl
  · rintro m₁ nx h tk ⟨c, rfl, hof, hP, h1, h2⟩ F₁ N₁
    exact done c m₁ h tk hP hof (kst_frOut h1 h2 F₁) N₁

theorem for_range {σ : Type} {r : Addr} {a b st : Int} {t₀ u₀ v₀ : Tok} {n : Nat} {m₀ : Str → Option Value} {news : List (Addr × Obj)} (Led : σ → List (Addr × Obj)) (ps : σ → List (Str × Value)) (stored : List Str) (P : Nat → σ → Prop) (c₀ : σ)
    (hh : A.handled = none) (hr : IsRange s.heap r a b st t₀ u₀ v₀) (hsmall : Builtin.Range.small a b st = true) (hsz : Builtin.Range.rangeSize a b st = (n : Int)) (F : Fr h₀ env.locals s.heap m₀) (N : News h₀ env.locals s.heap (Led c₀ ++ news)) (hoff : LedOff (Led c₀) news) (hk : ∀ p ∈ ps c₀, m₀ p.1 = some p.2) (hp : P 0 c₀)
    (turn : ∀ (i : Nat) (k : Int) t c (u : Str → Option Value) rest h tk, i < n → k = a + (i : Int) * st → P i c → (∀ p ∈ news, p ∈ rest) → LedOff (Led c) rest → Fr h₀ env.locals h (fun y => if y = x then some (.int k t) else kstB (fun z => if stored.contains z then u z else m₀ z) (ps c) y) → News h₀ env.locals h (Led c ++ rest) →
      ∀ (Q9 : Flow → Shared → Prop), (∀ f s', TurnEnd h₀ env.locals x stored m₀ Led ps (P (i + 1)) rest { s with heap := h, toks := tk } Q f s' → Q9 f s') → wpAny (model prog w) A (execs body env) (CutEnd Q9) E { s with heap := h, toks := tk })
    (done : ∀ c (u : Str → Option Value) h tk, P n c → LedOff (Led c) news → Fr h₀ env.locals h (fun y => if y = x then u y else kstB (fun z => if stored.contains z then u z else m₀ z) (ps c) y) → News h₀ env.locals h (Led c ++ news) → Q .next { s with heap := h, toks := tk }) :
    wpAny (model prog w) A (pyIter (.ref r)) (fun it s₂ => LoopAtV prog w A h₀ env x body Q E it s₂) E s := by
  refine wpAny_pyIter_range hr hsmall ?_
  have W : Walks prog w A s.heap.objs.size [s.heap.objs.size] [s.heap.objs.size] n (fun i v => i < n ∧ ∃ t, v = .int (a + i * st) t)
      (fun i h => IsRangeIter h s.heap.objs.size (a + (i : Nat) * st) ((n : Int) - (i : Nat)) st) := (Walks.range hh _ a st n).bound
  refine kdr_loop (LoopJ Led ps stored x m₀ P news) W (fun _ h => h) (fun _ h => h) ?_ ?_ ?_ ?_ (by show IsRangeIter _ _ _ _ _; rw [hsz]; simpa using Heap.get?_push_size _ rfl) (F.push _) (fun p hp => ⟨Heap.get?_push_of_some _ (N p hp).1, (N p hp).2⟩) ⟨c₀, rfl, hoff, hp, hk, fun _ _ _ _ => rfl⟩ ?_ ?_
  · intro i h hi b hb
    rw [List.mem_singleton.mp hb]
    exact ⟨_, hi⟩
  · intro hm
    exact absurd F.ns.lt ((List.mem_singleton.mp hm) ▸ Nat.lt_irrefl _)
  · intro b hb
    rw [List.mem_singleton.mp hb]
    exact next_is_new F
  · intro p hp hI
    exact absurd (Heap.lt_size (N p hp).1) ((List.mem_singleton.mp hI) ▸ Nat.lt_irrefl _)
  · rintro i v m₁ nx h tk own hi ⟨_, t, rfl⟩ ho ⟨c, rfl, hof, hP, h1, h2⟩ F₁ N₁
    obtain ⟨o1, o2⟩ := off_own hof ho
    rw [List.append_assoc] at N₁
    exact wpAny_mono (turn i _ t c m₁ (news ++ own) h tk hi rfl hP (fun p hp => List.mem_append_left _ hp) o1 (kst_fr h1 h2 F₁) N₁ _ fun _ _ h => h) (fun f s₂ hq => turn_up (P := P) (i := i + 1) o2 hq) fun _ _ e => e
  · rintro m₁ nx h tk ⟨c, rfl, hof, hP, h1, h2⟩ F₁ N₁
    exact done c m₁ h tk hP hof (kst_frOut h1 h2 F₁) N₁
end

end
theorem anew1 : True := by
  w_top off
  k_with_none
  k_with "gen" => (refine cut_genF ?_; intro q9 hq9)
  k_with "CutEnd" => (refine cut_in (by assumption) ?_)
  k_with "allLt" => (first | assumption | (rename _ ∧ _ => h9; obtain ⟨h91, h92⟩ := h9; k_extra "allLt"))
  k_with "call builtin:len" => (k_here; (with_reducible show wpAny _ _ (call (Value.builtin "len") [Value.ref _]) _ _ _); k_dflt (refine' len_led (by first | (k_asm) | fail) (by first | (k_mem) | fail) (by first | (omega) | fail) ?_; k_whole))
  k_with "exec For" => (k_here; (rename Fr _ _ _ _ => lF'); (with_unfolding_all refine' For_invVF lF' (by first | (k_dflt (exact rfl)) | fail) (by first | (k_dflt (exact rfl)) | fail) ?_; k_whole))
  k_with "exec For Name Attribute cons nil" => (walk_at "exec For")
  k_with "exec For Name Name cons nil" => (walk_at "exec For")
  k_with "exec For Name Call cons nil" => (walk_at "exec For")
  k_with "room" => (first | omega | (dsimp only [ktrTop, Around.deeper, Around.in1] at *; omega))
  k_with "enter" => (refine wpAny_call ?_; k_dflt cell_enter; (try generalize List.length (List.filterMap _ _) = ln9); k_extra "gen")
  k_with "getAttr ref" => (k_here; k_dflt (refine' get_own (by first | (k_asm) | fail) (by first | (k_asm) | fail) (by first | (k_inst) | fail) (by first | (k_is) | fail) (by first | (k_is) | fail) (by first | (k_is) | fail) (by first | (k_is) | fail) (by first | (assumption) | fail) (by first | (rfl) | fail) ?_; k_whole))
  k_with "small" => (first | omega | (simp only [List.length_append, List.length_cons, List.length_nil]; omega))
  k_with "call builtin:list.append" => (k_here; (with_reducible show wpAny _ _ (call (Value.builtin _) [Value.ref _, _]) _ _ _); k_dflt (refine' append_led (by first | (k_asm) | fail) (by first | (k_asm) | fail) (by first | (k_upd) | fail) (by first | (k_extra "small") | fail) ?_; k_whole); intro h' F' N'; (try k_sweep))
  k_with "turn map" => (intro z hz hp9 hs; (try dsimp only [kstB]); first | (simp only [hz, hs, if_false, Bool.false_eq_true]; done) | (have hz2 := hp9 _ (.head _); dsimp only at hz2; simp only [hz, hz2, hs, if_false, Bool.false_eq_true]; done) | (have hz2 := hp9 _ (.head _); have hz3 := hp9 _ (.tail _ (.head _)); dsimp only at hz2 hz3; simp only [hz, hz2, hz3, hs, if_false, Bool.false_eq_true]; done) | (have hs2 := hs; simp only [List.contains_cons, List.contains_nil, Bool.or_false, Bool.or_eq_false_iff, beq_eq_false_iff_ne, ne_eq] at hs2; simp only [hz, hs, hs2, if_false, Bool.false_eq_true]; done) | (have hz2 := hp9 _ (.head _); dsimp only at hz2; have hs2 := hs; simp only [List.contains_cons, List.contains_nil, Bool.or_false, Bool.or_eq_false_iff, beq_eq_false_iff_ne, ne_eq] at hs2; simp only [hz, hz2, hs, hs2, if_false, Bool.false_eq_true]))
  k_with "turn end 1" => (first | refine TurnEnd.next _ (by assumption) (by assumption) ?_ ?_ (by exact fun _ hp => nomatch hp) (by k_extra "turn map") | refine TurnEnd.cont _ (by assumption) (by assumption) ?_ ?_ (by exact fun _ hp => nomatch hp) (by k_extra "turn map"))
  k_with "turn end 2" => (first | refine TurnEnd.next (_, _) (by assumption) (by assumption) ?_ ?_ (by exact fun _ hp => nomatch hp) (by k_extra "turn map") | refine TurnEnd.cont (_, _) (by assumption) (by assumption) ?_ ?_ (by exact fun _ hp => nomatch hp) (by k_extra "turn map"))
  k_with "turn end 3" => (first | refine TurnEnd.next (_, _, _) (by assumption) (by assumption) ?_ ?_ (by exact fun _ hp => nomatch hp) (by k_extra "turn map") | refine TurnEnd.cont (_, _, _) (by assumption) (by assumption) ?_ ?_ (by exact fun _ hp => nomatch hp) (by k_extra "turn map"))
  first | walk1 | exact True.intro
section
/-- a lacking or a whole number; a lacking or a given text -/
def oi : Option Int → Dat
  | none => .none
  | some i => .int i
def os : Option Str → Dat
  | none => .none
  | some x => .str x
def OIs (vs : List Value) (ds : List (Option Int)) : Prop := DatAll [] vs (ds.map oi)
def OSs (vs : List Value) (ds : List (Option Str)) : Prop := DatAll [] vs (ds.map os)
theorem OIs.length {vs : List Value} {ds : List (Option Int)} (h : OIs vs ds) : vs.length = ds.length := by
  have := DatAll.length h; simpa using this
theorem OSs.length {vs : List Value} {ds : List (Option Str)} (h : OSs vs ds) : vs.length = ds.length := by
  have := DatAll.length h; simpa using this
theorem OIs.nil : OIs [] [] := DatAll.nil
theorem OSs.nil : OSs [] [] := DatAll.nil
inductive OIv : Value → Option Int → Prop
  | none : OIv .none none
  | some (i : Int) (t : Tok) : OIv (.int i t) (some i)
inductive OSv : Value → Option Str → Prop
  | none : OSv .none none
  | some (x : Str) (t : Tok) : OSv (.str x t) (some x)
theorem OIv.dat {v : Value} {d : Option Int} (h : OIv v d) : DatIn [] v (oi d) := by
  cases h with
  | none => exact .none
  | some i t => exact .int i t
theorem OSv.dat {v : Value} {d : Option Str} (h : OSv v d) : DatIn [] v (os d) := by
  cases h with
  | none => exact .none
  | some x t => exact .str x t
theorem OIv.of {v : Value} {d : Option Int} (h : DatIn [] v (oi d)) : OIv v d := by
  cases d with
  | none => cases h; exact .none
  | some i => cases h; exact .some _ _
theorem OSv.of {v : Value} {d : Option Str} (h : DatIn [] v (os d)) : OSv v d := by
  cases d with
  | none => cases h; exact .none
  | some i => cases h; exact .some _ _
theorem OIs.get {vs : List Value} {ds : List (Option Int)} (h : OIs vs ds) {i : Nat} {v : Value} (hv : vs[i]? = some v) : ∃ d, ds[i]? = some d ∧ OIv v d := by
  have hl := h.length
  have hi : i < ds.length := by rw [← hl]; exact (List.getElem?_eq_some_iff.mp hv).1
  obtain ⟨v', hv', hD⟩ := DatAll.get h (k := i) (by rw [List.length_map]; exact hi)
  rw [hv] at hv'; cases hv'
  rw [List.getElem_map] at hD
  exact ⟨ds[i], List.getElem?_eq_getElem hi, .of hD⟩
theorem OSs.get {vs : List Value} {ds : List (Option Str)} (h : OSs vs ds) {i : Nat} {v : Value} (hv : vs[i]? = some v) : ∃ d, ds[i]? = some d ∧ OSv v d := by
  have hl := h.length
  have hi : i < ds.length := by rw [← hl]; exact (List.getElem?_eq_some_iff.mp hv).1
  obtain ⟨v', hv', hD⟩ := DatAll.get h (k := i) (by rw [List.length_map]; exact hi)
  rw [hv] at hv'; cases hv'
  rw [List.getElem_map] at hD
  exact ⟨ds[i], List.getElem?_eq_getElem hi, .of hD⟩
theorem OIs.at {vs : List Value} {ds : List (Option Int)} (h : OIs vs ds) {i : Nat} (hi : i < ds.length) : ∃ v, vs[i]? = some v ∧ OIv v ds[i] := by
  obtain ⟨v', hv', hD⟩ := DatAll.get h (k := i) (by rw [List.length_map]; exact hi)
  rw [List.getElem_map] at hD
  exact ⟨v', hv', .of hD⟩
theorem OSs.at {vs : List Value} {ds : List (Option Str)} (h : OSs vs ds) {i : Nat} (hi : i < ds.length) : ∃ v, vs[i]? = some v ∧ OSv v ds[i] := by
  obtain ⟨v', hv', hD⟩ := DatAll.get h (k := i) (by rw [List.length_map]; exact hi)
  rw [List.getElem_map] at hD
  exact ⟨v', hv', .of hD⟩
theorem OIs.snoc {vs : List Value} {ds : List (Option Int)} {v : Value} {d : Option Int} (h : OIs vs ds) (hv : OIv v d) : OIs (vs ++ [v]) (ds ++ [d]) := by
  unfold OIs at *; rw [List.map_append]; exact DatAll.append h (.cons hv.dat .nil)
theorem OSs.snoc {vs : List Value} {ds : List (Option Str)} {v : Value} {d : Option Str} (h : OSs vs ds) (hv : OSv v d) : OSs (vs ++ [v]) (ds ++ [d]) := by
  unfold OSs at *; rw [List.map_append]; exact DatAll.append h (.cons hv.dat .nil)
theorem OIs.cons {vs : List Value} {ds : List (Option Int)} {v : Value} {d : Option Int} (hv : OIv v d) (h : OIs vs ds) : OIs (v :: vs) (d :: ds) := DatAll.cons hv.dat h
theorem OSs.cons {vs : List Value} {ds : List (Option Str)} {v : Value} {d : Option Str} (hv : OSv v d) (h : OSs vs ds) : OSs (v :: vs) (d :: ds) := DatAll.cons hv.dat h
theorem OIs.append {vs ws : List Value} {ds es : List (Option Int)} (h : OIs vs ds) (k : OIs ws es) : OIs (vs ++ ws) (ds ++ es) := by
  unfold OIs at *; rw [List.map_append]; exact DatAll.append h k

abbrev tupO (vs : List Value) (n : Nat) : Obj := { cls := .type "tuple", data := .seq vs.toArray n }

theorem allLt_ne {d : Addr} {l : List (Addr × Obj)} (h : AllLt d l) : ∀ p ∈ l, p.1 ≠ d := by
  induction l with
  | nil => intro p hp; cases hp
  | cons q r ih =>
    intro p hp
    rcases List.mem_cons.mp hp with rfl | hp
    · exact Nat.ne_of_lt h.1
    · exact ih h.2 p hp
theorem off_lt {d : Addr} {l : List (Addr × Obj)} (h : ∀ p ∈ l, p.1 < d) : ∀ p ∈ l, p.1 ≠ d := fun p hp => Nat.ne_of_lt (h p hp)
theorem allLt_all {d : Addr} {l : List (Addr × Obj)} (h : AllLt d l) : ∀ p ∈ l, p.1 < d := by
  induction l with
  | nil => intro p hp; cases hp
  | cons q r ih =>
    intro p hp
    rcases List.mem_cons.mp hp with rfl | hp
    · exact h.1
    · exact ih h.2 p hp
theorem news_sub {h₀ h : Heap} {L : Addr} {l l' : List (Addr × Obj)} (N : News h₀ L h l) (hs : ∀ p ∈ l', p ∈ l) : News h₀ L h l' := fun p hp => N p (hs p hp)

section
variable {prog : Program} {w : World} {A : Around} {E : Value → Shared → Prop} {s : Shared} {h₀ : Heap} {L l : Addr} {news : List (Addr × Obj)} {us : List Value} {n : Nat} {Q : Value → Shared → Prop}
theorem len_led (N : News h₀ L s.heap news) (hm : (l, listOf us.toArray n) ∈ news) (hfit : us.length < 2 ^ 62)
    (h : Q (.int (us.length : Int) (s.toks + 1)) { s with toks := s.toks + 1 + 1 }) : wpAny (model prog w) A (call (.builtin "len") [.ref l]) Q E s := by
  have hl : s.heap.IsList l us.toArray := ⟨_, (N _ hm).1, rfl, n, rfl⟩
  have e : us.toArray.size = us.length := by rw [List.size_toArray]
  exact len_list hl (by rw [e]; omega) (by rw [e]; exact h)
theorem item_led {value slice : PySem.Expr} {k : Int} {u : Tok} {v : Value} (N : News h₀ L s.heap news) (hm : (l, listOf us.toArray n) ∈ news)
    (h0 : 0 ≤ k) (hfit : k < 2 ^ 62) (hv : us[k.toNat]? = some v) (h : Q v s)
    (hs : subscripted slice false (.ref l) (.int k u) = operate [.ref l, .int k u] (getItem (.ref l) (.int k u)) := by with_unfolding_all rfl) :
    wpAny (model prog w) A (subscriptTail value slice (.ref l) (.int k u)) Q E s := by
  have hl : s.heap.IsList l us.toArray := ⟨_, (N _ hm).1, rfl, n, rfl⟩
  exact tail_any hl.typeIs slot_list_getitem.lookup (wpAny_getItem_list hl h0 (by omega) (by simpa using hv) h) hs
theorem item_tup {value slice : PySem.Expr} {k : Int} {u : Tok} {v : Value} (N : News h₀ L s.heap news) (hm : (l, tupO us n) ∈ news)
    (h0 : 0 ≤ k) (hfit : k < 2 ^ 62) (hv : us[k.toNat]? = some v) (h : Q v s)
    (hs : subscripted slice false (.ref l) (.int k u) = operate [.ref l, .int k u] (getItem (.ref l) (.int k u)) := by with_unfolding_all rfl) :
    wpAny (model prog w) A (subscriptTail value slice (.ref l) (.int k u)) Q E s := by
  have hlt : k.toNat < us.length := (List.getElem?_eq_some_iff.mp hv).1
  refine item_tupleT (l := us) (News.isTup N hm) (by omega) (by omega) (j := k.toNat) ?_ hv h hs
  unfold seqIndex?
  simp only [show ¬ k < 0 by omega, if_false]
  simp; omega
theorem ints_at {vs : List Value} {ns : List Int} (h : IntsAre vs ns) {i : Nat} (hi : i < ns.length) : ∃ k t, k ∈ ns ∧ vs[i]? = some (.int k t) := by
  obtain ⟨t, e⟩ := h.get i ns[i] (List.getElem?_eq_getElem hi)
  exact ⟨_, t, List.getElem_mem hi, e⟩
theorem item_ints {value slice : PySem.Expr} {ns : List Int} {k : Int} {u : Tok} (N : News h₀ L s.heap news) (hm : (l, listOf us.toArray n) ∈ news) (hi : IntsAre us ns)
    (h0 : 0 ≤ k) (h1 : k < ns.length) (hfit : k < 2 ^ 62) (h : ∀ c t, c ∈ ns → Q (.int c t) s)
    (hs : subscripted slice false (.ref l) (.int k u) = operate [.ref l, .int k u] (getItem (.ref l) (.int k u)) := by with_unfolding_all rfl) :
    wpAny (model prog w) A (subscriptTail value slice (.ref l) (.int k u)) Q E s := by
  obtain ⟨c, t, hc, e⟩ := ints_at hi (i := k.toNat) (by omega)
  exact item_led N hm h0 hfit e (h c t hc) hs
theorem item_oi {value slice : PySem.Expr} {ds : List (Option Int)} {k : Int} {u : Tok} (N : News h₀ L s.heap news) (hm : (l, listOf us.toArray n) ∈ news) (hi : OIs us ds)
    (h0 : 0 ≤ k) (h1 : k < ds.length) (hfit : k < 2 ^ 62) (h : ∀ v d, ds[k.toNat]? = some d → OIv v d → Q v s)
    (hs : subscripted slice false (.ref l) (.int k u) = operate [.ref l, .int k u] (getItem (.ref l) (.int k u)) := by with_unfolding_all rfl) :
    wpAny (model prog w) A (subscriptTail value slice (.ref l) (.int k u)) Q E s := by
  obtain ⟨v, e, hv⟩ := hi.at (i := k.toNat) (by omega)
  exact item_led N hm h0 hfit e (h v _ (List.getElem?_eq_getElem (by omega)) hv) hs
theorem item_os {value slice : PySem.Expr} {ds : List (Option Str)} {k : Int} {u : Tok} (N : News h₀ L s.heap news) (hm : (l, listOf us.toArray n) ∈ news) (hi : OSs us ds)
    (h0 : 0 ≤ k) (h1 : k < ds.length) (hfit : k < 2 ^ 62) (h : ∀ v d, ds[k.toNat]? = some d → OSv v d → Q v s)
    (hs : subscripted slice false (.ref l) (.int k u) = operate [.ref l, .int k u] (getItem (.ref l) (.int k u)) := by with_unfolding_all rfl) :
    wpAny (model prog w) A (subscriptTail value slice (.ref l) (.int k u)) Q E s := by
  obtain ⟨v, e, hv⟩ := hi.at (i := k.toNat) (by omega)
  exact item_led N hm h0 hfit e (h v _ (List.getElem?_eq_getElem (by omega)) hv) hs
end
theorem fmod_in (a : Int) {b : Int} (h : 0 < b) : 0 ≤ Int.fmod a b ∧ Int.fmod a b < b := ⟨fmod_lo a h, fmod_hi a h⟩
theorem fdiv_nonneg' {a b : Int} (ha : 0 ≤ a) (hb : 0 ≤ b) : 0 ≤ Int.fdiv a b := Int.fdiv_nonneg ha hb
theorem retI {Q : Value → Shared → Prop} {x y : Int} {t : Tok} {s' : Shared} (h : Q (.int x t) s') (e : y = x) : Q (.int y t) s' := by subst e; exact h
theorem retB {Q : Value → Shared → Prop} {x y : Bool} {s' : Shared} (h : Q (.bool x) s') (e : y = x) : Q (.bool y) s' := by subst e; exact h
/-- items of a double's list: lacking ones and pairs -/
def Fracs (news : List (Addr × Obj)) (vs : List Value) (ds : List (Option (Int × Int))) : Prop :=
  vs.length = ds.length ∧ ∀ (i : Nat) (v : Value), vs[i]? = some v → (ds[i]? = some none ∧ v = Value.none) ∨ ∃ (p q : Int) (a : Addr) (tp tq : Tok) (n : Nat), ds[i]? = some (some (p, q)) ∧ v = Value.ref a ∧ (a, tupO [.int p tp, .int q tq] n) ∈ news ∧ 0 < q ∧ q < 1000
theorem take_snoc {α : Type} {l : List α} {i : Nat} {x : α} (h : l[i]? = some x) : l.take (i + 1) = l.take i ++ [x] := by rw [List.take_add_one, h]; rfl
theorem take_all {α β : Type} {l : List α} {k : List β} (h : k.length = l.length) : l.take k.length = l := by rw [h, List.take_length]
/-- a fraction toward nothing -/
def toWhole (p q : Int) : Int := if 0 ≤ p then Int.fdiv (if p < 0 then -p else p) q else 0 - Int.fdiv (if p < 0 then -p else p) q
def wholeOf : Option (Int × Int) → Option Int
  | none => none
  | some (p, q) => some (toWhole p q)
theorem ledOff1 {a : Addr} {o : Obj} {rest : List (Addr × Obj)} (h : ∀ q ∈ rest, q.1 ≠ a) : LedOff [(a, o)] rest := fun p hp q hq => by rw [List.mem_singleton.mp hp]; exact h q hq
theorem TurnEnd.next {σ : Type} {h₀ : Heap} {L : Addr} {x : Str} {stored : List Str} {m₀ : Str → Option Value} {Led : σ → List (Addr × Obj)} {ps : σ → List (Str × Value)} {P' : σ → Prop} {rest : List (Addr × Obj)} {s₁ : Shared} {Q : Flow → Shared → Prop} (c' : σ) {h' : Heap} {tk' : Nat} {m' : Str → Option Value}
    (F : Fr h₀ L h' m') (N : News h₀ L h' (Led c' ++ rest)) (hP : P' c') (off : LedOff (Led c') rest) (hps : ∀ p ∈ ps c', m' p.1 = some p.2) (hm : ∀ z, z ≠ x → (∀ p ∈ ps c', z ≠ p.1) → stored.contains z = false → m' z = m₀ z) :
    TurnEnd h₀ L x stored m₀ Led ps P' rest s₁ Q .next { s₁ with heap := h', toks := tk' } := ⟨c', h', tk', m', rfl, hP, off, F, N, hps, hm⟩
theorem TurnEnd.cont {σ : Type} {h₀ : Heap} {L : Addr} {x : Str} {stored : List Str} {m₀ : Str → Option Value} {Led : σ → List (Addr × Obj)} {ps : σ → List (Str × Value)} {P' : σ → Prop} {rest : List (Addr × Obj)} {s₁ : Shared} {Q : Flow → Shared → Prop} (c' : σ) {h' : Heap} {tk' : Nat} {m' : Str → Option Value}
    (F : Fr h₀ L h' m') (N : News h₀ L h' (Led c' ++ rest)) (hP : P' c') (off : LedOff (Led c') rest) (hps : ∀ p ∈ ps c', m' p.1 = some p.2) (hm : ∀ z, z ≠ x → (∀ p ∈ ps c', z ≠ p.1) → stored.contains z = false → m' z = m₀ z) :
    TurnEnd h₀ L x stored m₀ Led ps P' rest s₁ Q .cont { s₁ with heap := h', toks := tk' } := ⟨c', h', tk', m', rfl, hP, off, F, N, hps, hm⟩
theorem append_led {prog : Program} {w : World} {A : Around} {E : Value → Shared → Prop} {s : Shared} {h₀ : Heap} {L D : Addr} {m : Str → Option Value} {news news' : List (Addr × Obj)} {us : List Value} {n : Nat} {x : Value} {Q : Value → Shared → Prop} (F : Fr h₀ L s.heap m) (N : News h₀ L s.heap news)
    (U : Upd D (listOf us.toArray n) (listOf (us ++ [x]).toArray (n + 1)) news news') (hz : us.length < 1000000) (h : ∀ h', Fr h₀ L h' m → News h₀ L h' news' → Q .none { s with heap := h' }) :
    wpAny (model prog w) A (call (.builtin "list.append") [.ref D, x]) Q E s :=
  append_K (its := us.toArray) (n := n) (x := x) (news' := news') F N (by rw [List.push_toArray]; exact U) h (by rw [List.size_toArray, sizeLine_eq]; omega)
theorem fmod_nat (i n : Nat) : Int.fmod (i : Int) (n : Int) = ((i % n : Nat) : Int) := by
  rw [Int.fmod_eq_emod_of_nonneg _ (Int.natCast_nonneg n)]; rfl
def logicalTurn (ds : List (Option Int)) (i : Nat) : List (Option Int) := match ds[i % ds.length]? with
  | some none => [none]
  | some (some k) => if k = 0 then [] else [some (i : Int)]
  | none => []
def logicalPlaces (ds : List (Option Int)) (n : Nat) : List (Option Int) := if ds.length = 0 then [] else (List.range (max n ds.length)).flatMap (logicalTurn ds)
theorem flat_range_succ {α : Type} (f : Nat → List α) (i : Nat) : (List.range (i + 1)).flatMap f = (List.range i).flatMap f ++ f i := by
  rw [List.range_succ, List.flatMap_append]; simp
theorem flat_len {α : Type} (f : Nat → List α) (h : ∀ i, (f i).length ≤ 1) (n : Nat) : ((List.range n).flatMap f).length ≤ n := by
  induction n with
  | zero => simp
  | succ n ih => rw [flat_range_succ, List.length_append]; have := h n; omega
theorem logicalTurn_len (ds : List (Option Int)) (i : Nat) : (logicalTurn ds i).length ≤ 1 := by
  unfold logicalTurn; split <;> (try split) <;> simp
theorem size_range (n : Nat) : Builtin.Range.rangeSize 0 (n : Int) 1 = (n : Int) := by rw [rangeSize_nat]; omega
theorem small_range {n : Nat} (h : n < 1000000) : Builtin.Range.small 0 (n : Int) 1 = true := small_one (by omega) (by omega) (by omega) (by omega)
theorem off_lt1 {d : Addr} {l : List (Addr × Obj)} (h : ∀ p ∈ l, p.1 < d) : ∀ p ∈ l, p.1 ≠ d + 1 := fun p hp => Nat.ne_of_lt (Nat.lt_succ_of_lt (h p hp))
theorem off_lt2 {d : Addr} {l : List (Addr × Obj)} (h : ∀ p ∈ l, p.1 < d) : ∀ p ∈ l, p.1 ≠ d + 2 := fun p hp => Nat.ne_of_lt (Nat.lt_succ_of_lt (Nat.lt_succ_of_lt (h p hp)))
theorem off_lt3 {d : Addr} {l : List (Addr × Obj)} (h : ∀ p ∈ l, p.1 < d) : ∀ p ∈ l, p.1 ≠ d + 3 := fun p hp => Nat.ne_of_lt (Nat.lt_succ_of_lt (Nat.lt_succ_of_lt (Nat.lt_succ_of_lt (h p hp))))
theorem valueAt_stored {K : Type} [DecidableEq K] (kvs : List (K × Value)) (k k' : K) (v : Value) : valueAt (stored kvs k v) k' = if k' = k then some v else valueAt kvs k' := by
  have hmap : ∀ l : List (K × Value), valueAt (l.map fun kv => if kv.1 = k then (kv.1, v) else kv) k' = if k' = k then (if l.any (fun kv => kv.1 = k) then some v else none) else valueAt l k' := by
    intro l
    induction l with
    | nil => simp [valueAt]
    | cons p r ih =>
      simp only [valueAt, List.map_cons, List.find?_cons, List.any_cons] at ih ⊢
      by_cases h1 : p.1 = k
      · by_cases h2 : k' = k
        · subst h2; simp [h1]
        · have h3 : ¬ p.1 = k' := fun e => h2 (e.symm.trans h1)
          have h4 : ¬ k = k' := fun e => h2 e.symm
          simp only [h1, if_true, h4, decide_false] at ih ⊢
          rw [if_neg h2] at ih ⊢
          exact ih
      · rw [if_neg h1]
        by_cases h3 : p.1 = k'
        · have h2 : ¬ k' = k := fun e => h1 (h3.trans e)
          simp [h3, h2]
        · simp only [h3, decide_false, h1, Bool.false_or]
          exact ih
  unfold stored
  by_cases ha : (kvs.any fun kv => kv.1 = k) = true
  · rw [if_pos ha, hmap, if_pos ha]
  · rw [if_neg ha]
    unfold valueAt
    rw [List.find?_append]
    by_cases h2 : k' = k
    · subst h2
      rw [if_pos rfl]
      have hn : kvs.find? (fun kv => decide (kv.1 = k')) = none := by
        rw [List.find?_eq_none]
        intro x hx hc
        exact ha (List.any_eq_true.mpr ⟨x, hx, hc⟩)
      rw [hn]; simp
    · rw [if_neg h2]
      have h3 : ¬ k = k' := fun e => h2 e.symm
      simp [h3]
/-- a dict's keys are just these -/
def SetIs (kvs : List (Int × Value)) (ks : List Int) : Prop := (∀ k, (valueAt kvs k).isSome = decide (k ∈ ks)) ∧ (kvs.length = 0 ↔ ks = []) ∧ kvs.length ≤ ks.length
theorem SetIs.nil : SetIs [] [] := ⟨fun k => by simp [valueAt], by simp, by simp⟩
theorem stored_pos {K : Type} [DecidableEq K] (kvs : List (K × Value)) (k : K) (v : Value) : (stored kvs k v).length ≠ 0 := by
  unfold stored
  split
  · rename_i h
    intro e
    rw [List.length_map] at e
    rw [List.length_eq_zero_iff.mp e] at h
    simp at h
  · simp
theorem SetIs.put {kvs : List (Int × Value)} {ks : List Int} (h : SetIs kvs ks) (k : Int) (v : Value) : SetIs (stored kvs k v) (ks ++ [k]) := by
  refine ⟨fun k' => ?_, ⟨fun e => absurd e (stored_pos _ _ _), fun e => by simp at e⟩, ?_⟩
  · rw [valueAt_stored]
    by_cases e : k' = k
    · simp [e]
    · rw [if_neg e, h.1]; simp [e]
  · have := stored_length_le kvs k v
    have h2 := h.2.2
    simp only [List.length_append, List.length_cons, List.length_nil]
    omega
def placeOf : Option Int → List (Option Int)
  | none => [none]
  | some k => if 0 < k then [some (k - 1)] else []
def outOf : Option Int → List Int
  | none => []
  | some k => if k < 0 then [-k - 1] else []
def placesOf (ds : List (Option Int)) : List (Option Int) := ds.flatMap placeOf
def outsOf (ds : List (Option Int)) : List Int := ds.flatMap outOf
def wholePlaces (ds : List (Option Int)) (n : Nat) : List (Option Int) := if outsOf ds = [] then placesOf ds else (List.range n).flatMap fun (i : Nat) => if (i : Int) ∈ outsOf ds then [] else [some (i : Int)]
theorem flatMap_snoc {α β : Type} (f : α → List β) (l : List α) (x : α) : (l ++ [x]).flatMap f = l.flatMap f ++ f x := by rw [List.flatMap_append]; simp
theorem placeOf_len (d : Option Int) : (placeOf d).length ≤ 1 := by
  unfold placeOf; split <;> (try split) <;> simp
theorem outOf_len (d : Option Int) : (outOf d).length ≤ 1 := by
  unfold outOf; split <;> (try split) <;> simp
theorem flatMap_len {α β : Type} {f : α → List β} (h : ∀ x, (f x).length ≤ 1) (l : List α) : (l.flatMap f).length ≤ l.length := by
  induction l with
  | nil => simp
  | cons x r ih => rw [List.flatMap_cons, List.length_append, List.length_cons]; have := h x; omega
theorem take_le_flatMap {α β : Type} {f : α → List β} {l : List α} {i : Nat} (h : l.flatMap f = []) : (l.take i).flatMap f = [] := by
  have e : l.flatMap f = (l.take i).flatMap f ++ (l.drop i).flatMap f := by rw [← List.flatMap_append, List.take_append_drop]
  rw [e] at h
  exact (List.append_eq_nil_iff.mp h).1
/-- the state of whole_places' loop -/
structure WPSt where
  o : Obj
  kvs : List (Int × Value)
  vs : List Value
  n : Nat
  lacks : Bool
theorem ledOff2 {a b : Addr} {o o' : Obj} {rest : List (Addr × Obj)} (h : ∀ q ∈ rest, q.1 ≠ a) (h' : ∀ q ∈ rest, q.1 ≠ b) : LedOff [(a, o), (b, o')] rest := fun p hp q hq => by
  rcases List.mem_cons.mp hp with rfl | hp
  · exact h q hq
  · rw [List.mem_singleton.mp hp]; exact h' q hq
theorem ledOff3 {a b c : Addr} {o o' o'' : Obj} {rest : List (Addr × Obj)} (h : ∀ q ∈ rest, q.1 ≠ a) (h' : ∀ q ∈ rest, q.1 ≠ b) (h'' : ∀ q ∈ rest, q.1 ≠ c) : LedOff [(a, o), (b, o'), (c, o'')] rest := fun p hp q hq => by
  rcases List.mem_cons.mp hp with rfl | hp
  · exact h q hq
  · exact ledOff2 h' h'' p hp q hq
theorem off_cons {a d : Addr} {o : Obj} {rest : List (Addr × Obj)} (h : a ≠ d) (h' : ∀ q ∈ rest, q.1 ≠ d) : ∀ q ∈ (a, o) :: rest, q.1 ≠ d := fun q hq => by
  rcases List.mem_cons.mp hq with rfl | hq
  · exact h
  · exact h' q hq
theorem off1_ne {D : Addr} : ∀ {l : List (Addr × Obj)}, LCg.Off1 D l → ∀ p ∈ l, p.1 ≠ D
  | [], _, _, hp => nomatch hp
  | q :: r, h, p, hp => by
    rcases List.mem_cons.mp hp with rfl | hp
    · exact h.1
    · exact off1_ne h.2 p hp
theorem off3_ne {I C D : Addr} {l : List (Addr × Obj)} (h : LCg.Off3 I C D l) : (∀ p ∈ l, p.1 ≠ I) ∧ (∀ p ∈ l, p.1 ≠ C) ∧ (∀ p ∈ l, p.1 ≠ D) := ⟨fun p hp => (h.mem p hp).1, fun p hp => (h.mem p hp).2.1, fun p hp => (h.mem p hp).2.2⟩
def firstIn (l : List (Option Str)) (k : Str) : Option Nat := if k = Str.ofString "" then none else l.findIdx? fun d => decide (d = some k)
def firstOf : Option (List (Option Str)) → Str → Option Nat
  | none => fun _ => none
  | some ns => firstIn ns
/-- what a dict of first places says of a text -/
def TabAtIs (kvs : List (Str × Value)) (k : Str) : Option Nat → Prop
  | none => valueAt kvs k = none
  | some j => ∃ t, valueAt kvs k = some (.int (j : Int) t)
def TabIs (kvs : List (Str × Value)) (f : Str → Option Nat) : Prop := ∀ k, TabAtIs kvs k (f k)
theorem TabIs.nil : TabIs [] (fun _ => none) := fun k => rfl
theorem TabAtIs.isSome {kvs : List (Str × Value)} {k : Str} {r : Option Nat} (h : TabAtIs kvs k r) : (valueAt kvs k).isSome = r.isSome := by
  cases r with
  | none => rw [show valueAt kvs k = none from h]; rfl
  | some j => obtain ⟨t, e⟩ := h; rw [e]; rfl
theorem TabIs.put {kvs : List (Str × Value)} {f g : Str → Option Nat} (h : TabIs kvs f) {x : Str} {j : Nat} {t : Tok} (hx : g x = some j) (ho : ∀ k, k ≠ x → g k = f k) : TabIs (stored kvs x (.int (j : Int) t)) g := by
  intro k
  by_cases e : k = x
  · subst e
    rw [hx]
    exact ⟨t, by rw [valueAt_stored, if_pos rfl]⟩
  · rw [ho k e]
    have hk := h k
    cases hf : f k with
    | none => rw [hf] at hk; show valueAt _ _ = none; rw [valueAt_stored, if_neg e]; exact hk
    | some i => rw [hf] at hk; obtain ⟨t', e'⟩ := hk; exact ⟨t', by rw [valueAt_stored, if_neg e]; exact e'⟩
theorem firstIn_snoc (l : List (Option Str)) (d : Option Str) (k : Str) : firstIn (l ++ [d]) k = if k = Str.ofString "" then none else (firstIn l k).or (if d = some k then some l.length else none) := by
  unfold firstIn
  by_cases e : k = Str.ofString ""
  · rw [if_pos e, if_pos e]
  · rw [if_neg e, if_neg e, if_neg e, List.findIdx?_append]
    by_cases e2 : d = some k
    · simp [e2]
    · simp [e2]
theorem firstIn_none (l : List (Option Str)) : firstIn (l ++ [none]) = firstIn l := by
  funext k
  rw [firstIn_snoc]
  by_cases e : k = Str.ofString ""
  · rw [if_pos e]; unfold firstIn; rw [if_pos e]
  · rw [if_neg e]; simp
theorem firstIn_empty (l : List (Option Str)) : firstIn (l ++ [some (Str.ofString "")]) = firstIn l := by
  funext k
  rw [firstIn_snoc]
  by_cases e : k = Str.ofString ""
  · rw [if_pos e]; unfold firstIn; rw [if_pos e]
  · rw [if_neg e, if_neg (by intro h; exact e (Option.some.inj h).symm)]; simp
theorem firstIn_there {l : List (Option Str)} {x : Str} (h : (firstIn l x).isSome = true) : firstIn (l ++ [some x]) = firstIn l := by
  funext k
  rw [firstIn_snoc]
  by_cases e : k = Str.ofString ""
  · rw [if_pos e]; unfold firstIn; rw [if_pos e]
  · rw [if_neg e]
    by_cases e2 : some x = some k
    · have e3 := Option.some.inj e2
      subst e3
      obtain ⟨j, hj⟩ := Option.isSome_iff_exists.mp h
      rw [hj]; rfl
    · rw [if_neg e2]; simp
theorem firstIn_new {l : List (Option Str)} {x : Str} (hx : x ≠ Str.ofString "") (h : (firstIn l x).isSome = false) : firstIn (l ++ [some x]) x = some l.length := by
  rw [firstIn_snoc, if_neg hx, if_pos rfl]
  have : firstIn l x = none := by cases q : firstIn l x with | none => rfl | some j => rw [q] at h; cases h
  rw [this]; rfl
theorem firstIn_other {l : List (Option Str)} {x k : Str} (h : k ≠ x) : firstIn (l ++ [some x]) k = firstIn l k := by
  rw [firstIn_snoc]
  by_cases e : k = Str.ofString ""
  · rw [if_pos e]; unfold firstIn; rw [if_pos e]
  · rw [if_neg e, if_neg (by intro q; exact h (Option.some.inj q).symm)]; simp
inductive NamesAre (news : List (Addr × Obj)) : Value → Option (List (Option Str)) → Prop
  | none : NamesAre news .none none
  | some {l : Addr} {vs : List Value} {nl : Nat} {ns : List (Option Str)} : (l, listOf vs.toArray nl) ∈ news → OSs vs ns → ns.length < 1000 → NamesAre news (.ref l) (some ns)
theorem NamesAre.mono {news news' : List (Addr × Obj)} {v : Value} {nm : Option (List (Option Str))} (h : NamesAre news v nm) (hs : ∀ p ∈ news, p ∈ news') : NamesAre news' v nm := by
  cases h with
  | none => exact .none
  | some a b c => exact .some (hs _ a) b c
def nameOf (nm : Option (List (Option Str))) : Option Str → Option Int
  | none => none
  | some x => (firstOf nm x).map fun j => (j : Int)
/-- the state of extending_places: where a text stands, the places, the new names -/
def extStep (n : Nat) (st : (Str → Option Nat) × List (Option Int) × List (Option Str)) (d : Option Str) : (Str → Option Nat) × List (Option Int) × List (Option Str) :=
  match d with
  | none => (st.1, st.2.1 ++ [some ((n + st.2.2.length : Nat) : Int)], st.2.2 ++ [none])
  | some x => match st.1 x with
    | some j => (st.1, st.2.1 ++ [some (j : Int)], st.2.2)
    | none => (if x = Str.ofString "" then st.1 else fun k => if k = x then some (n + st.2.2.length) else st.1 k, st.2.1 ++ [some ((n + st.2.2.length : Nat) : Int)], st.2.2 ++ [some x])
def extAll (nm : Option (List (Option Str))) (n : Nat) (ts : List (Option Str)) : (Str → Option Nat) × List (Option Int) × List (Option Str) := ts.foldl (extStep n) (firstOf nm, [], [])
structure ExtSt where
  o : Obj
  kvs : List (Str × Value)
  pv : List Value
  np : Nat
  av : List Value
  na : Nat
theorem TabIs.putZ {kvs : List (Str × Value)} {f g : Str → Option Nat} (h : TabIs kvs f) {x : Str} {j : Nat} {z : Int} {t : Tok} (hz : z = (j : Int)) (hx : g x = some j) (ho : ∀ k, k ≠ x → g k = f k) : TabIs (stored kvs x (.int z t)) g := by
  subst hz; exact h.put hx ho
theorem OIs.snocZ {vs : List Value} {ds : List (Option Int)} {z z' : Int} {t : Tok} (h : OIs vs ds) (e : z = z') : OIs (vs ++ [.int z t]) (ds ++ [some z']) := by
  subst e; exact h.snoc (.some _ _)
theorem ne_of_off {x d : Addr} {o : Obj} {l : List (Addr × Obj)} (H : ∀ p ∈ l, p.1 ≠ x) (hm : (d, o) ∈ l) : x ≠ d := fun e => H _ hm e.symm
theorem ne_of_off1 {x d : Addr} {o : Obj} {l : List (Addr × Obj)} (H : LCg.Off1 x l) (hm : (d, o) ∈ l) : x ≠ d := fun e => off1_ne H _ hm e.symm
theorem ne_of_ltA {x d : Addr} {o : Obj} {l : List (Addr × Obj)} (H : ∀ p ∈ l, p.1 < x) (hm : (d, o) ∈ l) : x ≠ d := Nat.ne_of_gt (H _ hm)

end
theorem anew2 : True := by
  w_top off
  k_with_none
  k_with "gen" => (refine cut_genF ?_; intro q9 hq9)
  k_with "CutEnd" => (refine cut_in (by assumption) ?_)
  k_with "allLt" => (first | assumption | (rename _ ∧ _ => h9; obtain ⟨h91, h92⟩ := h9; k_extra "allLt"))
  k_with "call builtin:len" => (k_here; (with_reducible show wpAny _ _ (call (Value.builtin "len") [Value.ref _]) _ _ _); k_dflt (refine' len_led (by first | (k_asm) | fail) (by first | (k_mem) | fail) (by first | (omega) | fail) ?_; k_whole))
  k_with "exec For" => (k_here; (rename Fr _ _ _ _ => lF'); (with_unfolding_all refine' For_invVF lF' (by first | (k_dflt (exact rfl)) | fail) (by first | (k_dflt (exact rfl)) | fail) ?_; k_whole))
  k_with "exec For Name Attribute cons nil" => (walk_at "exec For")
  k_with "exec For Name Name cons nil" => (walk_at "exec For")
  k_with "exec For Name Call cons nil" => (walk_at "exec For")
  k_with "room" => (first | omega | (dsimp only [ktrTop, Around.deeper, Around.in1] at *; omega))
  k_with "enter" => (refine wpAny_call ?_; k_dflt cell_enter; (try generalize List.length (List.filterMap _ _) = ln9); k_extra "gen")
  k_with "getAttr ref" => (k_here; k_dflt (refine' get_own (by first | (k_asm) | fail) (by first | (k_asm) | fail) (by first | (k_inst) | fail) (by first | (k_is) | fail) (by first | (k_is) | fail) (by first | (k_is) | fail) (by first | (k_is) | fail) (by first | (assumption) | fail) (by first | (rfl) | fail) ?_; k_whole))
  k_with "small" => (first | omega | (simp only [List.length_append, List.length_cons, List.length_nil]; omega))
  k_with "call builtin:list.append" => (k_here; (with_reducible show wpAny _ _ (call (Value.builtin _) [Value.ref _, _]) _ _ _); k_dflt (refine' append_led (by first | (k_asm) | fail) (by first | (k_asm) | fail) (by first | (k_upd) | fail) (by first | (k_extra "small") | fail) ?_; k_whole); intro h' F' N'; (try k_sweep))
  k_with "turn map" => (intro z hz hp9 hs; (try dsimp only [kstB]); first | (simp only [hz, hs, if_false, Bool.false_eq_true]; done) | (have hz2 := hp9 _ (.head _); dsimp only at hz2; simp only [hz, hz2, hs, if_false, Bool.false_eq_true]; done) | (have hz2 := hp9 _ (.head _); have hz3 := hp9 _ (.tail _ (.head _)); dsimp only at hz2 hz3; simp only [hz, hz2, hz3, hs, if_false, Bool.false_eq_true]; done) | (have hs2 := hs; simp only [List.contains_cons, List.contains_nil, Bool.or_false, Bool.or_eq_false_iff, beq_eq_false_iff_ne, ne_eq] at hs2; simp only [hz, hs, hs2, if_false, Bool.false_eq_true]; done) | (have hz2 := hp9 _ (.head _); dsimp only at hz2; have hs2 := hs; simp only [List.contains_cons, List.contains_nil, Bool.or_false, Bool.or_eq_false_iff, beq_eq_false_iff_ne, ne_eq] at hs2; simp only [hz, hz2, hs, hs2, if_false, Bool.false_eq_true]))
  k_with "turn end 1" => (first | refine TurnEnd.next _ (by assumption) (by assumption) ?_ ?_ (by exact fun _ hp => nomatch hp) (by k_extra "turn map") | refine TurnEnd.cont _ (by assumption) (by assumption) ?_ ?_ (by exact fun _ hp => nomatch hp) (by k_extra "turn map"))
  k_with "turn end 2" => (first | refine TurnEnd.next (_, _) (by assumption) (by assumption) ?_ ?_ (by exact fun _ hp => nomatch hp) (by k_extra "turn map") | refine TurnEnd.cont (_, _) (by assumption) (by assumption) ?_ ?_ (by exact fun _ hp => nomatch hp) (by k_extra "turn map"))
  k_with "turn end 3" => (first | refine TurnEnd.next (_, _, _) (by assumption) (by assumption) ?_ ?_ (by exact fun _ hp => nomatch hp) (by k_extra "turn map") | refine TurnEnd.cont (_, _, _) (by assumption) (by assumption) ?_ ?_ (by exact fun _ hp => nomatch hp) (by k_extra "turn map"))
  first | walk1 | exact True.intro
section
section
variable {prog : Program} {w : World} {A : Around} {s : Shared} {h₀ : Heap} {L : Addr} {m : Str → Option Value} {env : Env} {ct elt : Expr} {x : Str} {scope : Scope} {cl : List (Str × Addr)} {S : List (Addr × Obj) → Prop} {P : Nat → Value → Prop} {Fin : List Value → List (Addr × Obj) → Prop} {news : List (Addr × Obj)} {n : Nat}
/-- a comprehension by what holds between its turns -/
theorem comp_inv (J : Nat → List Value → List (Addr × Obj) → Prop) (h0 : J 0 [] news)
    (turn : ∀ i v ys nw I oI C oC D m₂ h tk (E' : Value → Shared → Prop), i < n → P i v → J i ys nw → LCg.NsObj oC m₂ → m₂ x = some v → Fr h₀ L h m → News h₀ L h ((I, oI) :: (C, oC) :: (D, LCg.lst ys) :: nw) → LCg.Off3 I C D nw → ((@Ne Nat I C) ∧ (@Ne Nat I D) ∧ (@Ne Nat C D)) →
      ∀ (Q9 : Value → Shared → Prop), (∀ y s', LCg.CompEnd h₀ L m { s with heap := h, toks := tk } I oI C oC D (LCg.lst ys) S (fun y nw' => J (i + 1) (ys ++ [y]) nw') y s' → Q9 y s') →
      wpAny (model prog w) A (eval elt (compEnvC scope cl C env)) (CutEnd Q9) E' { s with heap := h, toks := tk })
    (fin : ∀ ys nw, J n ys nw → Fin ys nw) : LCg.CompRest prog w A h₀ L m env elt x scope cl s S P Fin n 0 [] news := by
  have key : ∀ (k i : Nat) (ys : List Value) (nw : List (Addr × Obj)), i + k = n → J i ys nw → LCg.CompRest prog w A h₀ L m env elt x scope cl s S P Fin k i ys nw := by
    intro k
    induction k with
    | zero => intro i ys nw e hJ; exact LCg.CompRest.zero (fin ys nw (by rw [← e]; exact hJ))
    | succ k ih =>
      intro i ys nw e hJ
      refine LCg.CompRest.succ fun v I oI C oC D m₂ h tk E' hv hC hx F N off ne => ?_
      refine wpAny_mono (turn i v ys nw I oI C oC D m₂ h tk E' (by omega) hv hJ hC hx F N off ne _ fun _ _ h => h) (fun y s₂ hq => ?_) fun _ _ e => e
      obtain ⟨h', tk', nw', e2, F', N', off', hS, hj⟩ := hq
      exact ⟨h', tk', nw', e2, F', N', off', hS, ih (i + 1) _ _ (by omega) hj⟩
  exact key n 0 [] news (by omega) h0
theorem compT_inv (J : Nat → List Value → List (Addr × Obj) → Prop) (h0 : J 0 [] news)
    (turn : ∀ i v ys nw I oI C oC D m₂ h tk (E' : Value → Shared → Prop), i < n → P i v → J i ys nw → LCg.NsObj oC m₂ → m₂ x = some v → Fr h₀ L h m → News h₀ L h ((I, oI) :: (C, oC) :: (D, LCg.lst ys) :: nw) → LCg.Off3 I C D nw → ((@Ne Nat I C) ∧ (@Ne Nat I D) ∧ (@Ne Nat C D)) →
      ∀ (Q9 Q8 : Value → Shared → Prop), (∀ y s', LCg.CompEnd h₀ L m { s with heap := h, toks := tk } I oI C oC D (LCg.lst ys) S (fun y nw' => J (i + 1) (ys ++ [y]) nw') y s' → Q9 y s') →
      (∀ y s', LCg.CompEnd h₀ L m { s with heap := h, toks := tk } I oI C oC D (LCg.lst ys) S (fun _ nw' => J (i + 1) ys nw') y s' → Q8 y s') →
      wpAny (model prog w) A (isTrue ct (compEnvC scope cl C env) (eval ct (compEnvC scope cl C env))) (fun ok s' => if ok = true then
        wpAny (model prog w) A (eval elt (compEnvC scope cl C env)) (CutEnd Q9) E' s'
        else CutEnd Q8 Value.none s') E' { s with heap := h, toks := tk })
    (fin : ∀ ys nw, J n ys nw → Fin ys nw) : LCt.CompRestT prog w A h₀ L m env ct elt x scope cl s S P Fin n 0 [] news := by
  have key : ∀ (k i : Nat) (ys : List Value) (nw : List (Addr × Obj)), i + k = n → J i ys nw → LCt.CompRestT prog w A h₀ L m env ct elt x scope cl s S P Fin k i ys nw := by
    intro k
    induction k with
    | zero => intro i ys nw e hJ; exact LCt.CompRestT.zero (fin ys nw (by rw [← e]; exact hJ))
    | succ k ih =>
      intro i ys nw e hJ
      refine LCt.CompRestT.succ fun v I oI C oC D m₂ h tk E' hv hC hx F N off ne => ?_
      refine wpAny_mono (turn i v ys nw I oI C oC D m₂ h tk E' (by omega) hv hJ hC hx F N off ne _ _ (fun _ _ h => h) fun _ _ h => h) (fun ok s₂ hq => ?_) fun _ _ e => e
      cases ok with
      | true =>
        simp only [if_true] at hq ⊢
        refine wpAny_mono hq (fun y s₃ hr => ?_) fun _ _ e => e
        obtain ⟨h', tk', nw', e2, F', N', off', hS, hj⟩ := hr
        exact ⟨h', tk', nw', e2, F', N', off', hS, ih (i + 1) _ _ (by omega) hj⟩
      | false =>
        simp only [Bool.false_eq_true, if_false] at hq ⊢
        obtain ⟨h', tk', nw', e2, F', N', off', hS, hj⟩ := hq
        exact ⟨h', tk', nw', e2, F', N', off', hS, ih (i + 1) _ _ (by omega) hj⟩
  exact key n 0 [] news (by omega) h0
end

end
local macro_rules | `(tactic| walk_at $s:str) => `(tactic| k_extra $s)
local macro_rules | `(tactic| k_all) => `(tactic| first | assumption | exact off_lt (by assumption) | exact off_lt1 (by assumption) | exact off_lt2 (by assumption) | exact off_lt3 (by assumption) | exact allLt_ne (by k_extra "allLt"))
local macro_rules | `(tactic| k_mem) => `(tactic| assumption)
local macro_rules | `(tactic| walk_at "pyIter ref") => `(tactic| ((with_reducible show wpAny _ _ (pyIter (Value.ref _)) (fun _ _ => LoopAtV _ _ _ _ _ _ _ _ _ _ _) _ _); refine Stop.intro ?_))
local macro_rules | `(tactic| walk_at "enterC") => `(tactic| (refine wpAny_call ?_; k_dflt (refine' code_defC ?k1 ?k2 ?k3 ?k4 ?k5 ?kA ?kF ?kK ?k6 ?k7 ?k8 ?k9 ?kB ?kD ?_ ?c2 ?c3 ?c4; (case kA => exact rfl); (case kF => exact rfl); (case kK => assumption); (case k1 => k_asm); (case k2 => k_asm); (case k3 => k_asm); (case k4 => k_asm); (case k5 => k_asm); (case k6 => k_is); (case k7 => k_is); (case k8 => ktr_room); (case k9 => exact BindsTo.of_eq rfl); (case kB => exact rfl); (case kD => decide +kernel); (case c2 => exact rfl); (case c3 => exact rfl); (case c4 => exact rfl); k_whole; intro g' L' h' tk' cells' FG' F' N' Y' B' X' T' l1; k_cells Y'; (try simp only [List.cons_append, List.nil_append] at N'); (try dsimp only); (try k_fold)); (try generalize List.length (List.filterMap _ _) = ln9); k_extra "gen"))
local macro_rules | `(tactic| k_ne) => `(tactic| first | (refine neN ?_; (try dsimp only); omega) | exact ne_of_off (by assumption) (by k_mem) | exact ne_of_ltA (by assumption) (by k_mem) | exact (ne_of_ltA (by assumption) (by k_mem)).symm | exact ne_of_off1 (by assumption) (by k_mem) | exact (ne_of_off (by assumption) (by k_mem)).symm | exact (ne_of_off1 (by assumption) (by k_mem)).symm)
theorem anew3 : True := by
  w_top off
  k_with_none
  k_with "gen" => (refine cut_genF ?_; intro q9 hq9)
  k_with "CutEnd" => (refine cut_in (by assumption) ?_)
  k_with "allLt" => (first | assumption | (rename _ ∧ _ => h9; obtain ⟨h91, h92⟩ := h9; k_extra "allLt"))
  k_with "call builtin:len" => (k_here; (with_reducible show wpAny _ _ (call (Value.builtin "len") [Value.ref _]) _ _ _); k_dflt (refine' len_led (by first | (k_asm) | fail) (by first | (k_mem) | fail) (by first | (omega) | fail) ?_; k_whole))
  k_with "exec For" => (k_here; (rename Fr _ _ _ _ => lF'); (with_unfolding_all refine' For_invVF lF' (by first | (k_dflt (exact rfl)) | fail) (by first | (k_dflt (exact rfl)) | fail) ?_; k_whole))
  k_with "exec For Name Attribute cons nil" => (walk_at "exec For")
  k_with "exec For Name Name cons nil" => (walk_at "exec For")
  k_with "exec For Name Call cons nil" => (walk_at "exec For")
  k_with "room" => (first | omega | (dsimp only [ktrTop, Around.deeper, Around.in1] at *; omega))
  k_with "enter" => (refine wpAny_call ?_; k_dflt cell_enter; (try generalize List.length (List.filterMap _ _) = ln9); k_extra "gen")
  k_with "getAttr ref" => (k_here; k_dflt (refine' get_own (by first | (k_asm) | fail) (by first | (k_asm) | fail) (by first | (k_inst) | fail) (by first | (k_is) | fail) (by first | (k_is) | fail) (by first | (k_is) | fail) (by first | (k_is) | fail) (by first | (assumption) | fail) (by first | (rfl) | fail) ?_; k_whole))
  k_with "small" => (first | omega | (simp only [List.length_append, List.length_cons, List.length_nil]; omega))
  k_with "call builtin:list.append" => (k_here; (with_reducible show wpAny _ _ (call (Value.builtin _) [Value.ref _, _]) _ _ _); k_dflt (refine' append_led (by first | (k_asm) | fail) (by first | (k_asm) | fail) (by first | (k_upd) | fail) (by first | (k_extra "small") | fail) ?_; k_whole); intro h' F' N'; (try k_sweep))
  k_with "turn map" => (intro z hz hp9 hs; (try dsimp only [kstB]); first | (simp only [hz, hs, if_false, Bool.false_eq_true]; done) | (have hz2 := hp9 _ (.head _); dsimp only at hz2; simp only [hz, hz2, hs, if_false, Bool.false_eq_true]; done) | (have hz2 := hp9 _ (.head _); have hz3 := hp9 _ (.tail _ (.head _)); dsimp only at hz2 hz3; simp only [hz, hz2, hz3, hs, if_false, Bool.false_eq_true]; done) | (have hs2 := hs; simp only [List.contains_cons, List.contains_nil, Bool.or_false, Bool.or_eq_false_iff, beq_eq_false_iff_ne, ne_eq] at hs2; simp only [hz, hs, hs2, if_false, Bool.false_eq_true]; done) | (have hz2 := hp9 _ (.head _); dsimp only at hz2; have hs2 := hs; simp only [List.contains_cons, List.contains_nil, Bool.or_false, Bool.or_eq_false_iff, beq_eq_false_iff_ne, ne_eq] at hs2; simp only [hz, hz2, hs, hs2, if_false, Bool.false_eq_true]))
  k_with "turn end 1" => (first | refine TurnEnd.next _ (by assumption) (by assumption) ?_ ?_ (by exact fun _ hp => nomatch hp) (by k_extra "turn map") | refine TurnEnd.cont _ (by assumption) (by assumption) ?_ ?_ (by exact fun _ hp => nomatch hp) (by k_extra "turn map"))
  k_with "turn end 2" => (first | refine TurnEnd.next (_, _) (by assumption) (by assumption) ?_ ?_ (by exact fun _ hp => nomatch hp) (by k_extra "turn map") | refine TurnEnd.cont (_, _) (by assumption) (by assumption) ?_ ?_ (by exact fun _ hp => nomatch hp) (by k_extra "turn map"))
  k_with "turn end 3" => (first | refine TurnEnd.next (_, _, _) (by assumption) (by assumption) ?_ ?_ (by exact fun _ hp => nomatch hp) (by k_extra "turn map") | refine TurnEnd.cont (_, _, _) (by assumption) (by assumption) ?_ ?_ (by exact fun _ hp => nomatch hp) (by k_extra "turn map"))
  first | walk1 | exact True.intro
section
open PySem PySem.W PyProof.Rows
theorem dict_mapFields (o : Obj) (f) : (o.mapFields f).dict = o.dict := by
  unfold Obj.mapFields; split <;> rfl
/-- an own exception in flight, its dict known -/
def TracedD (h base : Heap) (e : Addr) (cls : Value) (D : Addr) (fl : Value) : Prop :=
  ∃ oe vs T oT ts, h.get? e = some oe ∧ (oe.cls = cls ∧ oe.dict = some D) ∧ oe.data = .fields vs ∧ vs[1]? = some (.ref T) ∧ base.get? T = none ∧ T ≠ e ∧ h.get? T = some oT ∧ oT.data = .fields ts ∧ ts[3]? = some fl
def FlyD (base : Heap) (l : List Env) (e : Addr) (cls : Value) (D : Addr) (fl : Value) (h : Heap) : Prop :=
  base.StaysIn h ∧ base.get? e = none ∧ h.FunFrames base l ∧ TracedD h base e cls D fl
section
variable {M : Model} {A : Around} {E : Value → Shared → Prop} {s : Shared} {base : Heap} {env : Env} {outer : List Env} {L e D : Addr} {cls fl : Value} {Q : Unit → Shared → Prop}
theorem entryD {oe : Obj} {vs : Array Value} {head : Value} {hadNext : Bool}
    (hfr : A.frames = some (env :: outer)) (hl : s.heap.FunFrames base (env :: outer)) (hf : env.frame = some L)
    (he : s.heap.get? e = some oe) (hkb : base.StaysIn s.heap) (hen : base.get? e = none) (hd : oe.data = .fields vs) (hsz : 1 < vs.size) (hcl : oe.cls = cls) (hdi : oe.dict = some D)
    (h : ∀ h', FlyD base (env :: outer) e cls D (rawInt L) h' → s.heap.UpToSlots h' → Q () { s with heap := h' }) :
    wpAny M A (do let a ← frameOf env; let pl ← entryPlaceOf L hadNext; let b ← EntryCells.newEntry head a .none (rawInt L) .none pl; setField (.ref e) 1 b) Q E s := by
  have hene : e ∉ (env :: outer).filterMap (·.frame) := fun hm => by
    obtain ⟨_, o, ho, hnf⟩ := hl.mem hm
    rw [he] at ho; injection ho with ho; subst ho; exact hnf vs hd
  refine wpAny_bind (wpAny_frameOf_fun hfr hl hf fun h₁ hs₁ => ?_)
  refine wpAny_bind (wpAny_entryPlaceOf fun pl hpl => ?_)
  unfold EntryCells.newEntry newFields
  refine wpAny_bind (wpAny_newObj_type ?_ (hpl.sizeOk5 _ _ _ _ _))
  generalize hot : ({ cls := .type "traceback", dict := none, data := .fields ([head, .ref L, .none, rawInt L, .none] ++ (if pl.isEmpty then List.replicate 6 Value.none else pl)).toArray } : Obj) = ot
  have hotd : ∃ ts, ot.data = .fields ts ∧ ts[3]? = some (rawInt L) := by
    subst hot
    exact ⟨_, rfl, by first | (simp; done) | (rcases hpl with rfl | ⟨_, _, _, _, _, _, _, rfl⟩ <;> simp)⟩
  have hotf : ot.isFreed = false := by subst hot; rfl
  obtain ⟨ts, hotd, hts⟩ := hotd
  have he₁ : h₁.get? e = some oe := (hs₁.2.1 e hene).trans he
  have kb₁ : base.StaysIn h₁ := fun b o hbo => (hs₁.2.1 b fun hm => by rw [(hl.mem hm).1] at hbo; cases hbo).trans (hkb b o hbo)
  have he₂ := Heap.get?_push_of_some (h := h₁) ot he₁
  have hTe : h₁.objs.size ≠ e := Nat.ne_of_gt (Heap.lt_size he₁)
  have hd₃ := Obj.data_mapFields hd (·.setIfInBounds 1 (Value.ref h₁.objs.size))
  have he₃ := Heap.get?_update_self (Obj.mapFields (·.setIfInBounds 1 (Value.ref h₁.objs.size))) he₂ (Obj.isFreed_of_fields hd₃)
  have hT₃ := (Heap.get?_update_other (h₁.push ot) (Obj.mapFields (·.setIfInBounds 1 (Value.ref h₁.objs.size))) (Ne.symm hTe)).trans (Heap.get?_push_size h₁ hotf)
  have keep : ∀ b o, b ≠ e → h₁.get? b = some o → ((h₁.push ot).update e (Obj.mapFields (·.setIfInBounds 1 (Value.ref h₁.objs.size)))).get? b = some o := fun b o hbe hb => by
    rw [Heap.get?_update_other _ _ (Ne.symm hbe)]
    exact Heap.get?_push_of_some _ hb
  have noRecord : ∀ b o, s.heap.get? b = some o → (∀ vs, o.data ≠ .fields vs) → b ≠ e := fun b o hb hnf q => by
    rw [q, he] at hb; injection hb with hb; subst hb; exact hnf vs hd
  refine wpAny_setField he₂ hd hsz (h _ ⟨fun b o hbo => keep b o (fun q => by rw [q, hen] at hbo; cases hbo) (kb₁ b o hbo), hen, hl.of_keeps fun b o hb hnf => ?_, ?_⟩ fun b o hb hnf => ?_)
  · obtain ⟨sl, hs⟩ := hs₁.2.2 b o hb
    exact ⟨_, keep b _ (noRecord b o hb hnf) hs, rfl⟩
  · exact ⟨_, _, h₁.objs.size, _, _, he₃, ⟨(Obj.cls_mapFields _ _).trans hcl, (dict_mapFields _ _).trans hdi⟩, hd₃, by simp [hsz], kb₁.fresh, hTe, hT₃, hotd, hts⟩
  · obtain ⟨sl, hs⟩ := hs₁.2.2 b o hb
    exact ⟨sl, keep b _ (noRecord b o hb hnf) hs⟩
theorem note_firstD {oe : Obj} {vs : Array Value} (hfr : A.frames = some (env :: outer)) (hl : s.heap.FunFrames base (env :: outer)) (hf : env.frame = some L)
    (he : s.heap.get? e = some oe) (hkb : base.StaysIn s.heap) (hen : base.get? e = none) (hd : oe.data = .fields vs) (h1 : vs[1]? = some .none) (hcl : oe.cls = cls) (hdi : oe.dict = some D)
    (h : ∀ h', FlyD base (env :: outer) e cls D (rawInt L) h' → s.heap.UpToSlots h' → Q () { s with heap := h' }) : wpAny M A (noteFrame (.ref e) env) Q E s := by
  unfold noteFrame
  simp only [hf]
  refine wpAny_bind (wpAny_field he hd h1 ?_)
  rw [if_neg (by decide)]
  exact entryD hfr hl hf he hkb hen hd (Array.getElem?_eq_some_iff.mp h1).1 hcl hdi h
theorem note_nextD (hfr : A.frames = some (env :: outer)) (hf : env.frame = some L) (hfl : FlyD base (env :: outer) e cls D .none s.heap)
    (h : ∀ h', FlyD base (env :: outer) e cls D (rawInt L) h' → s.heap.UpToSlots h' → Q () { s with heap := h' }) : wpAny M A (noteFrame (.ref e) env) Q E s := by
  obtain ⟨hkb, hen, hl, oe, vs, T, oT, ts, he, ⟨hcl, hdi⟩, hd, h1, hnT, hTe, hT, hdT, h3⟩ := hfl
  unfold noteFrame
  simp only [hf]
  refine wpAny_bind (wpAny_field he hd h1 ?_)
  rw [if_pos (show (Value.ref T != Value.none) = true from by simp)]
  refine wpAny_bind (wpAny_field hT hdT h3 ?_)
  rw [if_neg (show ¬ ((Value.none == rawInt L) = true) from by simp [rawInt])]
  refine wpAny_bind (wpAny_setField hT hdT (Array.getElem?_eq_some_iff.mp h3).1 ?_)
  have other : ∀ b, b ≠ T → (s.heap.update T (Obj.mapFields (·.setIfInBounds 3 Value.none))).get? b = s.heap.get? b := fun b hb => Heap.get?_update_other _ _ (Ne.symm hb)
  have noRecord : ∀ b o, s.heap.get? b = some o → (∀ vs, o.data ≠ .fields vs) → b ≠ T := fun b o hb hnf q => by
    rw [q, hT] at hb; injection hb with hb; subst hb; exact hnf ts hdT
  exact entryD hfr (hl.of_keeps fun b o hb hnf => ⟨o, (other b (noRecord b o hb hnf)).trans hb, rfl⟩) hf ((other e (Ne.symm hTe)).trans he)
    (fun b o hbo => (other b fun q => by rw [q, hnT] at hbo; cases hbo).trans (hkb b o hbo)) hen hd (Array.getElem?_eq_some_iff.mp h1).1 hcl hdi
    fun h' x1 x4 => h h' x1 fun b o hb hnf => x4 b o ((other b (noRecord b o hb hnf)).trans hb) hnf
theorem flight_noneD {l : List Env} (hfl : FlyD base l e cls D fl s.heap) (h : ∀ h', FlyD base l e cls D .none h' → s.heap.UpToSlots h' → Q () { s with heap := h' }) :
    wpAny M A (setFlight (.ref e) none) Q E s := by
  obtain ⟨hkb, hen, hl, oe, vs, T, oT, ts, he, hcd, hd, h1, hnT, hTe, hT, hdT, h3⟩ := hfl
  have hsz3 : 3 < ts.size := (Array.getElem?_eq_some_iff.mp h3).1
  have other : ∀ b, b ≠ T → (s.heap.update T (Obj.mapFields (·.setIfInBounds 3 ((none : Option Addr).elim Value.none fun f => rawInt f)))).get? b = s.heap.get? b :=
    fun b hb => Heap.get?_update_other _ _ (Ne.symm hb)
  have noRecord : ∀ b o, s.heap.get? b = some o → (∀ vs, o.data ≠ .fields vs) → b ≠ T := fun b o hb hnf q => by
    rw [q, hT] at hb; injection hb with hb; subst hb; exact hnf ts hdT
  unfold setFlight
  refine wpAny_bind (wpAny_field he hd h1 ?_)
  rw [if_pos (show (Value.ref T != Value.none) = true from by simp)]
  refine wpAny_setField hT hdT hsz3 (h _ ⟨fun b o hbo => (other b fun q => by rw [q, hnT] at hbo; cases hbo).trans (hkb b o hbo), hen,
    hl.of_keeps fun b o hb hnf => ⟨o, (other b (noRecord b o hb hnf)).trans hb, rfl⟩, ?_⟩ fun b o hb hnf => ⟨o.slots, (other b (noRecord b o hb hnf)).trans hb⟩)
  exact ⟨oe, vs, T, _, _, (other e (Ne.symm hTe)).trans he, hcd, hd, h1, hnT, hTe, Heap.get?_update_self _ hT (Obj.isFreed_of_fields (Obj.data_mapFields hdT _)), Obj.data_mapFields hdT _, by simp [hsz3]⟩
theorem FlyD.drop (h : FlyD base (env :: outer) e cls D fl s.heap) : FlyD base outer e cls D fl s.heap := ⟨h.1, h.2.1, h.2.2.1.2.2, h.2.2.2⟩
theorem leaving_firstD {oe : Obj} {vs : Array Value} (hfr : A.frames = some (env :: outer)) (hl : s.heap.FunFrames base (env :: outer)) (hf : env.frame = some L)
    (he : s.heap.get? e = some oe) (hkb : base.StaysIn s.heap) (hen : base.get? e = none) (hd : oe.data = .fields vs) (h1 : vs[1]? = some .none) (hcl : oe.cls = cls) (hdi : oe.dict = some D)
    (h : ∀ h', FlyD base outer e cls D .none h' → s.heap.UpToSlots h' → Q () { s with heap := h' }) : wpAny M A (leaving env (.ref e)) Q E s := by
  unfold leaving
  refine wpAny_bind (note_firstD hfr hl hf he hkb hen hd h1 hcl hdi fun h₁ f₁ u₁ => ?_)
  exact flight_noneD f₁ fun h₂ f₂ u₂ => h h₂ ⟨f₂.1, f₂.2.1, f₂.2.2.1.2.2, f₂.2.2.2⟩ (u₁.trans u₂)
theorem leaving_nextD (hfr : A.frames = some (env :: outer)) (hf : env.frame = some L) (hfl : FlyD base (env :: outer) e cls D .none s.heap)
    (h : ∀ h', FlyD base outer e cls D .none h' → s.heap.UpToSlots h' → Q () { s with heap := h' }) : wpAny M A (leaving env (.ref e)) Q E s := by
  unfold leaving
  refine wpAny_bind (note_nextD hfr hf hfl fun h₁ f₁ u₁ => ?_)
  exact flight_noneD f₁ fun h₂ f₂ u₂ => h h₂ ⟨f₂.1, f₂.2.1, f₂.2.2.1.2.2, f₂.2.2.2⟩ (u₁.trans u₂)
end

end
theorem anew4 : True := by
  w_top off
  k_with_none
  k_with "gen" => (refine cut_genF ?_; intro q9 hq9)
  k_with "CutEnd" => (refine cut_in (by assumption) ?_)
  k_with "allLt" => (first | assumption | (rename _ ∧ _ => h9; obtain ⟨h91, h92⟩ := h9; k_extra "allLt"))
  k_with "call builtin:len" => (k_here; (with_reducible show wpAny _ _ (call (Value.builtin "len") [Value.ref _]) _ _ _); k_dflt (refine' len_led (by first | (k_asm) | fail) (by first | (k_mem) | fail) (by first | (omega) | fail) ?_; k_whole))
  k_with "exec For" => (k_here; (rename Fr _ _ _ _ => lF'); (with_unfolding_all refine' For_invVF lF' (by first | (k_dflt (exact rfl)) | fail) (by first | (k_dflt (exact rfl)) | fail) ?_; k_whole))
  k_with "exec For Name Attribute cons nil" => (walk_at "exec For")
  k_with "exec For Name Name cons nil" => (walk_at "exec For")
  k_with "exec For Name Call cons nil" => (walk_at "exec For")
  k_with "room" => (first | omega | (dsimp only [ktrTop, Around.deeper, Around.in1] at *; omega))
  k_with "enter" => (refine wpAny_call ?_; k_dflt cell_enter; (try generalize List.length (List.filterMap _ _) = ln9); k_extra "gen")
  k_with "getAttr ref" => (k_here; k_dflt (refine' get_own (by first | (k_asm) | fail) (by first | (k_asm) | fail) (by first | (k_inst) | fail) (by first | (k_is) | fail) (by first | (k_is) | fail) (by first | (k_is) | fail) (by first | (k_is) | fail) (by first | (assumption) | fail) (by first | (rfl) | fail) ?_; k_whole))
  k_with "small" => (first | omega | (simp only [List.length_append, List.length_cons, List.length_nil]; omega))
  k_with "call builtin:list.append" => (k_here; (with_reducible show wpAny _ _ (call (Value.builtin _) [Value.ref _, _]) _ _ _); k_dflt (refine' append_led (by first | (k_asm) | fail) (by first | (k_asm) | fail) (by first | (k_upd) | fail) (by first | (k_extra "small") | fail) ?_; k_whole); intro h' F' N'; (try k_sweep))
  k_with "turn map" => (intro z hz hp9 hs; (try dsimp only [kstB]); first | (simp only [hz, hs, if_false, Bool.false_eq_true]; done) | (have hz2 := hp9 _ (.head _); dsimp only at hz2; simp only [hz, hz2, hs, if_false, Bool.false_eq_true]; done) | (have hz2 := hp9 _ (.head _); have hz3 := hp9 _ (.tail _ (.head _)); dsimp only at hz2 hz3; simp only [hz, hz2, hz3, hs, if_false, Bool.false_eq_true]; done) | (have hs2 := hs; simp only [List.contains_cons, List.contains_nil, Bool.or_false, Bool.or_eq_false_iff, beq_eq_false_iff_ne, ne_eq] at hs2; simp only [hz, hs, hs2, if_false, Bool.false_eq_true]; done) | (have hz2 := hp9 _ (.head _); dsimp only at hz2; have hs2 := hs; simp only [List.contains_cons, List.contains_nil, Bool.or_false, Bool.or_eq_false_iff, beq_eq_false_iff_ne, ne_eq] at hs2; simp only [hz, hz2, hs, hs2, if_false, Bool.false_eq_true]))
  k_with "turn end 1" => (first | refine TurnEnd.next _ (by assumption) (by assumption) ?_ ?_ (by exact fun _ hp => nomatch hp) (by k_extra "turn map") | refine TurnEnd.cont _ (by assumption) (by assumption) ?_ ?_ (by exact fun _ hp => nomatch hp) (by k_extra "turn map"))
  k_with "turn end 2" => (first | refine TurnEnd.next (_, _) (by assumption) (by assumption) ?_ ?_ (by exact fun _ hp => nomatch hp) (by k_extra "turn map") | refine TurnEnd.cont (_, _) (by assumption) (by assumption) ?_ ?_ (by exact fun _ hp => nomatch hp) (by k_extra "turn map"))
  k_with "turn end 3" => (first | refine TurnEnd.next (_, _, _) (by assumption) (by assumption) ?_ ?_ (by exact fun _ hp => nomatch hp) (by k_extra "turn map") | refine TurnEnd.cont (_, _, _) (by assumption) (by assumption) ?_ ?_ (by exact fun _ hp => nomatch hp) (by k_extra "turn map"))
  first | walk1 | exact True.intro
section
open PySem PySem.W PyProof.Rows PySem.Calls
abbrev excObj (C t : Addr) : Obj := { cls := .ref C, data := .fields #[.ref t, .none, .none, .none, .bool false, .none] }
def excOf (K : Frag) (C : Addr) (bm bmB : List Value) (newId : String) : Bool := match K.lookup C with
  | some ⟨.type "type", _, .cls cd, sl⟩ => (match cd.mro, sl.toList with
    | .ref C' :: bm', [_, _, _, _, some (.builtin n), _] => C' == C && n == newId && bm' == bm && !cd.hasDel && tailIn K bmB bm
    | _, _ => false)
  | _ => false
theorem excOf_cls {K : Frag} {h : Heap} {C : Addr} {bm bmB : List Value} {newId : String} (X : K.In h) (q : excOf K C bm bmB newId = true) :
    OwnTail h bmB bm ∧ ∃ nm qn N bs hdct sn sub ab col dd k0 k1 k2 k3 k5, h.get? C = some (excClassObj nm qn C N bs bm hdct sn sub ab col dd k0 k1 k2 k3 k5 newId) := by
  unfold excOf at q
  split at q
  · rename_i dd cd sl ho
    split at q
    · rename_i C' bm' k0 k1 k2 k3 n k5 hm hs
      simp only [Bool.and_eq_true, beq_iff_eq, Bool.not_eq_true'] at q
      obtain ⟨⟨⟨⟨rfl, rfl⟩, rfl⟩, hdel⟩, ht⟩ := q
      obtain ⟨nm, bs, mro, ns, qn, hd, sn, sub, ab, col, del⟩ := cd
      dsimp only at hm hdel
      subst hm hdel
      have hsl : sl = #[k0, k1, k2, k3, some (.builtin n), k5] := by
        obtain ⟨l⟩ := sl
        simp only at hs
        rw [hs]
      subst hsl
      exact ⟨tail_of_in X ht, nm, qn, ns, bs, hd, sn, sub, ab, col, dd, k0, k1, k2, k3, k5, X _ _ ho⟩
    · cases q
  · cases q
section
variable {prog : Program} {w : World} {A : Around} {E : Value → Shared → Prop} {s : Shared} {K : Frag} {C L : Addr} {h₀ : Heap} {m : Str → Option Value} {news : List (Addr × Obj)} {Q : Value → Shared → Prop} {B newId initId : String} {bm bmB : List Value}
theorem call_exc {rest : List Value} {fI : Addr} (FB : ExcBaseFacts B newId initId bmB) (F : Fr h₀ L s.heap m) (X₀ : K.In h₀) (N : News h₀ L s.heap news) (hq : excOf K C bm bmB newId = true)
    (hi : findIn K (.ref C) "__init__" = some (some (.ref fI))) (hf : typeIn K (.ref fI) = some (.type "function")) (hrest : rest.length ≤ sizeLine)
    (h : ∀ e t h', Fr h₀ L h' m → News h₀ L h' ((e, excObj C t) :: (t, tupO rest 0) :: news) → (∀ p ∈ news, p.1 < t) → t < e →
      codeAny (model prog w) (A.under (.builtin "type.__call__" ⟨.ref C :: rest, []⟩)) (.call (.ref fI) ⟨.ref e :: rest, []⟩) (InitBack e fun r s' => match r with | .ok (.ret v) => Q v s' | .ok _ => False | .error e => E e s') { s with heap := h' }) :
    wpAny (model prog w) A (call (.ref C) rest) Q E s := by
  obtain ⟨hp, g, d, tk, os⟩ := s
  have X : K.In hp := X₀.keeps F.keep
  obtain ⟨T, nm, qn, NN, bs, hdct, sn, sub, ab, col, dd, k0, k1, k2, k3, k5, hC⟩ := excOf_cls X hq
  have f1 := tc_lookup
  have f2 := tc_bind (.ref C)
  have hT : (⟨hp, g, d, tk, os⟩ : Shared).TypeIs (.ref C) "type" := ⟨_, hC, rfl⟩
  refine wpAny_call (codeAny_of_tree ?_)
  show wpAny _ _ (callAny (.ref C) _) _ _ _
  repeat (any_goals (first | assumption | with_reducible refine wpAny_loadPart_at hC ?_ | wp_step))
  refine ⟨rfl, ?_⟩
  refine codeAny_call_builtin_at (Code.quiet_builtin _ (by decide +kernel)) entry_typeCall (wpAny_check_type_call_sub hC ?_)
  repeat (first | with_reducible refine wpAny_loadPart_at hC ?_ | with_reducible refine wpAny_madeBy_exc hC ?_ | wp_step)
  refine codeAny_call_builtin_code (Code.quiet_builtin _ FB.quiet) (wpAny_check_new_subT FB T hC ?_)
  refine codeAny_exc_new_subT FB T hC ?_ hrest
  show wpAny _ _ _ _ _ _
  generalize hot : ({ cls := .type "tuple", data := .seq rest.toArray } : Obj) = ot
  generalize hoe : ({ cls := .ref C, data := .fields #[.ref hp.objs.size, .none, .none, .none, .bool false, .none] } : Obj) = oe
  have hoc : oe.cls = .ref C := by subst hoe; rfl
  have hof : oe.isFreed = false := by subst hoe; rfl
  have hotf : ot.isFreed = false := by subst hot; rfl
  have F₁ := F.push ot
  have F₂ := F₁.push oe
  have N₁ := N.push F ot hotf
  have N₂ := N₁.push F₁ oe hof
  rw [Heap.size_push] at N₂
  have hget : ((hp.push ot).push oe).get? (hp.objs.size + 1) = some oe := Heap.get?_push_at (by simp only [Heap.size_push]) hof
  have hC₁ := Heap.get?_push_of_some oe (Heap.get?_push_of_some ot hC)
  have X₂ : K.In ((hp.push ot).push oe) := X₀.keeps F₂.keep
  have hcC : (Value.ref C :: bm).contains (.ref C) = true := by simp
  subst hoe
  subst hot
  unfold isInstance
  repeat (first | with_reducible refine wpAny_loadPart_at hget ?_ | wp_step)
  show wpAny _ _ (isSubtype (.ref C) (.ref C)) _ _ ⟨(hp.push { cls := .type "tuple", data := .seq rest.toArray }).push { cls := .ref C, data := .fields #[.ref hp.objs.size, .none, .none, .none, .bool false, .none] }, g, d, tk, os⟩
  refine wpAny_isSubtype_exc hC₁ ?_
  rw [hcC]
  repeat wp_step
  show wpAny _ _ (typeLookup (.ref C) _) _ _ _
  refine (looks_findIn X₂ hi).here ?_
  refine wpAny_holding (wpAny_bind ((bind_fn X₂ _ hf).here ?_))
  refine wpAny_bind (wpAny_call ?_)
  refine codeAny_mono (h (hp.objs.size + 1) hp.objs.size _ F₂ N₂ (fun p hp => Heap.lt_size (N p hp).1) (Nat.lt_succ_self _)) fun r s' z => ?_
  rcases r with e | (v | _ | _ | _) <;> first | exact z | exact z.elim | skip
  obtain ⟨rfl, z⟩ := z
  exact wpAny_pure (wpAny_pure z)
end

end
theorem anew5 : True := by
  w_top off
  k_with_none
  k_with "gen" => (refine cut_genF ?_; intro q9 hq9)
  k_with "CutEnd" => (refine cut_in (by assumption) ?_)
  k_with "allLt" => (first | assumption | (rename _ ∧ _ => h9; obtain ⟨h91, h92⟩ := h9; k_extra "allLt"))
  k_with "call builtin:len" => (k_here; (with_reducible show wpAny _ _ (call (Value.builtin "len") [Value.ref _]) _ _ _); k_dflt (refine' len_led (by first | (k_asm) | fail) (by first | (k_mem) | fail) (by first | (omega) | fail) ?_; k_whole))
  k_with "exec For" => (k_here; (rename Fr _ _ _ _ => lF'); (with_unfolding_all refine' For_invVF lF' (by first | (k_dflt (exact rfl)) | fail) (by first | (k_dflt (exact rfl)) | fail) ?_; k_whole))
  k_with "exec For Name Attribute cons nil" => (walk_at "exec For")
  k_with "exec For Name Name cons nil" => (walk_at "exec For")
  k_with "exec For Name Call cons nil" => (walk_at "exec For")
  k_with "room" => (first | omega | (dsimp only [ktrTop, Around.deeper, Around.in1] at *; omega))
  k_with "enter" => (refine wpAny_call ?_; k_dflt cell_enter; (try generalize List.length (List.filterMap _ _) = ln9); k_extra "gen")
  k_with "getAttr ref" => (k_here; k_dflt (refine' get_own (by first | (k_asm) | fail) (by first | (k_asm) | fail) (by first | (k_inst) | fail) (by first | (k_is) | fail) (by first | (k_is) | fail) (by first | (k_is) | fail) (by first | (k_is) | fail) (by first | (assumption) | fail) (by first | (rfl) | fail) ?_; k_whole))
  k_with "small" => (first | omega | (simp only [List.length_append, List.length_cons, List.length_nil]; omega))
  k_with "call builtin:list.append" => (k_here; (with_reducible show wpAny _ _ (call (Value.builtin _) [Value.ref _, _]) _ _ _); k_dflt (refine' append_led (by first | (k_asm) | fail) (by first | (k_asm) | fail) (by first | (k_upd) | fail) (by first | (k_extra "small") | fail) ?_; k_whole); intro h' F' N'; (try k_sweep))
  k_with "turn map" => (intro z hz hp9 hs; (try dsimp only [kstB]); first | (simp only [hz, hs, if_false, Bool.false_eq_true]; done) | (have hz2 := hp9 _ (.head _); dsimp only at hz2; simp only [hz, hz2, hs, if_false, Bool.false_eq_true]; done) | (have hz2 := hp9 _ (.head _); have hz3 := hp9 _ (.tail _ (.head _)); dsimp only at hz2 hz3; simp only [hz, hz2, hz3, hs, if_false, Bool.false_eq_true]; done) | (have hs2 := hs; simp only [List.contains_cons, List.contains_nil, Bool.or_false, Bool.or_eq_false_iff, beq_eq_false_iff_ne, ne_eq] at hs2; simp only [hz, hs, hs2, if_false, Bool.false_eq_true]; done) | (have hz2 := hp9 _ (.head _); dsimp only at hz2; have hs2 := hs; simp only [List.contains_cons, List.contains_nil, Bool.or_false, Bool.or_eq_false_iff, beq_eq_false_iff_ne, ne_eq] at hs2; simp only [hz, hz2, hs, hs2, if_false, Bool.false_eq_true]))
  k_with "turn end 1" => (first | refine TurnEnd.next _ (by assumption) (by assumption) ?_ ?_ (by exact fun _ hp => nomatch hp) (by k_extra "turn map") | refine TurnEnd.cont _ (by assumption) (by assumption) ?_ ?_ (by exact fun _ hp => nomatch hp) (by k_extra "turn map"))
  k_with "turn end 2" => (first | refine TurnEnd.next (_, _) (by assumption) (by assumption) ?_ ?_ (by exact fun _ hp => nomatch hp) (by k_extra "turn map") | refine TurnEnd.cont (_, _) (by assumption) (by assumption) ?_ ?_ (by exact fun _ hp => nomatch hp) (by k_extra "turn map"))
  k_with "turn end 3" => (first | refine TurnEnd.next (_, _, _) (by assumption) (by assumption) ?_ ?_ (by exact fun _ hp => nomatch hp) (by k_extra "turn map") | refine TurnEnd.cont (_, _, _) (by assumption) (by assumption) ?_ ?_ (by exact fun _ hp => nomatch hp) (by k_extra "turn map"))
  first | walk1 | exact True.intro
section
open PySem PySem.W PyProof.Rows PySem.Calls Builtin Builtin.ObjectAttr
/-- own classes over Exception alone -/
def onlyExc : List Value → Bool
  | .ref _ :: r => onlyExc r
  | l => l == [.type "Exception", .type "BaseException", .type "object"]
theorem refuse_exc (self : Value) : ∀ {l : List Value}, onlyExc l = true → refuseLoop self "__setattr__" l = pure ()
  | .ref c :: r, e => by rw [refuseLoop_ref]; exact refuse_exc self e
  | [], e => by cases e
  | .type _ :: _, e => by rw [beq_iff_eq.mp (show (_ == _) = true from e)]; exact PySem.F.store_Exception.passes self
  | .none :: _, e => by simp [onlyExc] at e
  | .bool _ :: _, e => by simp [onlyExc] at e
  | .int _ _ :: _, e => by simp [onlyExc] at e
  | .str _ _ :: _, e => by simp [onlyExc] at e
  | .float _ _ :: _, e => by simp [onlyExc] at e
  | .bytes _ _ :: _, e => by simp [onlyExc] at e
  | .builtin _ :: _, e => by simp [onlyExc] at e
theorem exc_has : ∀ {l : List Value}, onlyExc l = true → l.contains (.type "object") = true
  | .ref c :: r, e => by rw [List.contains_cons, exc_has (l := r) e, Bool.or_true]
  | [], e => by cases e
  | .type _ :: _, e => by rw [beq_iff_eq.mp (show (_ == _) = true from e)]; decide
  | .none :: _, e => by simp [onlyExc] at e
  | .bool _ :: _, e => by simp [onlyExc] at e
  | .int _ _ :: _, e => by simp [onlyExc] at e
  | .str _ _ :: _, e => by simp [onlyExc] at e
  | .float _ _ :: _, e => by simp [onlyExc] at e
  | .bytes _ _ :: _, e => by simp [onlyExc] at e
  | .builtin _ :: _, e => by simp [onlyExc] at e
section
variable {prog : Program} {w : World} {A : Around} {E : Value → Shared → Prop} {s : Shared} {K : Frag} {C L x : Addr} {h₀ : Heap} {m : Str → Option Value} {news : List (Addr × Obj)} {R : Result → Shared → Prop}
theorem osa_exc {ox : Obj} {od : Option Obj} {name : Str} {tk : Tok} {v : Value} {r : Option Value} (X : K.In s.heap) (I : InstAt s.heap x ox C od) (hp : (clsIn K C).any (fun cd => onlyExc cd.mro) = true) (ht : takerIn K C name = some r)
    (h : ∀ b, wpAny (model prog w) A.in1 (match r with | some a => setByDescriptor a (.ref x) v | none => storeInOwnDict (.ref x) (.ref C) (.str name tk) name v b)
      (fun fin s' => match fin with | .done f => R (.ok f) s' | .again c' => c'.quiet = true ∧ codeAny (model prog w) A c' R s') (fun e s' => R (.error e) s') s) :
    codeAny (model prog w) A (.call (.builtin "object.__setattr__") ⟨[.ref x, .str name tk, v], []⟩) R s := by
  have SF := PySem.F.store_object
  obtain ⟨cd, hc, ho⟩ := any_some hp
  have ne : cd.mro.isEmpty = false := by cases q : cd.mro with | nil => rw [q] at ho; cases ho | cons _ _ => rfl
  have sub : Looks (model prog w) s.heap (isInstance (.ref x) (.type "object")) true := I.type.andThen (looks_mroIn X (by unfold mroIn; rw [hc, Option.bind_some, if_neg (by rw [ne]; decide), exc_has ho]))
  refine codeAny_call_builtin SF.slot.plain SF.entry (@check_slot (model prog w) _ _ s "object.__setattr__" "object" "__setattr__" (.ref x) [.str name tk, v] [] _ SF.kind SF.split sub (SF.args (.ref x) (.str name tk) v) ?_)
  obtain ⟨attr, ha, hr⟩ := Option.bind_eq_some_iff.mp ht
  have hm : Looks (model prog w) s.heap (mroOf (.ref C)) cd.mro := (looks_clsIn X hc).andThen .now
  have L3 : Looks (model prog w) s.heap (storeTaker? attr) r := by
    cases attr with
    | none => cases hr; exact .now
    | some a =>
      obtain ⟨b, hb, rfl⟩ := Option.map_eq_some_iff.mp hr
      refine (looks_takesIn X hb).andThen ?_
      cases b <;> exact .now
  rw [osa_eq, refuse_eq]
  refine wpAny_bind (wpAny_bind (I.type.here (wpAny_bind (hm.here ?_))))
  rw [refuse_exc _ ho]
  refine wpAny_pure (wpAny_bind (I.type.here (wpAny_bind ((looks_findIn X ha).here (wpAny_bind (L3.here ?_))))))
  exact h _
theorem osa_fresh {ox : Obj} {name : Str} {tk : Tok} {v : Value} (F : Fr h₀ L s.heap m) (N : News h₀ L s.heap ((x, ox) :: news)) (hoff : ∀ p ∈ news, p.1 ≠ x) (X : K.In s.heap)
    (hcl : ox.cls = .ref C) (hnc : notCls ox = true) (hdi : ox.dict = none) (hfr : ∀ D, ({ ox with dict := some D } : Obj).isFreed = false)
    (hp : (clsIn K C).any (fun cd => onlyExc cd.mro) = true) (ht : takerIn K C name = some none) (hh : (clsIn K C).any (·.hasDict) = true)
    (h : ∀ D h' tk', Fr h₀ L h' m → News h₀ L h' ((x, { ox with dict := some D }) :: (D, dictOf (putL name (PyData.keyHash w.params name) (.str name tk') v []) (putN name [] 0)) :: news) → (∀ p ∈ news, p.1 < D) → x < D → R (.ok (.ret .none)) { s with heap := h', toks := s.toks + 1 }) :
    codeAny (model prog w) A (.call (.builtin "object.__setattr__") ⟨[.ref x, .str name tk, v], []⟩) R s := by
  have hx := (N _ (.head _)).1
  refine osa_exc X (od := none) ⟨hx, hcl, hnc, by rw [hdi]; trivial⟩ hp ht fun b => ?_
  obtain ⟨cd, hc, hd'⟩ := any_some hh
  obtain ⟨oc, odi, oda, osl⟩ := ox
  dsimp only at hcl hdi
  subst hcl hdi
  refine wpAny_bind (wpAny_pure (wpAny_bind (wpAny_bind (wpAny_loadPart hx ?_))))
  dsimp only
  refine wpAny_bind ((looks_clsIn X hc).here ?_)
  rw [hd', if_neg (by decide), if_neg (by simp [typeHasDict])]
  have F₁ := F.push { cls := .type "dict", data := .dict #[] }
  have N₁ := N.push F { cls := .type "dict", data := .dict #[] }
  have hlt : ∀ p ∈ news, p.1 < s.heap.objs.size := fun p hp => Heap.lt_size (N p (.tail _ hp)).1
  have hxlt : x < s.heap.objs.size := Heap.lt_size hx
  obtain ⟨F₂, N₂⟩ := news_upd (pre := [(s.heap.objs.size, { cls := .type "dict", data := .dict #[] })]) (f := fun o => { cls := o.cls, dict := some s.heap.objs.size, data := o.data, slots := o.slots }) F₁ N₁ (fun p hp => by rw [List.mem_singleton.mp hp]; exact Nat.ne_of_gt hxlt) hoff rfl (hfr _)
  obtain ⟨F₃, N₃⟩ := news_upd (pre := []) (f := Obj.putName name (PyData.keyHash w.params name) (.str name s.toks) v) F₂ N₂ (fun p hp => nomatch hp) (fun p hp => by
    rcases List.mem_cons.mp hp with rfl | hp
    · exact Nat.ne_of_lt hxlt
    · exact Nat.ne_of_lt (hlt p hp)) (putName_dict name _ _ v [] 0) rfl
  have D₂ := (N₂ _ (.head _)).1
  have D₃ := (N₃ _ (.head _)).1
  split
  · cases hnc
  · refine wpAny_bind (wpAny_alloc' ?_)
    refine wpAny_bind (wpAny_update' (Heap.get?_push_of_some _ hx) ?_)
    refine wpAny_pure ?_
    show wpAny _ _ (storeInDict s.heap.objs.size (.str name tk) name v) _ _ _
    refine wpAny_bind (wpAny_pure (wpAny_bind ?_))
    unfold nsSet
    refine wpAny_bind (wpAny_bind (wpAny_askSetting (wpAny_pure (wpAny_bind (wpAny_mkText (wpAny_bind (wpAny_loadPart D₂ ?_)))))))
    dsimp only
    rw [if_neg (by rw [aRefKeyMayBeTheName_at]; simp)]
    refine wpAny_updatePart D₂ ?_
    refine wpAny_bind (wpAny_lookBehind D₃ (pastItsLine_dict (by show 1 ≤ sizeLine + 1; exact Nat.le_add_left _ _)) ?_)
    refine wpAny_pure (h s.heap.objs.size _ s.toks F₃ (fun p hp => N₃ p ?_) hlt hxlt)
    rcases List.mem_cons.mp hp with rfl | hp
    · exact .tail _ (.head _)
    rcases List.mem_cons.mp hp with rfl | hp
    · exact .head _
    · exact .tail _ (.tail _ hp)
end

end
theorem anew6 : True := by
  w_top off
  k_with_none
  k_with "gen" => (refine cut_genF ?_; intro q9 hq9)
  k_with "CutEnd" => (refine cut_in (by assumption) ?_)
  k_with "allLt" => (first | assumption | (rename _ ∧ _ => h9; obtain ⟨h91, h92⟩ := h9; k_extra "allLt"))
  k_with "call builtin:len" => (k_here; (with_reducible show wpAny _ _ (call (Value.builtin "len") [Value.ref _]) _ _ _); k_dflt (refine' len_led (by first | (k_asm) | fail) (by first | (k_mem) | fail) (by first | (omega) | fail) ?_; k_whole))
  k_with "exec For" => (k_here; (rename Fr _ _ _ _ => lF'); (with_unfolding_all refine' For_invVF lF' (by first | (k_dflt (exact rfl)) | fail) (by first | (k_dflt (exact rfl)) | fail) ?_; k_whole))
  k_with "exec For Name Attribute cons nil" => (walk_at "exec For")
  k_with "exec For Name Name cons nil" => (walk_at "exec For")
  k_with "exec For Name Call cons nil" => (walk_at "exec For")
  k_with "room" => (first | omega | (dsimp only [ktrTop, Around.deeper, Around.in1] at *; omega))
  k_with "enter" => (refine wpAny_call ?_; k_dflt cell_enter; (try generalize List.length (List.filterMap _ _) = ln9); k_extra "gen")
  k_with "getAttr ref" => (k_here; k_dflt (refine' get_own (by first | (k_asm) | fail) (by first | (k_asm) | fail) (by first | (k_inst) | fail) (by first | (k_is) | fail) (by first | (k_is) | fail) (by first | (k_is) | fail) (by first | (k_is) | fail) (by first | (assumption) | fail) (by first | (rfl) | fail) ?_; k_whole))
  k_with "small" => (first | omega | (simp only [List.length_append, List.length_cons, List.length_nil]; omega))
  k_with "call builtin:list.append" => (k_here; (with_reducible show wpAny _ _ (call (Value.builtin _) [Value.ref _, _]) _ _ _); k_dflt (refine' append_led (by first | (k_asm) | fail) (by first | (k_asm) | fail) (by first | (k_upd) | fail) (by first | (k_extra "small") | fail) ?_; k_whole); intro h' F' N'; (try k_sweep))
  k_with "turn map" => (intro z hz hp9 hs; (try dsimp only [kstB]); first | (simp only [hz, hs, if_false, Bool.false_eq_true]; done) | (have hz2 := hp9 _ (.head _); dsimp only at hz2; simp only [hz, hz2, hs, if_false, Bool.false_eq_true]; done) | (have hz2 := hp9 _ (.head _); have hz3 := hp9 _ (.tail _ (.head _)); dsimp only at hz2 hz3; simp only [hz, hz2, hz3, hs, if_false, Bool.false_eq_true]; done) | (have hs2 := hs; simp only [List.contains_cons, List.contains_nil, Bool.or_false, Bool.or_eq_false_iff, beq_eq_false_iff_ne, ne_eq] at hs2; simp only [hz, hs, hs2, if_false, Bool.false_eq_true]; done) | (have hz2 := hp9 _ (.head _); dsimp only at hz2; have hs2 := hs; simp only [List.contains_cons, List.contains_nil, Bool.or_false, Bool.or_eq_false_iff, beq_eq_false_iff_ne, ne_eq] at hs2; simp only [hz, hz2, hs, hs2, if_false, Bool.false_eq_true]))
  k_with "turn end 1" => (first | refine TurnEnd.next _ (by assumption) (by assumption) ?_ ?_ (by exact fun _ hp => nomatch hp) (by k_extra "turn map") | refine TurnEnd.cont _ (by assumption) (by assumption) ?_ ?_ (by exact fun _ hp => nomatch hp) (by k_extra "turn map"))
  k_with "turn end 2" => (first | refine TurnEnd.next (_, _) (by assumption) (by assumption) ?_ ?_ (by exact fun _ hp => nomatch hp) (by k_extra "turn map") | refine TurnEnd.cont (_, _) (by assumption) (by assumption) ?_ ?_ (by exact fun _ hp => nomatch hp) (by k_extra "turn map"))
  k_with "turn end 3" => (first | refine TurnEnd.next (_, _, _) (by assumption) (by assumption) ?_ ?_ (by exact fun _ hp => nomatch hp) (by k_extra "turn map") | refine TurnEnd.cont (_, _, _) (by assumption) (by assumption) ?_ ?_ (by exact fun _ hp => nomatch hp) (by k_extra "turn map"))
  first | walk1 | exact True.intro
section
open PySem PySem.W PyProof.Rows PySem.Calls
abbrev excObjD (C t D : Addr) : Obj := { cls := .ref C, dict := some D, data := .fields #[.ref t, .none, .none, .none, .bool false, .none] }
theorem set_fresh {prog : Program} {w : World} {A : Around} {E : Value → Shared → Prop} {s : Shared} {K : Frag} {C L x : Addr} {h₀ : Heap} {m : Str → Option Value} {news : List (Addr × Obj)} {Q : Unit → Shared → Prop} {name : Str} {v : Value} {t : Addr}
    (F : Fr h₀ L s.heap m) (X₀ : K.In h₀) (N : News h₀ L s.heap ((x, excObj C t) :: news)) (hoff : ∀ p ∈ news, p.1 ≠ x)
    (hs : findIn K (.ref C) "__setattr__" = some (some (.builtin "object.__setattr__"))) (hp : (clsIn K C).any (fun cd => onlyExc cd.mro) = true) (ht : takerIn K C name = some none) (hh : (clsIn K C).any (·.hasDict) = true)
    (h : ∀ D h' tk', Fr h₀ L h' m → News h₀ L h' ((x, excObjD C t D) :: (D, dictOf (putL name (PyData.keyHash w.params name) (.str name tk') v []) (putN name [] 0)) :: news) → (∀ p ∈ news, p.1 < D) → x < D → Q () { s with heap := h', toks := s.toks + 2 }) :
    wpAny (model prog w) A (setAttr (.ref x) name v) Q E s :=
  set_plain (X₀.keeps F.keep) (od := none) ⟨(N _ (.head _)).1, rfl, rfl, trivial⟩ hs
    (osa_fresh (s := { s with toks := s.toks + 1 }) F N hoff (X₀.keeps F.keep) rfl rfl rfl (fun _ => rfl) hp ht hh fun D h' tk' F' N' l1 l2 => h D h' tk' F' N' l1 l2)
section
variable {M : Model} {A : Around} {E : Value → Shared → Prop} {s : Shared} {env : Env} {K : Frag} {C : Addr} {bm bmB : List Value} {newId : String}
theorem raise_exc {x : Sem Value} {Q : Flow → Shared → Prop} (hq : excOf K C bm bmB newId = true) (hbase : bm.contains (.type "BaseException") = true) (hh : A.handled = none)
    (h : wpAny M A x (fun v s₁ => ∃ e t D, v = .ref e ∧ K.In s₁.heap ∧ s₁.heap.get? e = some (excObjD C t D) ∧ E (.ref e) s₁) E s) :
    wpAny M A (raiseStmt env (some x) none) Q E s := by
  have hcB : (Value.ref C :: bm).contains (.type "BaseException") = true := by rw [List.contains_cons, hbase, Bool.or_true]
  unfold raiseStmt
  refine wpAny_bind (wpAny_mono h (fun v s₁ h₁ => ?_) fun _ _ x => x)
  obtain ⟨e, t, D, rfl, X, he, hE⟩ := h₁
  obtain ⟨hp, g, d, tk, os⟩ := s₁
  obtain ⟨_, nm, qn, N, bs, hdct, sn, sub, ab, col, dd, k0, k1, k2, k3, k5, hC⟩ := excOf_cls X hq
  repeat (first | with_reducible refine wpAny_loadPart_at he ?_ | with_reducible refine wpAny_loadPart_at hC ?_ | (with_reducible refine wpAny_isSubtype_exc hC ?_; rw [hcB]) | wp_step)
  exact wpAny_raiseNew_none hh hE
theorem Raise_exc {ce : Expr} {pos : Pos} {Q : Flow → Shared → Prop} (hq : excOf K C bm bmB newId = true) (hbase : bm.contains (.type "BaseException") = true) (hh : A.handled = none)
    (h : wpAny M A (eval ce env) (fun v s₁ => ∃ e t D, v = .ref e ∧ K.In s₁.heap ∧ s₁.heap.get? e = some (excObjD C t D) ∧ E (.ref e) s₁) E s) :
    wpAny M A (exec (.Raise (some ce) none pos) env) Q E s := by
  rw [arm_exec_Raise]
  refine wpAny_bind (wpAny_standAt ?_)
  show wpAny _ _ (raiseStmt env (some (eval ce env >>= fun v => standAt pos >>= fun _ => pure v)) none) _ _ _
  refine raise_exc hq hbase hh (wpAny_bind (wpAny_mono h (fun v s₃ h₃ => wpAny_bind (wpAny_standAt (wpAny_pure h₃))) fun _ _ x => x))
end
/-- an own exception on its way out of frames, its dict among the news -/
def RaisedD (base G : Heap) (l : List Env) (e : Addr) (cls : Value) (D : Addr) (news : List (Addr × Obj)) (h : Heap) : Prop :=
  ∃ B, base.StaysIn B ∧ (∀ b o, G.get? b = some o → b ∉ l.filterMap (·.frame) → B.get? b = some o) ∧ (∀ q ∈ news, B.get? q.1 = some q.2 ∧ G.get? q.1 = none ∧ base.get? q.1 = none) ∧ FlyD B l e cls D .none h
theorem mem_frames {env : Env} {L b : Addr} {outer : List Env} (hf : env.frame = some L) (hm : b ∈ (env :: outer).filterMap (·.frame)) : b = L ∨ b ∈ outer.filterMap (·.frame) := by
  obtain ⟨env', he, hf'⟩ := List.mem_filterMap.mp hm
  rcases List.mem_cons.mp he with rfl | he
  · exact .inl (Option.some.inj (hf'.symm.trans hf))
  · exact .inr (List.mem_filterMap.mpr ⟨env', he, hf'⟩)
section
variable {M : Model} {A : Around} {E : Value → Shared → Prop} {s' : Shared} {base g g₂ : Heap} {env : Env} {outer : List Env} {L e D : Addr} {cls : Value} {m : Str → Option Value} {Q : Unit → Shared → Prop} {news : List (Addr × Obj)}
theorem leave_firstD {oe : Obj} {vs : Array Value} (K : Below A base outer g) (F : Fr g L s'.heap m) (N : News g L s'.heap ((e, oe) :: news)) (hoff : ∀ p ∈ news, p.1 ≠ e)
    (hcl : oe.cls = cls) (hdi : oe.dict = some D) (hd : oe.data = .fields vs) (h1 : vs[1]? = some .none) (hf : env.frame = some L) (hke : env.scope.kind = .function)
    (hQ : ∀ h', RaisedD base g outer e cls D news h' → g.UpToSlots h' → Q () { s' with heap := h' }) :
    wpAny M (A.deeper env) (leaving env (.ref e)) Q E s' := by
  have K' := pushX K F hf hke
  obtain ⟨he, heL, heg⟩ := N _ (.head _)
  dsimp only at he heL heg
  have heb : base.get? e = none := fresh_of_stays K.stays heg
  have hfr : ∀ b, b ∈ (env :: outer).filterMap (·.frame) → b ≠ e := fun b hb q => by
    obtain ⟨_, o, ho, hnf⟩ := K'.frames.mem hb
    rw [q, he] at ho; injection ho with ho; subst ho; exact hnf vs hd
  have hin : ∀ env' ∈ (env :: outer), ∀ b, env'.frame = some b → b ∈ e :: (env :: outer).filterMap (·.frame) := fun env' h b hb => .tail _ (List.mem_filterMap.mpr ⟨env', h, hb⟩)
  have st : base.StaysIn (hideAll s'.heap (e :: (env :: outer).filterMap (·.frame))) := fun b o q => hideAll_get _ (K'.stays b o q) fun hm => by
    rcases List.mem_cons.mp hm with rfl | hm
    · rw [heb] at q; cases q
    · rw [(K'.frames.mem hm).1] at q; cases q
  have sg : ∀ b o, g.get? b = some o → b ∉ outer.filterMap (·.frame) → (hideAll s'.heap (e :: (env :: outer).filterMap (·.frame))).get? b = some o := fun b o q nm => hideAll_get _ (F.keep b o q) fun hm => by
    rcases List.mem_cons.mp hm with rfl | hm
    · rw [heg] at q; cases q
    · rcases mem_frames hf hm with z | z
      · rw [z, kts_self F] at q; cases q
      · exact nm z
  have hl : ∀ q ∈ news, (hideAll s'.heap (e :: (env :: outer).filterMap (·.frame))).get? q.1 = some q.2 ∧ g.get? q.1 = none ∧ base.get? q.1 = none := fun q hq => by
    have Nq := N q (.tail _ hq)
    refine ⟨hideAll_get _ Nq.1 fun hm => ?_, Nq.2.2, fresh_of_stays K.stays Nq.2.2⟩
    rcases List.mem_cons.mp hm with z | hm
    · exact hoff q hq z
    · rcases mem_frames hf hm with z | z
      · exact Nq.2.1 z
      · obtain ⟨o, ho, _⟩ := (K.frames.mem z).2
        rw [Nq.2.2] at ho; cases ho
  exact leaving_firstD K'.stack (funFrames_hide K'.frames hin) hf he (fun b o q => of_hideAll _ q) (hideAll_none _ (.head _)) hd h1 hcl hdi fun h' f u =>
    hQ h' ⟨_, st, sg, hl, f⟩ ((Heap.UpToSlots.of_keeps F.keep).trans u)
theorem leave_nextD (K : Below A base outer g) (F : Fr g L g₂ m) (R : RaisedD base g₂ (env :: outer) e cls D news s'.heap) (hsm : g₂.UpToSlots s'.heap) (hf : env.frame = some L)
    (hQ : ∀ h', RaisedD base g outer e cls D news h' → g.UpToSlots h' → Q () { s' with heap := h' }) :
    wpAny M (A.deeper env) (leaving env (.ref e)) Q E s' := by
  obtain ⟨B, hB, hBG, hl, hfl⟩ := R
  exact leaving_nextD (Around.frames_deeper K.stack) hf hfl fun h' x1 x2 =>
    hQ h' ⟨B, hB, fun b o q nm => hBG b o (F.keep b o q) (fun hm => by
      rcases mem_frames hf hm with z | z
      · rw [z, kts_self F] at q
        cases q
      · exact nm z), fun q hq => ⟨(hl q hq).1, kts_none F.keep (hl q hq).2.1, (hl q hq).2.2⟩, x1⟩ ((Heap.UpToSlots.of_keeps F.keep).trans (hsm.trans x2))
end

end
theorem anew7 : True := by
  w_top off
  k_with_none
  k_with "gen" => (refine cut_genF ?_; intro q9 hq9)
  k_with "CutEnd" => (refine cut_in (by assumption) ?_)
  k_with "allLt" => (first | assumption | (rename _ ∧ _ => h9; obtain ⟨h91, h92⟩ := h9; k_extra "allLt"))
  k_with "call builtin:len" => (k_here; (with_reducible show wpAny _ _ (call (Value.builtin "len") [Value.ref _]) _ _ _); k_dflt (refine' len_led (by first | (k_asm) | fail) (by first | (k_mem) | fail) (by first | (omega) | fail) ?_; k_whole))
  k_with "exec For" => (k_here; (rename Fr _ _ _ _ => lF'); (with_unfolding_all refine' For_invVF lF' (by first | (k_dflt (exact rfl)) | fail) (by first | (k_dflt (exact rfl)) | fail) ?_; k_whole))
  k_with "exec For Name Attribute cons nil" => (walk_at "exec For")
  k_with "exec For Name Name cons nil" => (walk_at "exec For")
  k_with "exec For Name Call cons nil" => (walk_at "exec For")
  k_with "room" => (first | omega | (dsimp only [ktrTop, Around.deeper, Around.in1] at *; omega))
  k_with "enter" => (refine wpAny_call ?_; k_dflt cell_enter; (try generalize List.length (List.filterMap _ _) = ln9); k_extra "gen")
  k_with "getAttr ref" => (k_here; k_dflt (refine' get_own (by first | (k_asm) | fail) (by first | (k_asm) | fail) (by first | (k_inst) | fail) (by first | (k_is) | fail) (by first | (k_is) | fail) (by first | (k_is) | fail) (by first | (k_is) | fail) (by first | (assumption) | fail) (by first | (rfl) | fail) ?_; k_whole))
  k_with "small" => (first | omega | (simp only [List.length_append, List.length_cons, List.length_nil]; omega))
  k_with "call builtin:list.append" => (k_here; (with_reducible show wpAny _ _ (call (Value.builtin _) [Value.ref _, _]) _ _ _); k_dflt (refine' append_led (by first | (k_asm) | fail) (by first | (k_asm) | fail) (by first | (k_upd) | fail) (by first | (k_extra "small") | fail) ?_; k_whole); intro h' F' N'; (try k_sweep))
  k_with "turn map" => (intro z hz hp9 hs; (try dsimp only [kstB]); first | (simp only [hz, hs, if_false, Bool.false_eq_true]; done) | (have hz2 := hp9 _ (.head _); dsimp only at hz2; simp only [hz, hz2, hs, if_false, Bool.false_eq_true]; done) | (have hz2 := hp9 _ (.head _); have hz3 := hp9 _ (.tail _ (.head _)); dsimp only at hz2 hz3; simp only [hz, hz2, hz3, hs, if_false, Bool.false_eq_true]; done) | (have hs2 := hs; simp only [List.contains_cons, List.contains_nil, Bool.or_false, Bool.or_eq_false_iff, beq_eq_false_iff_ne, ne_eq] at hs2; simp only [hz, hs, hs2, if_false, Bool.false_eq_true]; done) | (have hz2 := hp9 _ (.head _); dsimp only at hz2; have hs2 := hs; simp only [List.contains_cons, List.contains_nil, Bool.or_false, Bool.or_eq_false_iff, beq_eq_false_iff_ne, ne_eq] at hs2; simp only [hz, hz2, hs, hs2, if_false, Bool.false_eq_true]))
  k_with "turn end 1" => (first | refine TurnEnd.next _ (by assumption) (by assumption) ?_ ?_ (by exact fun _ hp => nomatch hp) (by k_extra "turn map") | refine TurnEnd.cont _ (by assumption) (by assumption) ?_ ?_ (by exact fun _ hp => nomatch hp) (by k_extra "turn map"))
  k_with "turn end 2" => (first | refine TurnEnd.next (_, _) (by assumption) (by assumption) ?_ ?_ (by exact fun _ hp => nomatch hp) (by k_extra "turn map") | refine TurnEnd.cont (_, _) (by assumption) (by assumption) ?_ ?_ (by exact fun _ hp => nomatch hp) (by k_extra "turn map"))
  k_with "turn end 3" => (first | refine TurnEnd.next (_, _, _) (by assumption) (by assumption) ?_ ?_ (by exact fun _ hp => nomatch hp) (by k_extra "turn map") | refine TurnEnd.cont (_, _, _) (by assumption) (by assumption) ?_ ?_ (by exact fun _ hp => nomatch hp) (by k_extra "turn map"))
  first | walk1 | exact True.intro
section
open PySem PySem.W PyProof.Rows PySem.Calls
theorem FlyD.there {base h : Heap} {l : List Env} {e D : Addr} {cls fl : Value} (x : FlyD base l e cls D fl h) : ∃ oe vs, h.get? e = some oe ∧ oe.cls = cls ∧ oe.dict = some D ∧ oe.data = .fields vs := by
  obtain ⟨_, _, _, oe, vs, _, _, _, he, ⟨hc, hd⟩, hv, _⟩ := x
  exact ⟨oe, vs, he, hc, hd, hv⟩
section
variable {prog : Program} {w : World} {A₀ : Around} {E : Value → Shared → Prop} {s' : Shared} {base g g₀ G : Heap} {outer : List Env} {L a e D C : Addr} {m : Str → Option Value} {name : Str} {scope : Scope} {cd : Value}
  {n : Str} {b₀ : Stmt} {suite : List Stmt} {pos np : Pos} {rest : List ExceptHandler} {Q : Flow → Shared → Prop} {news : List (Addr × Obj)} {KF : Frag}
  {p : Program} {loose : List Str} {mean : ExcName → Option Value} {mg mb : Str → Option Value} {x : Str}
theorem caughtD (R : RaisedD base G (envOf name scope L a cd :: outer) e (.ref C) D news s'.heap) (F : Fr g L G m) (K : Below A₀ base outer g) (hsm : G.UpToSlots s'.heap) (XB : KF.In base) (TB : Top p loose mean mg mb base)
    (Dd : KtsDicts (outer.filterMap (·.frame)) g)
    (ex : nsIn KF mainGlobals x = some (some (.ref C))) (q : ktsIn KF C "BaseException" = true)
    (k : ∀ h' g' tk oe vs, KtsTurn (outer.filterMap (·.frame)) g g' → Fr g' L h' (fun y => if y = n then some (.ref e) else m y) → News g' L h' ((e, oe) :: news) → oe.cls = .ref C → oe.dict = some D → oe.data = .fields vs → (∀ p ∈ news, p.1 ≠ e) → Below A₀ base outer g' → KF.In g' → Top p loose mean mg mb g' → KtsDicts (outer.filterMap (·.frame)) g' →
      wpAny (model prog w) ((A₀.deeper (envOf name scope L a cd)).mark (some (.ref e))) (execs (b₀ :: suite) (envOf name scope L a cd))
        (fun f s₄ => wpAny (model prog w) (A₀.deeper (envOf name scope L a cd)) (do bindName (envOf name scope L a cd) n .none; unbindBehindTheSuite (envOf name scope L a cd) n pos) (fun _ s₅ => Q f s₅) E s₄)
        (AsSuiteRaised (model prog w) ((A₀.deeper (envOf name scope L a cd)).mark (some (.ref e))) (envOf name scope L a cd) n pos (notedBy (model prog w) ((A₀.deeper (envOf name scope L a cd)).mark (some (.ref e))) (envOf name scope L a cd) (cameBackBy (model prog w) (A₀.deeper (envOf name scope L a cd)) (envOf name scope L a cd) E)))
        { s' with heap := h', toks := tk })
    (hk : scope.kind = .function := by rfl) (hlo : (envOf name scope L a cd).kindOf n = some .local := by rfl) (hx : (envOf name scope L a cd).kindOf x = some .globalImplicit := by rfl) (hd : (x == ("__debug__" : Str)) = false := by decide) :
    wpAny (model prog w) (A₀.deeper (envOf name scope L a cd)) (noteFrame (.ref e) (envOf name scope L a cd))
      (fun _ s₂ => wpAny (model prog w) (A₀.deeper (envOf name scope L a cd)) (setFlight (.ref e) none) (fun _ s₃ =>
        wpAny (model prog w) (A₀.deeper (envOf name scope L a cd)) (handleBy (.ref e) (envOf name scope L a cd) (.ExceptHandler (some (.Name x np)) (some n) (b₀ :: suite) pos :: rest)) Q E s₃) E s₂) E s' := by
  obtain ⟨B, hB, hBG, hl, hfl⟩ := R
  have hL : B.get? L = none := by
    obtain ⟨_, ⟨L', _, hf, hn', _⟩, _⟩ := hfl.2.2.1
    obtain rfl : L = L' := Option.some.inj hf
    exact hn'
  refine note_nextD (Around.frames_deeper K.stack) rfl hfl fun h₄ hheld₄ hsm₄ => ?_
  refine flight_noneD hheld₄ fun h₅ hheld hsm₅' => ?_
  have hsm₅ := hsm₄.trans hsm₅'
  obtain ⟨g₅, T₅, F₅, K₅⟩ := kts_ground K F hBG hheld.1 (hsm.trans hsm₅)
  have X₅ : KF.In g₅ := XB.keeps K₅.stays
  have P₅ : TopRead p loose mg mb g₅ := topRead_of (TB.keeps K₅.stays)
  obtain ⟨ob, _, hob, hobc, _, _⟩ := hheld.there
  obtain ⟨nm, q', N, bs, bm, hdct, sn, sub, ab, col, dd, k0, k1, k2, k3, k5, newId, hC, hbase, hbT⟩ := kts_cls X₅ q
  have hC₅ := F₅.keep _ _ hC
  refine wpAny_handleBy_cons (codeAny_handlers_test (name_K F₅ X₅ P₅ ex ?_ hk hx hd)) (by intro q; cases q)
  refine wpAny_excMatches_sub_self hC₅ hob hobc hbase (codeAny_handlers_suite_as ?_)
  refine flight_noneD hheld fun h₆ hfl₆ hsm₆ => ?_
  obtain ⟨g₆, T₆, F₆, K₆⟩ := kts_ground K F hBG hfl₆.1 ((hsm.trans hsm₅).trans hsm₆)
  obtain ⟨oe, ws, hoe, hoec, hoedi, hoed⟩ := hfl₆.there
  have ne₆ : g₆.get? e = none := T₆.none_ _ (kts_fresh F hBG hfl₆.2.1 fun o ho m => by
    obtain ⟨_, o', ho', hd⟩ := K.frames.mem m
    rw [ho] at ho'
    cases ho'
    obtain ⟨sl, hs⟩ := ((hsm.trans hsm₅).trans hsm₆) _ _ (F.keep _ _ ho) hd
    rw [hoe] at hs
    cases hs
    exact hd _ hoed)
  have Nl : News g₆ L h₆ news := fun q hq => ⟨hfl₆.1 _ _ (hl q hq).1, (fun z => by have := (hl q hq).1; rw [z, hL] at this; cases this), T₆.none_ _ (kts_none F.keep (hl q hq).2.1)⟩
  have N₆ := News.more F₆ Nl hoe (fun es n q => by rw [hoed] at q; cases q) ne₆
  have X₆ : KF.In g₆ := XB.keeps K₆.stays
  have P₆ : Top p loose mean mg mb g₆ := TB.keeps K₆.stays
  have D₆ : KtsDicts (outer.filterMap (·.frame)) g₆ := Dd.turn T₆
  refine stN F₆ N₆ (fun h₇ F₇ N₇ => ?_) hk hlo
  exact k h₇ g₆ _ oe ws T₆ F₇ N₇ hoec hoedi hoed (fun p hp z => by have := (hl p hp).1; rw [z, hfl₆.2.1] at this; cases this) K₆ X₆ P₆ D₆
end
/-- the way back from a def that caught, the ground turned -/
def LeaveT (fs : List Addr) (h₀ : Heap) (L : Addr) (m : Str → Option Value) (g : Heap) (R : Result → Shared → Prop) (v : Value) (s' : Shared) : Prop :=
  ∃ g' L' m' news', KtsTurn fs g g' ∧ Fr g' L' s'.heap m' ∧ News g' L' s'.heap news' ∧ (Fr h₀ L s'.heap m → News h₀ L s'.heap news' → R (.ok (.ret v)) s')
section
variable {prog : Program} {w : World} {A₀ A : Around} {s : Shared} {base h₀ : Heap} {L : Addr} {m : Str → Option Value} {env : Env} {news : List (Addr × Obj)} {K : Frag} {p : Program} {loose : List Str} {mean : ExcName → Option Value} {mg mb : Str → Option Value}
  {R : Result → Shared → Prop} {name qual : Str} {params : Arguments} {body : List Stmt} {scope : Scope} {dV kV doc pm cdv ct oc : Value} {an od : Option Addr} {osl : Array (Option Value)} {f : Addr} {args : Args} {binds : List (Str × Value)}
/-- a def entered from the first frame, a catch within -/
theorem code_defT (B : Below A₀ base [] h₀) (F : Fr h₀ L s.heap m) (X₀ : K.In h₀) (N : News h₀ L s.heap news) (T : Top p loose mean mg mb h₀) (hA : A.frames = some [env]) (hf : env.frame = some L) (hke : env.scope.kind = .function)
    (ho : K.lookup f = some ⟨oc, od, .func (fnOf name qual params body scope dV kV doc pm an cdv ct), osl⟩) (hcd : codeIn K cdv qual = true) (hroom : A.depth < recursionLimit)
    (hbind : BindsTo s (fnOf name qual params body scope dV kV doc pm an cdv ct) args binds) (hloc : ∀ y ∈ binds, scope.names.lookup y.1 = some .local)
    (h : ∀ g L' h₁, Fr h₀ L g m → Fr g L' h₁ (fun y => binds.reverse.lookup y) → News g L' h₁ news → Below A base [env] g → K.In g → Top p loose mean mg mb g → KtsDicts ([env].filterMap (·.frame)) g →
      wpAny (model prog w) (A.deeper (envOf qual scope L' f cdv)) (execs body (envOf qual scope L' f cdv))
        (fun fl s' => LeaveT ([env].filterMap (·.frame)) h₀ L m g R (match fl with | .ret v => v | _ => .none) s')
        (fun e s' => wpAny (model prog w) (A.deeper (envOf qual scope L' f cdv)) (leaving (envOf qual scope L' f cdv) e) (fun _ s'' => R (.error e) s'') (fun e' s'' => R (.error e') s'') s')
        { s with heap := h₁, toks := s.toks + binds.length })
    (hco : scope.isCoroutine = false) (hgen : scope.isGenerator = false) (hk : scope.kind = .function)
    (hcell : ∀ x ∈ scope.names, x.2 ≠ .cell) : codeAny (model prog w) A (.call (.ref f) args) R s := by
  have X := X₀.keeps F.keep
  obtain ⟨FG, BG, st, _⟩ := groundX (R := R) B F N hA hf hke
  obtain ⟨oL, es, ep, hLg, hLd, hLk, hLf⟩ := FG.ns
  refine codeAny_call_def (fd := fnOf name qual params body scope dV kV doc pm an cdv ct) (body := body) (binds := binds) hroom (X _ _ ho) rfl (T.nolimit.keeps F.keep) (codeRec_of X hcd) rfl hbind hcell hloc (fun h₁ hns hk₁ => ?_) hco hgen hk
  refine wpAny_mono (h _ s.heap.objs.size h₁ FG ⟨hns, fun b o e => hk₁ b o (of_hideAll _ e), Nat.le_of_eq (hideAll_size _ _)⟩
    (fun p hp => ⟨hk₁ _ _ (N p hp).1, Nat.ne_of_lt (Heap.lt_size (N p hp).1), hideAll_none _ (List.mem_map_of_mem hp)⟩) BG (X₀.keeps st) (T.keeps st) (fun b hb => by
      rcases mem_frames hf hb with rfl | z
      · exact ⟨oL, es, ep, hLg, hLd⟩
      · simp at z)) (fun fl s' hl => ?_) fun _ _ y => y
  obtain ⟨g', L', m', news', T', F', N', k⟩ := hl
  have nL₀ : h₀.get? L = none := kts_self F
  obtain ⟨sl, hs⟩ := T'.up hLg
  refine k ⟨⟨_, es, ep, F'.keep _ _ hs, hLd, hLk, hLf⟩, fun b o e => F'.keep b o (T'.other b o (st b o e) (fun q => by
    rcases mem_frames hf q with z | z
    · rw [z, nL₀] at e
      cases e
    · simp at z)), F.above⟩ fun p hp => ⟨(N' p hp).1, fun q => ?_, ?_⟩
  · have := (N' p hp).2.2; rw [q, hs] at this; cases this
  · cases q : h₀.get? p.1 with
    | none => rfl
    | some o =>
      obtain ⟨sl', hs'⟩ := T'.up (st _ _ q)
      have := (N' p hp).2.2
      rw [hs'] at this
      cases this
end

end
theorem anew8 : True := by
  w_top off
  k_with_none
  k_with "gen" => (refine cut_genF ?_; intro q9 hq9)
  k_with "CutEnd" => (refine cut_in (by assumption) ?_)
  k_with "allLt" => (first | assumption | (rename _ ∧ _ => h9; obtain ⟨h91, h92⟩ := h9; k_extra "allLt"))
  k_with "call builtin:len" => (k_here; (with_reducible show wpAny _ _ (call (Value.builtin "len") [Value.ref _]) _ _ _); k_dflt (refine' len_led (by first | (k_asm) | fail) (by first | (k_mem) | fail) (by first | (omega) | fail) ?_; k_whole))
  k_with "exec For" => (k_here; (rename Fr _ _ _ _ => lF'); (with_unfolding_all refine' For_invVF lF' (by first | (k_dflt (exact rfl)) | fail) (by first | (k_dflt (exact rfl)) | fail) ?_; k_whole))
  k_with "exec For Name Attribute cons nil" => (walk_at "exec For")
  k_with "exec For Name Name cons nil" => (walk_at "exec For")
  k_with "exec For Name Call cons nil" => (walk_at "exec For")
  k_with "room" => (first | omega | (dsimp only [ktrTop, Around.deeper, Around.in1] at *; omega))
  k_with "enter" => (refine wpAny_call ?_; k_dflt cell_enter; (try generalize List.length (List.filterMap _ _) = ln9); k_extra "gen")
  k_with "getAttr ref" => (k_here; k_dflt (refine' get_own (by first | (k_asm) | fail) (by first | (k_asm) | fail) (by first | (k_inst) | fail) (by first | (k_is) | fail) (by first | (k_is) | fail) (by first | (k_is) | fail) (by first | (k_is) | fail) (by first | (assumption) | fail) (by first | (rfl) | fail) ?_; k_whole))
  k_with "small" => (first | omega | (simp only [List.length_append, List.length_cons, List.length_nil]; omega))
  k_with "call builtin:list.append" => (k_here; (with_reducible show wpAny _ _ (call (Value.builtin _) [Value.ref _, _]) _ _ _); k_dflt (refine' append_led (by first | (k_asm) | fail) (by first | (k_asm) | fail) (by first | (k_upd) | fail) (by first | (k_extra "small") | fail) ?_; k_whole); intro h' F' N'; (try k_sweep))
  k_with "turn map" => (intro z hz hp9 hs; (try dsimp only [kstB]); first | (simp only [hz, hs, if_false, Bool.false_eq_true]; done) | (have hz2 := hp9 _ (.head _); dsimp only at hz2; simp only [hz, hz2, hs, if_false, Bool.false_eq_true]; done) | (have hz2 := hp9 _ (.head _); have hz3 := hp9 _ (.tail _ (.head _)); dsimp only at hz2 hz3; simp only [hz, hz2, hz3, hs, if_false, Bool.false_eq_true]; done) | (have hs2 := hs; simp only [List.contains_cons, List.contains_nil, Bool.or_false, Bool.or_eq_false_iff, beq_eq_false_iff_ne, ne_eq] at hs2; simp only [hz, hs, hs2, if_false, Bool.false_eq_true]; done) | (have hz2 := hp9 _ (.head _); dsimp only at hz2; have hs2 := hs; simp only [List.contains_cons, List.contains_nil, Bool.or_false, Bool.or_eq_false_iff, beq_eq_false_iff_ne, ne_eq] at hs2; simp only [hz, hz2, hs, hs2, if_false, Bool.false_eq_true]))
  k_with "turn end 1" => (first | refine TurnEnd.next _ (by assumption) (by assumption) ?_ ?_ (by exact fun _ hp => nomatch hp) (by k_extra "turn map") | refine TurnEnd.cont _ (by assumption) (by assumption) ?_ ?_ (by exact fun _ hp => nomatch hp) (by k_extra "turn map"))
  k_with "turn end 2" => (first | refine TurnEnd.next (_, _) (by assumption) (by assumption) ?_ ?_ (by exact fun _ hp => nomatch hp) (by k_extra "turn map") | refine TurnEnd.cont (_, _) (by assumption) (by assumption) ?_ ?_ (by exact fun _ hp => nomatch hp) (by k_extra "turn map"))
  k_with "turn end 3" => (first | refine TurnEnd.next (_, _, _) (by assumption) (by assumption) ?_ ?_ (by exact fun _ hp => nomatch hp) (by k_extra "turn map") | refine TurnEnd.cont (_, _, _) (by assumption) (by assumption) ?_ ?_ (by exact fun _ hp => nomatch hp) (by k_extra "turn map"))
  first | walk1 | exact True.intro
section
open PySem PySem.W PyProof.Rows PySem.Calls
section
variable {prog : Program} {w : World} {A : Around} {E : Value → Shared → Prop} {s : Shared} {K : Frag} {x C L : Addr} {ox : Obj} {od : Option Obj} {name : Str} {expr : Bool} {Q : Value → Shared → Prop} {h₀ : Heap} {m : Str → Option Value}
theorem get_exc {v : Value} (X : K.In s.heap) (I : InstAt s.heap x ox C od) (hga : findIn K (.ref C) "__getattribute__" = some (some (.builtin "BaseException.__getattribute__")))
    (hgt : findIn K (.ref C) "__getattr__" = some none) (hb : mroIn K C (.type "BaseException") = some true)
    (hf : findObj K C od name = some (.value v)) (hh : handedIn v = true) (h : Q v { s with toks := s.toks + 1 }) : wpAny (model prog w) A (getAttr (.ref x) name expr) Q E s := by
  obtain ⟨hp, g, d, t, os⟩ := s
  have L0 := I.type (M := model prog w)
  have L1 := looks_findIn (M := model prog w) X hga
  have L2 := looks_findIn (M := model prog w) X hgt
  have L3 := looks_find (M := model prog w) X I hf
  have sub : Looks (model prog w) hp (isInstance (.ref x) (.type "BaseException")) true := L0.andThen (looks_mroIn X hb)
  have f3 := PySem.F.attrBase_Exception.ga.bind (.ref x)
  have hx0 : (expr && onTheHeap (Value.builtin "BaseException.__getattribute__")) = false := by cases expr <;> rfl
  have hx2 : (Value.builtin "BaseException.__getattribute__" == Value.builtin "object.__getattribute__") = false := by decide +kernel
  have hx1 : (onTheHeap (Value.ref C) && Value.builtin "BaseException.__getattribute__" == Value.builtin "object.__getattribute__") = false := by rw [hx2]; rfl
  unfold getAttr getAttrBy
  refine wpAny_bind (wpAny_mkText (wpAny_holding (wpAny_bind (L0.at (wpAny_bind (L1.at ?_))))))
  dsimp only
  rw [if_neg (by rw [hx1]; decide)]
  unfold getAttrByItsOwn hookBefore callGetattribute
  rw [show onTheHeap (Value.ref C) = true from rfl, if_pos rfl, if_neg (by rw [hx0]; decide)]
  refine wpAny_bind (L2.at ?_)
  refine wpAny_bind (wpAny_attempt (wpAny_holding ?_))
  unfold boundAndCalled
  rw [f3]
  refine wpAny_bind (wpAny_pure ?_)
  dsimp only
  refine wpAny_call (codeAny_call_builtin PySem.F.attrBase_Exception.ga.plain PySem.F.entry_bexc_ga ?_)
  refine @check_slot (model prog w) _ _ _ "BaseException.__getattribute__" "BaseException" "__getattribute__" (.ref x) [.str name t] [] _ (by decide +kernel) (by decide +kernel) sub (PySem.F.args_bexc_ga (.ref x) (.str name t)) ?_
  refine wpAny_bind (wpAny_pure (wpAny_bind (wpAny_pure (wpAny_bind (L0.at (wpAny_bind (L3.at ?_)))))))
  refine wpAny_pure ?_
  show wpAny _ _ (handedOut v) _ _ _
  rw [handedOut_of hh]; exact wpAny_pure h
end

end
theorem anew9 : True := by
  w_top off
  k_with_none
  k_with "gen" => (refine cut_genF ?_; intro q9 hq9)
  k_with "CutEnd" => (refine cut_in (by assumption) ?_)
  k_with "allLt" => (first | assumption | (rename _ ∧ _ => h9; obtain ⟨h91, h92⟩ := h9; k_extra "allLt"))
  k_with "call builtin:len" => (k_here; (with_reducible show wpAny _ _ (call (Value.builtin "len") [Value.ref _]) _ _ _); k_dflt (refine' len_led (by first | (k_asm) | fail) (by first | (k_mem) | fail) (by first | (omega) | fail) ?_; k_whole))
  k_with "exec For" => (k_here; (rename Fr _ _ _ _ => lF'); (with_unfolding_all refine' For_invVF lF' (by first | (k_dflt (exact rfl)) | fail) (by first | (k_dflt (exact rfl)) | fail) ?_; k_whole))
  k_with "exec For Name Attribute cons nil" => (walk_at "exec For")
  k_with "exec For Name Name cons nil" => (walk_at "exec For")
  k_with "exec For Name Call cons nil" => (walk_at "exec For")
  k_with "room" => (first | omega | (dsimp only [ktrTop, Around.deeper, Around.in1] at *; omega))
  k_with "enter" => (refine wpAny_call ?_; k_dflt cell_enter; (try generalize List.length (List.filterMap _ _) = ln9); k_extra "gen")
  k_with "getAttr ref" => (k_here; k_dflt (refine' get_own (by first | (k_asm) | fail) (by first | (k_asm) | fail) (by first | (k_inst) | fail) (by first | (k_is) | fail) (by first | (k_is) | fail) (by first | (k_is) | fail) (by first | (k_is) | fail) (by first | (assumption) | fail) (by first | (rfl) | fail) ?_; k_whole))
  k_with "small" => (first | omega | (simp only [List.length_append, List.length_cons, List.length_nil]; omega))
  k_with "call builtin:list.append" => (k_here; (with_reducible show wpAny _ _ (call (Value.builtin _) [Value.ref _, _]) _ _ _); k_dflt (refine' append_led (by first | (k_asm) | fail) (by first | (k_asm) | fail) (by first | (k_upd) | fail) (by first | (k_extra "small") | fail) ?_; k_whole); intro h' F' N'; (try k_sweep))
  k_with "turn map" => (intro z hz hp9 hs; (try dsimp only [kstB]); first | (simp only [hz, hs, if_false, Bool.false_eq_true]; done) | (have hz2 := hp9 _ (.head _); dsimp only at hz2; simp only [hz, hz2, hs, if_false, Bool.false_eq_true]; done) | (have hz2 := hp9 _ (.head _); have hz3 := hp9 _ (.tail _ (.head _)); dsimp only at hz2 hz3; simp only [hz, hz2, hz3, hs, if_false, Bool.false_eq_true]; done) | (have hs2 := hs; simp only [List.contains_cons, List.contains_nil, Bool.or_false, Bool.or_eq_false_iff, beq_eq_false_iff_ne, ne_eq] at hs2; simp only [hz, hs, hs2, if_false, Bool.false_eq_true]; done) | (have hz2 := hp9 _ (.head _); dsimp only at hz2; have hs2 := hs; simp only [List.contains_cons, List.contains_nil, Bool.or_false, Bool.or_eq_false_iff, beq_eq_false_iff_ne, ne_eq] at hs2; simp only [hz, hz2, hs, hs2, if_false, Bool.false_eq_true]))
  k_with "turn end 1" => (first | refine TurnEnd.next _ (by assumption) (by assumption) ?_ ?_ (by exact fun _ hp => nomatch hp) (by k_extra "turn map") | refine TurnEnd.cont _ (by assumption) (by assumption) ?_ ?_ (by exact fun _ hp => nomatch hp) (by k_extra "turn map"))
  k_with "turn end 2" => (first | refine TurnEnd.next (_, _) (by assumption) (by assumption) ?_ ?_ (by exact fun _ hp => nomatch hp) (by k_extra "turn map") | refine TurnEnd.cont (_, _) (by assumption) (by assumption) ?_ ?_ (by exact fun _ hp => nomatch hp) (by k_extra "turn map"))
  k_with "turn end 3" => (first | refine TurnEnd.next (_, _, _) (by assumption) (by assumption) ?_ ?_ (by exact fun _ hp => nomatch hp) (by k_extra "turn map") | refine TurnEnd.cont (_, _, _) (by assumption) (by assumption) ?_ ?_ (by exact fun _ hp => nomatch hp) (by k_extra "turn map"))
  first | walk1 | exact True.intro
section
open PySem PySem.W PyProof.Rows PySem.Calls
abbrev bmB51 : List Value := [.type "Exception", .type "BaseException", .type "object"]
theorem rf_cls (P : Params) : excOf (hd.heap_39 P) 51 (.ref 31 :: bmB51) bmB51 "Exception.__new__" = true := by kernel_rfl
theorem rf_init (P : Params) : findIn (hd.heap_39 P) (.ref 51) "__init__" = some (some (.ref 48)) := by kernel_rfl
theorem rf_fn (P : Params) : typeIn (hd.heap_39 P) (.ref 48) = some (.type "function") := by kernel_rfl
theorem rf_set (P : Params) : findIn (hd.heap_39 P) (.ref 51) "__setattr__" = some (some (.builtin "object.__setattr__")) := by kernel_rfl
theorem rf_ga (P : Params) : findIn (hd.heap_39 P) (.ref 51) "__getattribute__" = some (some (.builtin "BaseException.__getattribute__")) := by kernel_rfl
theorem rf_gt (P : Params) : findIn (hd.heap_39 P) (.ref 51) "__getattr__" = some none := by kernel_rfl
theorem rf_msg (P : Params) : findIn (hd.heap_39 P) (.ref 51) "message" = some none := by kernel_rfl
theorem rf_only (P : Params) : (clsIn (hd.heap_39 P) 51).any (fun cd => onlyExc cd.mro) = true := by kernel_rfl
theorem rf_dict (P : Params) : (clsIn (hd.heap_39 P) 51).any (·.hasDict) = true := by kernel_rfl
theorem rf_taker (P : Params) : takerIn (hd.heap_39 P) 51 "message" = some none := by kernel_rfl
theorem rf_mro (P : Params) : mroIn (hd.heap_39 P) 51 (.type "BaseException") = some true := by kernel_rfl
theorem rf_kts (P : Params) : ktsIn (hd.heap_39 P) 51 "BaseException" = true := by kernel_rfl
theorem rf_name (P : Params) : nsIn (hd.heap_39 P) mainGlobals "Refusal" = some (some (.ref 51)) := by kernel_rfl
theorem rf_get (P : Params) {es : List DictEntry} {n : Nat} {v : Value} (h : getL "message" es = some (some v)) : findObj (hd.heap_39 P) 51 (some (dictOf es n)) "message" = some (.value v) :=
  findObj_own (rf_dict P) (rf_msg P) (by kernel_rfl) h

end
theorem anew10 : True := by
  w_top off
  k_with_none
  k_with "gen" => (refine cut_genF ?_; intro q9 hq9)
  k_with "CutEnd" => (refine cut_in (by assumption) ?_)
  k_with "allLt" => (first | assumption | (rename _ ∧ _ => h9; obtain ⟨h91, h92⟩ := h9; k_extra "allLt"))
  k_with "call builtin:len" => (k_here; (with_reducible show wpAny _ _ (call (Value.builtin "len") [Value.ref _]) _ _ _); k_dflt (refine' len_led (by first | (k_asm) | fail) (by first | (k_mem) | fail) (by first | (omega) | fail) ?_; k_whole))
  k_with "exec For" => (k_here; (rename Fr _ _ _ _ => lF'); (with_unfolding_all refine' For_invVF lF' (by first | (k_dflt (exact rfl)) | fail) (by first | (k_dflt (exact rfl)) | fail) ?_; k_whole))
  k_with "exec For Name Attribute cons nil" => (walk_at "exec For")
  k_with "exec For Name Name cons nil" => (walk_at "exec For")
  k_with "exec For Name Call cons nil" => (walk_at "exec For")
  k_with "room" => (first | omega | (dsimp only [ktrTop, Around.deeper, Around.in1] at *; omega))
  k_with "enter" => (refine wpAny_call ?_; k_dflt cell_enter; (try generalize List.length (List.filterMap _ _) = ln9); k_extra "gen")
  k_with "getAttr ref" => (k_here; k_dflt (refine' get_own (by first | (k_asm) | fail) (by first | (k_asm) | fail) (by first | (k_inst) | fail) (by first | (k_is) | fail) (by first | (k_is) | fail) (by first | (k_is) | fail) (by first | (k_is) | fail) (by first | (assumption) | fail) (by first | (rfl) | fail) ?_; k_whole))
  k_with "small" => (first | omega | (simp only [List.length_append, List.length_cons, List.length_nil]; omega))
  k_with "call builtin:list.append" => (k_here; (with_reducible show wpAny _ _ (call (Value.builtin _) [Value.ref _, _]) _ _ _); k_dflt (refine' append_led (by first | (k_asm) | fail) (by first | (k_asm) | fail) (by first | (k_upd) | fail) (by first | (k_extra "small") | fail) ?_; k_whole); intro h' F' N'; (try k_sweep))
  k_with "turn map" => (intro z hz hp9 hs; (try dsimp only [kstB]); first | (simp only [hz, hs, if_false, Bool.false_eq_true]; done) | (have hz2 := hp9 _ (.head _); dsimp only at hz2; simp only [hz, hz2, hs, if_false, Bool.false_eq_true]; done) | (have hz2 := hp9 _ (.head _); have hz3 := hp9 _ (.tail _ (.head _)); dsimp only at hz2 hz3; simp only [hz, hz2, hz3, hs, if_false, Bool.false_eq_true]; done) | (have hs2 := hs; simp only [List.contains_cons, List.contains_nil, Bool.or_false, Bool.or_eq_false_iff, beq_eq_false_iff_ne, ne_eq] at hs2; simp only [hz, hs, hs2, if_false, Bool.false_eq_true]; done) | (have hz2 := hp9 _ (.head _); dsimp only at hz2; have hs2 := hs; simp only [List.contains_cons, List.contains_nil, Bool.or_false, Bool.or_eq_false_iff, beq_eq_false_iff_ne, ne_eq] at hs2; simp only [hz, hz2, hs, hs2, if_false, Bool.false_eq_true]))
  k_with "turn end 1" => (first | refine TurnEnd.next _ (by assumption) (by assumption) ?_ ?_ (by exact fun _ hp => nomatch hp) (by k_extra "turn map") | refine TurnEnd.cont _ (by assumption) (by assumption) ?_ ?_ (by exact fun _ hp => nomatch hp) (by k_extra "turn map"))
  k_with "turn end 2" => (first | refine TurnEnd.next (_, _) (by assumption) (by assumption) ?_ ?_ (by exact fun _ hp => nomatch hp) (by k_extra "turn map") | refine TurnEnd.cont (_, _) (by assumption) (by assumption) ?_ ?_ (by exact fun _ hp => nomatch hp) (by k_extra "turn map"))
  k_with "turn end 3" => (first | refine TurnEnd.next (_, _, _) (by assumption) (by assumption) ?_ ?_ (by exact fun _ hp => nomatch hp) (by k_extra "turn map") | refine TurnEnd.cont (_, _, _) (by assumption) (by assumption) ?_ ?_ (by exact fun _ hp => nomatch hp) (by k_extra "turn map"))
  first | walk1 | exact True.intro
section
theorem oi_inj {a b : Option Int} (h : oi a = oi b) : a = b := by
  cases a <;> cases b <;> simp [oi] at h <;> simp [h]
theorem os_inj {a b : Option Str} (h : os a = os b) : a = b := by
  cases a <;> cases b <;> simp [os] at h <;> simp [h]
theorem map_inj' {α β : Type} {f : α → β} (hf : ∀ {a b}, f a = f b → a = b) : ∀ {l k : List α}, l.map f = k.map f → l = k
  | [], [], _ => rfl
  | [], _ :: _, h => by simp at h
  | _ :: _, [], h => by simp at h
  | a :: l, b :: k, h => by
    simp only [List.map_cons, List.cons.injEq] at h
    rw [hf h.1, map_inj' hf h.2]
theorem ok_oi (n : Nat) (ds : List (Option Int)) : ∀ d ∈ ds.map oi, kqdOk n d = true := fun d hd => by
  obtain ⟨x, _, rfl⟩ := List.mem_map.mp hd
  cases x <;> cases n <;> rfl
def StrsOk (ds : List (Option Str)) : Prop := ∀ x, some x ∈ ds → PyData.strOk x = true
theorem ok_os (n : Nat) {ds : List (Option Str)} (h : StrsOk ds) : ∀ d ∈ ds.map os, kqdOk n d = true := fun d hd => by
  obtain ⟨x, hx, rfl⟩ := List.mem_map.mp hd
  cases x with
  | none => cases n <;> rfl
  | some x => have := h x hx; cases n <;> exact this
theorem kqd_none (n : Nat) : kqdOk n Dat.none = true := by cases n <;> rfl
theorem kqd_int (n : Nat) (i : Int) : kqdOk n (Dat.int i) = true := by cases n <;> rfl
theorem kqd_strn (n : Nat) {x : Str} (h : PyData.strOk x = true) : kqdOk n (Dat.str x) = true := by cases n <;> exact h
section
variable {prog : Program} {w : World} {A : Around} {E : Value → Shared → Prop} {s : Shared} {h₀ : Heap} {L a b : Addr} {news : List (Addr × Obj)} {Q : Value → Shared → Prop}
open Classical in
theorem dat_eq {va vb : Value} {da db : Dat} (N : News h₀ L s.heap news) (Da : DatIn news va da) (Db : DatIn news vb db) (ha : kqdOk 8 da = true) (hb : kqdOk 8 db = true) (hu : A.units + 64 < cLine)
    (h : ∀ c : Bool, (c = true ↔ da = db) → Q (.bool c) s) : wpAny (model prog w) A (compareOp .Eq va vb) Q E s := by
  obtain ⟨as, ra⟩ := kqd_in N 8 Da ha
  obtain ⟨bs, rb⟩ := kqd_in N 8 Db hb
  have la := kqd_lay 8 da ha
  have lb := kqd_lay 8 db hb
  have e : PyData.eqv (kqdP da) (kqdP db) = decide (da = db) := by
    have q := kqd_eqv 8 da db 8 ha hb
    by_cases hq : da = db
    · rw [decide_eq_true hq]; exact q.mpr hq
    · rw [decide_eq_false hq]; exact Bool.eq_false_iff.mpr fun x => hq (q.mp x)
  refine eq_dataH ra rb ?_ ?_ hu (by rw [e]; exact h _ decide_eq_true_iff)
  · unfold SeqAt.shaped; rw [la.1, Bool.true_and]; exact decide_eq_true (Nat.le_trans la.2 (by decide))
  · unfold SeqAt.shaped; rw [lb.1, Bool.true_and]; exact decide_eq_true (Nat.le_trans lb.2 (by decide))
open Classical in
theorem dat_ne {va vb : Value} {da db : Dat} (N : News h₀ L s.heap news) (Da : DatIn news va da) (Db : DatIn news vb db) (ha : kqdOk 8 da = true) (hb : kqdOk 8 db = true) (hu : A.units + 64 < cLine)
    (h : ∀ c : Bool, (c = true ↔ da = db) → Q (.bool (!c)) s) : wpAny (model prog w) A (compareOp .NotEq va vb) Q E s := by
  obtain ⟨as, ra⟩ := kqd_in N 8 Da ha
  obtain ⟨bs, rb⟩ := kqd_in N 8 Db hb
  have la := kqd_lay 8 da ha
  have lb := kqd_lay 8 db hb
  have e : PyData.eqv (kqdP da) (kqdP db) = decide (da = db) := by
    have q := kqd_eqv 8 da db 8 ha hb
    by_cases hq : da = db
    · rw [decide_eq_true hq]; exact q.mpr hq
    · rw [decide_eq_false hq]; exact Bool.eq_false_iff.mpr fun x => hq (q.mp x)
  refine ne_dataH ra rb ?_ ?_ hu (by rw [e]; exact h _ decide_eq_true_iff)
  · unfold SeqAt.shaped; rw [la.1, Bool.true_and]; exact decide_eq_true (Nat.le_trans la.2 (by decide))
  · unfold SeqAt.shaped; rw [lb.1, Bool.true_and]; exact decide_eq_true (Nat.le_trans lb.2 (by decide))
theorem none_sub {news : List (Addr × Obj)} : ∀ p ∈ ([] : List (Addr × Obj)), p ∈ news := fun _ h => nomatch h
theorem OIs.dat {vs : List Value} {ds : List (Option Int)} {n : Nat} (h : OIs vs ds) (hm : (a, listOf vs.toArray n) ∈ news) : DatIn news (.ref a) (.list (ds.map oi)) := .list hm (DatAll.mono none_sub h)
theorem OSs.dat {vs : List Value} {ds : List (Option Str)} {n : Nat} (h : OSs vs ds) (hm : (a, listOf vs.toArray n) ∈ news) : DatIn news (.ref a) (.list (ds.map os)) := .list hm (DatAll.mono none_sub h)
theorem OIv.datn {v : Value} {d : Option Int} (h : OIv v d) : DatIn news v (oi d) := DatIn.mono none_sub h.dat
theorem OSv.datn {v : Value} {d : Option Str} (h : OSv v d) : DatIn news v (os d) := DatIn.mono none_sub h.dat
theorem ok_list (n : Nat) {ds : List Dat} (h : ∀ d ∈ ds, kqdOk n d = true) : kqdOk (n + 1) (.list ds) = true := by simpa [kqdOk] using h
theorem ok_tup (n : Nat) {ds : List Dat} (h : ∀ d ∈ ds, kqdOk n d = true) : kqdOk (n + 1) (.tuple ds) = true := by simpa [kqdOk] using h
theorem said_dat {t r : Addr} {ws : List Value} {ds : List (Option Int)} {nr nt : Nat} (ht : (t, tupO [.ref r, .none] nt) ∈ news) (hr : (r, listOf ws.toArray nr) ∈ news) (h : OIs ws ds) : DatIn news (.ref t) (.tuple [.list (ds.map oi), .none]) :=
  .tuple ht (.cons (h.dat hr) (.cons .none .nil))
theorem said_ok8 (ds : List (Option Int)) : kqdOk 8 (.tuple [.list (ds.map oi), .none]) = true := ok_tup 7 fun d hd => by
  rcases List.mem_cons.mp hd with rfl | hd
  · exact ok_list 6 (ok_oi 6 ds)
  · rw [List.mem_singleton.mp hd]; exact kqd_none 7
theorem dec_inj {α β : Type} [DecidableEq α] {f : α → β} {a b : α} {c : Bool} (hc : c = true ↔ f a = f b) (hf : f a = f b → a = b) : c = decide (a = b) := by
  by_cases h : a = b
  · rw [decide_eq_true h]; exact hc.mpr (by rw [h])
  · rw [decide_eq_false h]; exact Bool.eq_false_iff.mpr fun q => h (hf (hc.mp q))
/-- two answers of _law_said -/
theorem said_eq {t₁ r₁ t₂ r₂ : Addr} {ws₁ ws₂ : List Value} {d₁ d₂ : List (Option Int)} {n₁ m₁ n₂ m₂ : Nat} (N : News h₀ L s.heap news)
    (a1 : (t₁, tupO [.ref r₁, .none] m₁) ∈ news) (b1 : (r₁, listOf ws₁.toArray n₁) ∈ news) (c1 : OIs ws₁ d₁) (a2 : (t₂, tupO [.ref r₂, .none] m₂) ∈ news) (b2 : (r₂, listOf ws₂.toArray n₂) ∈ news) (c2 : OIs ws₂ d₂) (hu : A.units + 64 < cLine)
    (h : Q (.bool (decide (d₁ = d₂))) s) : wpAny (model prog w) A (compareOp .Eq (.ref t₁) (.ref t₂)) Q E s := by
  refine dat_eq N (said_dat a1 b1 c1) (said_dat a2 b2 c2) (said_ok8 _) (said_ok8 _) hu fun c hc => ?_
  rw [dec_inj (f := fun d : List (Option Int) => Dat.tuple [.list (d.map oi), .none]) (a := d₁) (b := d₂) hc (fun e => by simp only [Dat.tuple.injEq, List.cons.injEq, Dat.list.injEq, and_true] at e; exact map_inj' oi_inj e)]
  exact h
theorem said_ne {t₁ r₁ t₂ r₂ : Addr} {ws₁ ws₂ : List Value} {d₁ d₂ : List (Option Int)} {n₁ m₁ n₂ m₂ : Nat} (N : News h₀ L s.heap news)
    (a1 : (t₁, tupO [.ref r₁, .none] m₁) ∈ news) (b1 : (r₁, listOf ws₁.toArray n₁) ∈ news) (c1 : OIs ws₁ d₁) (a2 : (t₂, tupO [.ref r₂, .none] m₂) ∈ news) (b2 : (r₂, listOf ws₂.toArray n₂) ∈ news) (c2 : OIs ws₂ d₂) (hu : A.units + 64 < cLine)
    (h : Q (.bool (!decide (d₁ = d₂))) s) : wpAny (model prog w) A (compareOp .NotEq (.ref t₁) (.ref t₂)) Q E s := by
  refine dat_ne N (said_dat a1 b1 c1) (said_dat a2 b2 c2) (said_ok8 _) (said_ok8 _) hu fun c hc => ?_
  rw [dec_inj (f := fun d : List (Option Int) => Dat.tuple [.list (d.map oi), .none]) (a := d₁) (b := d₂) hc (fun e => by simp only [Dat.tuple.injEq, List.cons.injEq, Dat.list.injEq, and_true] at e; exact map_inj' oi_inj e)]
  exact h
/-- places and new names -/
theorem ext_dat {t r u : Addr} {ws us : List Value} {ds : List (Option Int)} {es : List (Option Str)} {nr nt nu : Nat} (ht : (t, tupO [.ref r, .ref u] nt) ∈ news) (hr : (r, listOf ws.toArray nr) ∈ news) (h : OIs ws ds) (hu : (u, listOf us.toArray nu) ∈ news) (k : OSs us es) :
    DatIn news (.ref t) (.tuple [.list (ds.map oi), .list (es.map os)]) := .tuple ht (.cons (h.dat hr) (.cons (k.dat hu) .nil))
theorem ext_ok8 (ds : List (Option Int)) {es : List (Option Str)} (h : StrsOk es) : kqdOk 8 (.tuple [.list (ds.map oi), .list (es.map os)]) = true := ok_tup 7 fun d hd => by
  rcases List.mem_cons.mp hd with rfl | hd
  · exact ok_list 6 (ok_oi 6 ds)
  · rw [List.mem_singleton.mp hd]; exact ok_list 6 (ok_os 6 h)
theorem ext_eq {t₁ r₁ u₁ t₂ r₂ u₂ : Addr} {ws₁ ws₂ us₁ us₂ : List Value} {d : List (Option Int)} {e : List (Option Str)} {n₁ m₁ k₁ n₂ m₂ k₂ : Nat} (N : News h₀ L s.heap news) (ho : StrsOk e)
    (a1 : (t₁, tupO [.ref r₁, .ref u₁] m₁) ∈ news) (b1 : (r₁, listOf ws₁.toArray n₁) ∈ news) (c1 : OIs ws₁ d) (e1 : (u₁, listOf us₁.toArray k₁) ∈ news) (f1 : OSs us₁ e)
    (a2 : (t₂, tupO [.ref r₂, .ref u₂] m₂) ∈ news) (b2 : (r₂, listOf ws₂.toArray n₂) ∈ news) (c2 : OIs ws₂ d) (e2 : (u₂, listOf us₂.toArray k₂) ∈ news) (f2 : OSs us₂ e) (hu : A.units + 64 < cLine)
    (h : Q (.bool true) s) : wpAny (model prog w) A (compareOp .Eq (.ref t₁) (.ref t₂)) Q E s := by
  refine dat_eq N (ext_dat a1 b1 c1 e1 f1) (ext_dat a2 b2 c2 e2 f2) (ext_ok8 _ ho) (ext_ok8 _ ho) hu fun c hc => ?_
  rw [hc.mpr rfl]; exact h
/-- is a list empty -/
theorem ois_eq_nil {l k : Addr} {vs ks : List Value} {ds : List (Option Int)} {n m : Nat} (N : News h₀ L s.heap news) (hl : (l, listOf vs.toArray n) ∈ news) (hv : OIs vs ds) (hk : (k, listOf ([] : List Value).toArray m) ∈ news) (hu : A.units + 64 < cLine)
    (h : Q (.bool (decide (ds = []))) s) : wpAny (model prog w) A (compareOp .Eq (.ref l) (.ref k)) Q E s := by
  refine dat_eq N (hv.dat hl) (OIs.nil.dat hk) (ok_list 7 (ok_oi 7 ds)) (ok_list 7 (ok_oi 7 [])) hu fun c hc => ?_
  rw [dec_inj (f := fun d : List (Option Int) => Dat.list (d.map oi)) (a := ds) (b := []) hc (fun e => by simp only [Dat.list.injEq] at e; exact map_inj' oi_inj e)]
  exact h
theorem ois_ne_nil {l k : Addr} {vs ks : List Value} {ds : List (Option Int)} {n m : Nat} (N : News h₀ L s.heap news) (hl : (l, listOf vs.toArray n) ∈ news) (hv : OIs vs ds) (hk : (k, listOf ([] : List Value).toArray m) ∈ news) (hu : A.units + 64 < cLine)
    (h : Q (.bool (!decide (ds = []))) s) : wpAny (model prog w) A (compareOp .NotEq (.ref l) (.ref k)) Q E s := by
  refine dat_ne N (hv.dat hl) (OIs.nil.dat hk) (ok_list 7 (ok_oi 7 ds)) (ok_list 7 (ok_oi 7 [])) hu fun c hc => ?_
  rw [dec_inj (f := fun d : List (Option Int) => Dat.list (d.map oi)) (a := ds) (b := []) hc (fun e => by simp only [Dat.list.injEq] at e; exact map_inj' oi_inj e)]
  exact h
/-- two texts or lacking ones -/
theorem osv_eq {va vb : Value} {x y : Option Str} (N : News h₀ L s.heap news) (ha : OSv va x) (hb : OSv vb y) (hx : ∀ z, x = some z → PyData.strOk z = true) (hy : ∀ z, y = some z → PyData.strOk z = true) (hu : A.units + 64 < cLine)
    (h : Q (.bool (decide (x = y))) s) : wpAny (model prog w) A (compareOp .Eq va vb) Q E s := by
  have ok : ∀ {x : Option Str}, (∀ z, x = some z → PyData.strOk z = true) → kqdOk 8 (os x) = true := fun {x} hx => by
    cases x with
    | none => exact kqd_none 8
    | some z => exact kqd_strn 8 (hx z rfl)
  refine dat_eq N ha.datn hb.datn (ok hx) (ok hy) hu fun c hc => ?_
  rw [dec_inj (f := os) (a := x) (b := y) hc os_inj]
  exact h
end
section
variable {prog : Program} {w : World} {A : Around} {E : Value → Shared → Prop} {s : Shared} {h₀ : Heap} {L l : Addr} {news : List (Addr × Obj)} {Q : Value → Shared → Prop} {us : List Value} {ns : List Int} {n : Nat}
theorem oi_int (ns : List Int) : (ns.map some).map oi = ns.map Dat.int := by rw [List.map_map]; rfl
theorem ints_dat {us : List Value} {ns : List Int} (h : IntsAre us ns) : DatAll [] us (ns.map Dat.int) := by
  induction h with
  | nil => exact .nil
  | cons k t h ih => exact .cons (.int k t) ih
open Classical in
theorem ints_in {k : Int} {t : Tok} (N : News h₀ L s.heap news) (hm : (l, listOf us.toArray n) ∈ news) (hi : IntsAre us ns) (hu : A.units + 64 < cLine)
    (h : ∀ c : Bool, (c = true ↔ k ∈ ns) → Q (.bool c) s) : wpAny (model prog w) A (compareOp .In (.int k t) (.ref l)) Q E s := by
  refine kqd_isIn N hm rfl rfl (ints_dat hi) none_sub (DatIn.int (news := []) k t) none_sub (fun d hd => ?_) (kqd_int 8 k) hu (h _ ?_)
  · obtain ⟨x, _, rfl⟩ := List.mem_map.mp hd; exact kqd_int 8 x
  · rw [decide_eq_true_iff, List.mem_map]
    exact ⟨fun ⟨a, ha, e⟩ => by cases e; exact ha, fun h => ⟨k, h, rfl⟩⟩
theorem item_getD {value slice : PySem.Expr} {k : Int} {u : Tok} (N : News h₀ L s.heap news) (hm : (l, listOf us.toArray n) ∈ news) (hi : IntsAre us ns)
    (h0 : 0 ≤ k) (h1 : k < ns.length) (hfit : k < 2 ^ 62) (h : ∀ t, Q (.int (ns.getD k.toNat 0) t) s)
    (hs : subscripted slice false (.ref l) (.int k u) = operate [.ref l, .int k u] (getItem (.ref l) (.int k u)) := by with_unfolding_all rfl) :
    wpAny (model prog w) A (subscriptTail value slice (.ref l) (.int k u)) Q E s := by
  have hlt : k.toNat < ns.length := by omega
  obtain ⟨t, e⟩ := hi.get k.toNat ns[k.toNat] (List.getElem?_eq_getElem hlt)
  refine item_led N hm h0 hfit e ?_ hs
  have := h t
  rwa [List.getD_eq_getElem?_getD, List.getElem?_eq_getElem hlt] at this
theorem IntsAre.snoc {us : List Value} {ns : List Int} (h : IntsAre us ns) (k : Int) (t : Tok) : IntsAre (us ++ [.int k t]) (ns ++ [k]) := by
  induction h with
  | nil => exact .cons k t .nil
  | cons a b h ih => exact .cons a b ih
theorem OIs.ints : ∀ {us : List Value} {ns : List Int}, OIs us (ns.map some) → IntsAre us ns
  | [], [], _ => .nil
  | [], _ :: _, h => by have := h.length; simp at this
  | _ :: _, [], h => by have := h.length; simp at this
  | v :: us, k :: ns, h => by
    unfold OIs at h
    rw [List.map_cons, List.map_cons] at h
    cases h with
    | cons hd r =>
      have hd : DatIn [] v (Dat.int k) := hd
      cases hd
      exact .cons _ _ (OIs.ints r)
theorem said_ne_same {t₁ r₁ t₂ r₂ : Addr} {ws₁ ws₂ : List Value} {d₁ d₂ : List (Option Int)} {n₁ m₁ n₂ m₂ : Nat} (N : News h₀ L s.heap news)
    (a1 : (t₁, tupO [.ref r₁, .none] m₁) ∈ news) (b1 : (r₁, listOf ws₁.toArray n₁) ∈ news) (c1 : OIs ws₁ d₁) (a2 : (t₂, tupO [.ref r₂, .none] m₂) ∈ news) (b2 : (r₂, listOf ws₂.toArray n₂) ∈ news) (c2 : OIs ws₂ d₂) (hu : A.units + 64 < cLine) (e : d₁ = d₂)
    (h : Q (.bool false) s) : wpAny (model prog w) A (compareOp .NotEq (.ref t₁) (.ref t₂)) Q E s :=
  said_ne N a1 b1 c1 a2 b2 c2 hu (by rw [decide_eq_true e]; exact h)
end
theorem ois_of {ws : List Value} {d : List (Option Int)} {ns : List Int} (h : OIs ws d) (e : d = ns.map some) : OIs ws (ns.map some) := e ▸ h
theorem strs_at {ds : List (Option Str)} {i : Nat} {d : Option Str} {z : Str} (h : StrsOk ds) (e : ds[i]? = some d) (hz : d = some z) : PyData.strOk z = true := h z (hz ▸ List.mem_of_getElem? e)
theorem ne_of_off3 {I C D d : Addr} {o : Obj} {l : List (Addr × Obj)} (H : LCg.Off3 I C D l) (hm : (d, o) ∈ l) : I ≠ d ∧ C ≠ d ∧ D ≠ d := ⟨fun e => (H.mem _ hm).1 e.symm, fun e => (H.mem _ hm).2.1 e.symm, fun e => (H.mem _ hm).2.2 e.symm⟩
theorem strsOk_of {l : List (Option Str)} (h : (l.all fun d => match d with | some x => PyData.strOk x | none => true) = true) : StrsOk l := fun x hx => List.all_eq_true.mp h _ hx

end
theorem anew11 : True := by
  w_top off
  k_with_none
  k_with "gen" => (refine cut_genF ?_; intro q9 hq9)
  k_with "CutEnd" => (refine cut_in (by assumption) ?_)
  k_with "allLt" => (first | assumption | (rename _ ∧ _ => h9; obtain ⟨h91, h92⟩ := h9; k_extra "allLt"))
  k_with "call builtin:len" => (k_here; (with_reducible show wpAny _ _ (call (Value.builtin "len") [Value.ref _]) _ _ _); k_dflt (refine' len_led (by first | (k_asm) | fail) (by first | (k_mem) | fail) (by first | (omega) | fail) ?_; k_whole))
  k_with "exec For" => (k_here; (rename Fr _ _ _ _ => lF'); (with_unfolding_all refine' For_invVF lF' (by first | (k_dflt (exact rfl)) | fail) (by first | (k_dflt (exact rfl)) | fail) ?_; k_whole))
  k_with "exec For Name Attribute cons nil" => (walk_at "exec For")
  k_with "exec For Name Name cons nil" => (walk_at "exec For")
  k_with "exec For Name Call cons nil" => (walk_at "exec For")
  k_with "room" => (first | omega | (dsimp only [ktrTop, Around.deeper, Around.in1] at *; omega))
  k_with "enter" => (refine wpAny_call ?_; k_dflt cell_enter; (try generalize List.length (List.filterMap _ _) = ln9); k_extra "gen")
  k_with "getAttr ref" => (k_here; k_dflt (refine' get_own (by first | (k_asm) | fail) (by first | (k_asm) | fail) (by first | (k_inst) | fail) (by first | (k_is) | fail) (by first | (k_is) | fail) (by first | (k_is) | fail) (by first | (k_is) | fail) (by first | (assumption) | fail) (by first | (rfl) | fail) ?_; k_whole))
  k_with "small" => (first | omega | (simp only [List.length_append, List.length_cons, List.length_nil]; omega))
  k_with "call builtin:list.append" => (k_here; (with_reducible show wpAny _ _ (call (Value.builtin _) [Value.ref _, _]) _ _ _); k_dflt (refine' append_led (by first | (k_asm) | fail) (by first | (k_asm) | fail) (by first | (k_upd) | fail) (by first | (k_extra "small") | fail) ?_; k_whole); intro h' F' N'; (try k_sweep))
  k_with "turn map" => (intro z hz hp9 hs; (try dsimp only [kstB]); first | (simp only [hz, hs, if_false, Bool.false_eq_true]; done) | (have hz2 := hp9 _ (.head _); dsimp only at hz2; simp only [hz, hz2, hs, if_false, Bool.false_eq_true]; done) | (have hz2 := hp9 _ (.head _); have hz3 := hp9 _ (.tail _ (.head _)); dsimp only at hz2 hz3; simp only [hz, hz2, hz3, hs, if_false, Bool.false_eq_true]; done) | (have hs2 := hs; simp only [List.contains_cons, List.contains_nil, Bool.or_false, Bool.or_eq_false_iff, beq_eq_false_iff_ne, ne_eq] at hs2; simp only [hz, hs, hs2, if_false, Bool.false_eq_true]; done) | (have hz2 := hp9 _ (.head _); dsimp only at hz2; have hs2 := hs; simp only [List.contains_cons, List.contains_nil, Bool.or_false, Bool.or_eq_false_iff, beq_eq_false_iff_ne, ne_eq] at hs2; simp only [hz, hz2, hs, hs2, if_false, Bool.false_eq_true]))
  k_with "turn end 1" => (first | refine TurnEnd.next _ (by assumption) (by assumption) ?_ ?_ (by exact fun _ hp => nomatch hp) (by k_extra "turn map") | refine TurnEnd.cont _ (by assumption) (by assumption) ?_ ?_ (by exact fun _ hp => nomatch hp) (by k_extra "turn map"))
  k_with "turn end 2" => (first | refine TurnEnd.next (_, _) (by assumption) (by assumption) ?_ ?_ (by exact fun _ hp => nomatch hp) (by k_extra "turn map") | refine TurnEnd.cont (_, _) (by assumption) (by assumption) ?_ ?_ (by exact fun _ hp => nomatch hp) (by k_extra "turn map"))
  k_with "turn end 3" => (first | refine TurnEnd.next (_, _, _) (by assumption) (by assumption) ?_ ?_ (by exact fun _ hp => nomatch hp) (by k_extra "turn map") | refine TurnEnd.cont (_, _, _) (by assumption) (by assumption) ?_ ?_ (by exact fun _ hp => nomatch hp) (by k_extra "turn map"))
  first | walk1 | exact True.intro
section
def wholeTurn (ts : List (Option Int)) (i : Nat) : List (Option Int) := match ts[i % ts.length]? with
  | some none => [none]
  | some (some k) => if k = 1 then [some ((i : Int) + 1)] else []
  | none => []
def truthN (ts : List (Option Int)) (n : Nat) : Nat := if ts = [] then 0 else max n ts.length
def wholesOf (ts : List (Option Int)) (n : Nat) : List (Option Int) := (List.range (truthN ts n)).flatMap (wholeTurn ts)
theorem wholeTurn_len (ts : List (Option Int)) (i : Nat) : (wholeTurn ts i).length ≤ 1 := by
  unfold wholeTurn; split <;> (try split) <;> simp
theorem wholes_outs (ts : List (Option Int)) (n : Nat) : outsOf (wholesOf ts n) = [] := by
  unfold outsOf wholesOf
  rw [List.flatMap_assoc]
  rw [List.flatMap_eq_nil_iff]
  intro i _
  unfold wholeTurn
  split
  · simp [outOf]
  · split
    · simp [outOf]; omega
    · simp
  · simp
theorem flatMap_congr' {α β : Type} {l : List α} {f g : α → List β} (h : ∀ x ∈ l, f x = g x) : l.flatMap f = l.flatMap g := by
  induction l with
  | nil => rfl
  | cons x r ih => rw [List.flatMap_cons, List.flatMap_cons, h x (.head _), ih fun y hy => h y (.tail _ hy)]
theorem truths_law {ts : List (Option Int)} (hm : ∀ d ∈ ts, d = some 0 ∨ d = some 1 ∨ d = none) (n : Nat) : wholePlaces (wholesOf ts n) n = logicalPlaces ts n := by
  unfold wholePlaces
  rw [if_pos (wholes_outs ts n)]
  unfold placesOf wholesOf truthN logicalPlaces
  by_cases h : ts = []
  · subst h; simp
  · have h2 : ¬ ts.length = 0 := fun e => h (List.length_eq_zero_iff.mp e)
    rw [if_neg h, if_neg h2, List.flatMap_assoc]
    refine flatMap_congr' fun i _ => ?_
    unfold wholeTurn logicalTurn
    have hlt : i % ts.length < ts.length := Nat.mod_lt _ (by omega)
    rw [List.getElem?_eq_getElem hlt]
    rcases hm _ (List.getElem_mem hlt) with e | e | e
    · rw [e]; simp
    · rw [e]; simp [placeOf] <;> omega
    · rw [e]; simp [placeOf]

end
theorem anew12 : True := by
  w_top off
  k_with_none
  k_with "gen" => (refine cut_genF ?_; intro q9 hq9)
  k_with "CutEnd" => (refine cut_in (by assumption) ?_)
  k_with "allLt" => (first | assumption | (rename _ ∧ _ => h9; obtain ⟨h91, h92⟩ := h9; k_extra "allLt"))
  k_with "call builtin:len" => (k_here; (with_reducible show wpAny _ _ (call (Value.builtin "len") [Value.ref _]) _ _ _); k_dflt (refine' len_led (by first | (k_asm) | fail) (by first | (k_mem) | fail) (by first | (omega) | fail) ?_; k_whole))
  k_with "exec For" => (k_here; (rename Fr _ _ _ _ => lF'); (with_unfolding_all refine' For_invVF lF' (by first | (k_dflt (exact rfl)) | fail) (by first | (k_dflt (exact rfl)) | fail) ?_; k_whole))
  k_with "exec For Name Attribute cons nil" => (walk_at "exec For")
  k_with "exec For Name Name cons nil" => (walk_at "exec For")
  k_with "exec For Name Call cons nil" => (walk_at "exec For")
  k_with "room" => (first | omega | (dsimp only [ktrTop, Around.deeper, Around.in1] at *; omega))
  k_with "enter" => (refine wpAny_call ?_; k_dflt cell_enter; (try generalize List.length (List.filterMap _ _) = ln9); k_extra "gen")
  k_with "getAttr ref" => (k_here; k_dflt (refine' get_own (by first | (k_asm) | fail) (by first | (k_asm) | fail) (by first | (k_inst) | fail) (by first | (k_is) | fail) (by first | (k_is) | fail) (by first | (k_is) | fail) (by first | (k_is) | fail) (by first | (assumption) | fail) (by first | (rfl) | fail) ?_; k_whole))
  k_with "small" => (first | omega | (simp only [List.length_append, List.length_cons, List.length_nil]; omega))
  k_with "call builtin:list.append" => (k_here; (with_reducible show wpAny _ _ (call (Value.builtin _) [Value.ref _, _]) _ _ _); k_dflt (refine' append_led (by first | (k_asm) | fail) (by first | (k_asm) | fail) (by first | (k_upd) | fail) (by first | (k_extra "small") | fail) ?_; k_whole); intro h' F' N'; (try k_sweep))
  k_with "turn map" => (intro z hz hp9 hs; (try dsimp only [kstB]); first | (simp only [hz, hs, if_false, Bool.false_eq_true]; done) | (have hz2 := hp9 _ (.head _); dsimp only at hz2; simp only [hz, hz2, hs, if_false, Bool.false_eq_true]; done) | (have hz2 := hp9 _ (.head _); have hz3 := hp9 _ (.tail _ (.head _)); dsimp only at hz2 hz3; simp only [hz, hz2, hz3, hs, if_false, Bool.false_eq_true]; done) | (have hs2 := hs; simp only [List.contains_cons, List.contains_nil, Bool.or_false, Bool.or_eq_false_iff, beq_eq_false_iff_ne, ne_eq] at hs2; simp only [hz, hs, hs2, if_false, Bool.false_eq_true]; done) | (have hz2 := hp9 _ (.head _); dsimp only at hz2; have hs2 := hs; simp only [List.contains_cons, List.contains_nil, Bool.or_false, Bool.or_eq_false_iff, beq_eq_false_iff_ne, ne_eq] at hs2; simp only [hz, hz2, hs, hs2, if_false, Bool.false_eq_true]))
  k_with "turn end 1" => (first | refine TurnEnd.next _ (by assumption) (by assumption) ?_ ?_ (by exact fun _ hp => nomatch hp) (by k_extra "turn map") | refine TurnEnd.cont _ (by assumption) (by assumption) ?_ ?_ (by exact fun _ hp => nomatch hp) (by k_extra "turn map"))
  k_with "turn end 2" => (first | refine TurnEnd.next (_, _) (by assumption) (by assumption) ?_ ?_ (by exact fun _ hp => nomatch hp) (by k_extra "turn map") | refine TurnEnd.cont (_, _) (by assumption) (by assumption) ?_ ?_ (by exact fun _ hp => nomatch hp) (by k_extra "turn map"))
  k_with "turn end 3" => (first | refine TurnEnd.next (_, _, _) (by assumption) (by assumption) ?_ ?_ (by exact fun _ hp => nomatch hp) (by k_extra "turn map") | refine TurnEnd.cont (_, _, _) (by assumption) (by assumption) ?_ ?_ (by exact fun _ hp => nomatch hp) (by k_extra "turn map"))
  first | walk1 | exact True.intro
section
def negsOf (as : List Int) : List (Option Int) := as.map fun a => some (0 - a)
def leftOf (as : List Int) (n : Nat) : List Int := (List.range n).flatMap fun (i : Nat) => if (i : Int) + 1 ∈ as then [] else [(i : Int)]
def truthsOf (as : List Int) (n : Nat) : List (Option Int) := (List.range n).map fun (j : Nat) => some (if (j : Int) + 1 ∈ as then 0 else 1)
def onceTurn (k : List Int) (j : Nat) : List Int := if j = 0 ∨ k.getD j 0 ≠ k.getD (j - 1) 0 then [k.getD j 0] else []
def onceOf (k : List Int) : List Int := (List.range k.length).flatMap (onceTurn k)
theorem negs_outs {as : List Int} (hm : ∀ a ∈ as, 1 ≤ a) : outsOf (negsOf as) = as.map (· - 1) := by
  unfold outsOf negsOf
  induction as with
  | nil => rfl
  | cons a r ih =>
    have h1 := hm a (.head _)
    have ih' := ih fun b hb => hm b (.tail _ hb)
    rw [List.map_cons, List.flatMap_cons, List.map_cons, ih']
    have : outOf (some (0 - a)) = [a - 1] := (if_pos (by omega)).trans (by congr 1; omega)
    rw [this]; rfl
theorem negs_places {as : List Int} (hm : ∀ a ∈ as, 1 ≤ a) : placesOf (negsOf as) = [] := by
  unfold placesOf negsOf
  rw [List.flatMap_eq_nil_iff]
  intro d hd
  obtain ⟨a, ha, rfl⟩ := List.mem_map.mp hd
  have := hm a ha
  exact if_neg (by omega)
theorem map_some_flat {l : List Nat} {f : Nat → List Int} : (l.flatMap f).map some = l.flatMap fun i => (f i).map some := by
  induction l with
  | nil => rfl
  | cons x r ih => rw [List.flatMap_cons, List.map_append, ih, List.flatMap_cons]
theorem negs_law {as : List Int} (hm : ∀ a ∈ as, 1 ≤ a) (hne : as ≠ []) (n : Nat) : wholePlaces (negsOf as) n = (leftOf as n).map some := by
  unfold wholePlaces
  rw [negs_outs hm, if_neg (by simpa using hne)]
  unfold leftOf
  rw [map_some_flat]
  refine flatMap_congr' fun i _ => ?_
  have e : ((i : Int) ∈ as.map (· - 1)) ↔ ((i : Int) + 1 ∈ as) := by
    rw [List.mem_map]
    constructor
    · rintro ⟨a, ha, e⟩; rw [← e]; simpa using ha
    · intro h; exact ⟨_, h, by omega⟩
  by_cases h : (i : Int) + 1 ∈ as
  · rw [if_pos (e.mpr h), if_pos h]; rfl
  · rw [if_neg (fun q => h (e.mp q)), if_neg h]; rfl
theorem truths_left (as : List Int) (n : Nat) : logicalPlaces (truthsOf as n) n = (leftOf as n).map some := by
  unfold logicalPlaces leftOf
  have hl : (truthsOf as n).length = n := by unfold truthsOf; simp
  rw [hl, map_some_flat]
  by_cases h : n = 0
  · subst h; simp
  · rw [if_neg h, Nat.max_self]
    refine flatMap_congr' fun i hi => ?_
    have hlt : i < n := List.mem_range.mp hi
    unfold logicalTurn
    rw [hl, Nat.mod_eq_of_lt hlt]
    have : (truthsOf as n)[i]? = some (some (if (i : Int) + 1 ∈ as then 0 else 1)) := by
      unfold truthsOf; rw [List.getElem?_map, List.getElem?_range hlt]; rfl
    rw [this]
    by_cases h : (i : Int) + 1 ∈ as <;> simp [h]
theorem mem_left {as : List Int} {n : Nat} {x : Int} : x ∈ leftOf as n ↔ 0 ≤ x ∧ x < n ∧ ¬ x + 1 ∈ as := by
  unfold leftOf
  rw [List.mem_flatMap]
  constructor
  · rintro ⟨i, hi, hx⟩
    have := List.mem_range.mp hi
    by_cases h : (i : Int) + 1 ∈ as
    · rw [if_pos h] at hx; cases hx
    · rw [if_neg h] at hx; rw [List.mem_singleton.mp hx]; exact ⟨by omega, by omega, h⟩
  · rintro ⟨h1, h2, h3⟩
    refine ⟨x.toNat, List.mem_range.mpr (by omega), ?_⟩
    rw [show ((x.toNat : Nat) : Int) = x by omega, if_neg h3]
    exact List.mem_singleton.mpr rfl
theorem left_rises (as : List Int) (n : Nat) : (leftOf as n).Pairwise (· < ·) := by
  induction n with
  | zero => exact List.Pairwise.nil
  | succ n ih =>
    unfold leftOf at ih ⊢
    rw [flat_range_succ]
    by_cases h : (n : Int) + 1 ∈ as
    · rw [if_pos h, List.append_nil]; exact ih
    · rw [if_neg h, List.pairwise_append]
      refine ⟨ih, List.pairwise_singleton _ _, fun x hx y hy => ?_⟩
      rw [List.mem_singleton.mp hy]
      have := (mem_left (as := as) (n := n) (x := x)).mp hx
      omega
theorem once_pre {k : List Int} (hs : k.Pairwise (· ≤ ·)) : ∀ i, i ≤ k.length → ((List.range i).flatMap (onceTurn k)).Pairwise (· < ·) ∧ ∀ x, x ∈ (List.range i).flatMap (onceTurn k) ↔ x ∈ k.take i := by
  intro i
  induction i with
  | zero => intro _; simp
  | succ i ih =>
    intro hi
    obtain ⟨p, q⟩ := ih (by omega)
    have hlt : i < k.length := by omega
    have hk : k.getD i 0 = k[i] := by rw [List.getD_eq_getElem?_getD, List.getElem?_eq_getElem hlt]; rfl
    have ht : k.take (i + 1) = k.take i ++ [k[i]] := take_snoc (List.getElem?_eq_getElem hlt)
    rw [flat_range_succ]
    have hle : ∀ x ∈ k.take i, x ≤ k.getD (i - 1) 0 := fun x hx => by
      obtain ⟨j, hj, e⟩ := List.mem_take_iff_getElem.mp hx
      have h1 : i - 1 < k.length := by omega
      have h2 : k.getD (i - 1) 0 = k[i - 1] := by rw [List.getD_eq_getElem?_getD, List.getElem?_eq_getElem h1]; rfl
      rw [h2, ← e]
      rcases Nat.lt_or_eq_of_le (show j ≤ i - 1 by omega) with h | h
      · exact List.pairwise_iff_getElem.mp hs j (i - 1) (by omega) h1 h
      · subst h; exact Int.le_refl _
    unfold onceTurn
    by_cases h : i = 0 ∨ k.getD i 0 ≠ k.getD (i - 1) 0
    · rw [if_pos h]
      refine ⟨List.pairwise_append.mpr ⟨p, List.pairwise_singleton _ _, fun x hx y hy => ?_⟩, fun x => ?_⟩
      · rw [List.mem_singleton.mp hy]
        have hx' := (q x).mp hx
        rcases h with h | h
        · subst h; simp at hx'
        · have h3 := hle x hx'
          have h4 : k.getD (i - 1) 0 ≤ k.getD i 0 := by
            by_cases e : i = 0
            · subst e; exact Int.le_refl _
            · have h1 : i - 1 < k.length := by omega
              have h2 : k.getD (i - 1) 0 = k[i - 1] := by rw [List.getD_eq_getElem?_getD, List.getElem?_eq_getElem h1]; rfl
              rw [h2, hk]
              exact List.pairwise_iff_getElem.mp hs (i - 1) i h1 hlt (by omega)
          omega
      · rw [List.mem_append, ht, List.mem_append, hk]
        have := q x
        unfold onceTurn at this
        rw [this]
    · rw [if_neg h, List.append_nil]
      refine ⟨p, fun x => ?_⟩
      have := q x
      unfold onceTurn at this
      rw [this, ht, List.mem_append]
      constructor
      · exact .inl
      · rintro (hx | hx)
        · exact hx
        · rw [List.mem_singleton.mp hx, ← hk]
          have h0 : i ≠ 0 := fun e => h (.inl e)
          have he : k.getD i 0 = k.getD (i - 1) 0 := Classical.byContradiction fun e => h (.inr e)
          have h1 : i - 1 < k.length := by omega
          rw [he, List.getD_eq_getElem?_getD, List.getElem?_eq_getElem h1]
          exact List.mem_take_iff_getElem.mpr ⟨i - 1, by omega, rfl⟩
theorem lt_nodup {l : List Int} (h : l.Pairwise (· < ·)) : l.Nodup := h.imp fun h => Int.ne_of_lt h
theorem joined_law {as ss ts : List Int} {n : Nat} (hm : ∀ a ∈ as, 1 ≤ a) (hp : ss.Perm as) (hs : ss.Pairwise (· ≤ ·))
    (ht : ts.Perm (leftOf as n ++ (onceOf (ss.filter fun (x : Int) => decide (x ≤ (n : Int)))).map (· - 1))) (hts : ts.Pairwise (· ≤ ·)) : ts = (List.range n).map fun (i : Nat) => (i : Int) := by
  obtain ⟨p, q⟩ := once_pre (k := ss.filter fun x => decide (x ≤ n)) (hs.filter _) _ (Nat.le_refl _)
  have hmem : ∀ x : Int, x ∈ (onceOf (ss.filter fun (x : Int) => decide (x ≤ (n : Int)))).map (· - 1) ↔ x + 1 ∈ as ∧ x + 1 ≤ (n : Int) := fun x => by
    rw [List.mem_map]
    constructor
    · rintro ⟨a, ha, e⟩
      have := (q a).mp ha
      rw [List.take_length, List.mem_filter] at this
      have h2 : a = x + 1 := by omega
      rw [h2] at this
      exact ⟨hp.mem_iff.mp this.1, of_decide_eq_true this.2⟩
    · rintro ⟨h1, h2⟩
      exact ⟨x + 1, (q _).mpr (by rw [List.take_length, List.mem_filter]; exact ⟨hp.mem_iff.mpr h1, decide_eq_true h2⟩), by omega⟩
  have nd : (leftOf as n ++ (onceOf (ss.filter fun (x : Int) => decide (x ≤ (n : Int)))).map (· - 1)).Nodup := by
    refine List.nodup_append.mpr ⟨lt_nodup (left_rises as n), ?_, fun x hx y hy e => ?_⟩
    · refine lt_nodup (List.pairwise_map.mpr (p.imp fun h => by omega))
    · subst e
      exact ((mem_left.mp hx).2.2) ((hmem x).mp hy).1
  have nr : ((List.range n).map fun (i : Nat) => (i : Int)).Pairwise (· < ·) := List.pairwise_map.mpr (List.pairwise_lt_range.imp fun h => by omega)
  have pr : (leftOf as n ++ (onceOf (ss.filter fun (x : Int) => decide (x ≤ (n : Int)))).map (· - 1)).Perm ((List.range n).map fun (i : Nat) => (i : Int)) := by
    refine (List.perm_ext_iff_of_nodup nd (lt_nodup nr)).mpr fun x => ?_
    rw [List.mem_append, mem_left, hmem, List.mem_map]
    constructor
    · rintro (⟨h1, h2, _⟩ | ⟨h1, h2⟩)
      · exact ⟨x.toNat, List.mem_range.mpr (by omega), by omega⟩
      · have := hm _ h1
        exact ⟨x.toNat, List.mem_range.mpr (by omega), by omega⟩
    · rintro ⟨i, hi, rfl⟩
      have := List.mem_range.mp hi
      by_cases h : (i : Int) + 1 ∈ as
      · exact .inr ⟨h, by omega⟩
      · exact .inl ⟨by omega, by omega, h⟩
  exact List.Perm.eq_of_pairwise (fun _ _ _ _ a b => Int.le_antisymm a b) hts (nr.imp Int.le_of_lt) (ht.trans pr)
theorem pos_outs {l : List Int} (hm : ∀ a ∈ l, 1 ≤ a) : outsOf (l.map some) = [] := by
  unfold outsOf
  rw [List.flatMap_eq_nil_iff]
  intro d hd
  obtain ⟨a, ha, rfl⟩ := List.mem_map.mp hd
  have := hm a ha
  exact if_neg (by omega)
theorem pos_law {l : List Int} (hm : ∀ a ∈ l, 1 ≤ a) (n : Nat) : wholePlaces (l.map some) n = (l.map (· - 1)).map some := by
  unfold wholePlaces
  rw [if_pos (pos_outs hm)]
  unfold placesOf
  induction l with
  | nil => rfl
  | cons a r ih =>
    have h1 := hm a (.head _)
    rw [List.map_cons, List.flatMap_cons, ih fun b hb => hm b (.tail _ hb)]
    have : placeOf (some a) = [some (a - 1)] := if_pos (by omega)
    rw [this]; rfl
theorem once_mem {k : List Int} {x : Int} (hs : k.Pairwise (· ≤ ·)) (h : x ∈ onceOf k) : x ∈ k := by
  have := ((once_pre hs _ (Nat.le_refl _)).2 x).mp h
  rwa [List.take_length] at this
theorem onceTurn_len (k : List Int) (i : Nat) : (onceTurn k i).length ≤ 1 := by unfold onceTurn; split <;> simp
theorem left_len (as : List Int) (n : Nat) : (leftOf as n).length ≤ n := flat_len _ (fun i => by split <;> simp) n
theorem once_len (k : List Int) : (onceOf k).length ≤ k.length := flat_len _ (onceTurn_len k) _

end
theorem anew13 : True := by
  w_top off
  k_with_none
  k_with "gen" => (refine cut_genF ?_; intro q9 hq9)
  k_with "CutEnd" => (refine cut_in (by assumption) ?_)
  k_with "allLt" => (first | assumption | (rename _ ∧ _ => h9; obtain ⟨h91, h92⟩ := h9; k_extra "allLt"))
  k_with "call builtin:len" => (k_here; (with_reducible show wpAny _ _ (call (Value.builtin "len") [Value.ref _]) _ _ _); k_dflt (refine' len_led (by first | (k_asm) | fail) (by first | (k_mem) | fail) (by first | (omega) | fail) ?_; k_whole))
  k_with "exec For" => (k_here; (rename Fr _ _ _ _ => lF'); (with_unfolding_all refine' For_invVF lF' (by first | (k_dflt (exact rfl)) | fail) (by first | (k_dflt (exact rfl)) | fail) ?_; k_whole))
  k_with "exec For Name Attribute cons nil" => (walk_at "exec For")
  k_with "exec For Name Name cons nil" => (walk_at "exec For")
  k_with "exec For Name Call cons nil" => (walk_at "exec For")
  k_with "room" => (first | omega | (dsimp only [ktrTop, Around.deeper, Around.in1] at *; omega))
  k_with "enter" => (refine wpAny_call ?_; k_dflt cell_enter; (try generalize List.length (List.filterMap _ _) = ln9); k_extra "gen")
  k_with "getAttr ref" => (k_here; k_dflt (refine' get_own (by first | (k_asm) | fail) (by first | (k_asm) | fail) (by first | (k_inst) | fail) (by first | (k_is) | fail) (by first | (k_is) | fail) (by first | (k_is) | fail) (by first | (k_is) | fail) (by first | (assumption) | fail) (by first | (rfl) | fail) ?_; k_whole))
  k_with "small" => (first | omega | (simp only [List.length_append, List.length_cons, List.length_nil]; omega))
  k_with "call builtin:list.append" => (k_here; (with_reducible show wpAny _ _ (call (Value.builtin _) [Value.ref _, _]) _ _ _); k_dflt (refine' append_led (by first | (k_asm) | fail) (by first | (k_asm) | fail) (by first | (k_upd) | fail) (by first | (k_extra "small") | fail) ?_; k_whole); intro h' F' N'; (try k_sweep))
  k_with "turn map" => (intro z hz hp9 hs; (try dsimp only [kstB]); first | (simp only [hz, hs, if_false, Bool.false_eq_true]; done) | (have hz2 := hp9 _ (.head _); dsimp only at hz2; simp only [hz, hz2, hs, if_false, Bool.false_eq_true]; done) | (have hz2 := hp9 _ (.head _); have hz3 := hp9 _ (.tail _ (.head _)); dsimp only at hz2 hz3; simp only [hz, hz2, hz3, hs, if_false, Bool.false_eq_true]; done) | (have hs2 := hs; simp only [List.contains_cons, List.contains_nil, Bool.or_false, Bool.or_eq_false_iff, beq_eq_false_iff_ne, ne_eq] at hs2; simp only [hz, hs, hs2, if_false, Bool.false_eq_true]; done) | (have hz2 := hp9 _ (.head _); dsimp only at hz2; have hs2 := hs; simp only [List.contains_cons, List.contains_nil, Bool.or_false, Bool.or_eq_false_iff, beq_eq_false_iff_ne, ne_eq] at hs2; simp only [hz, hz2, hs, hs2, if_false, Bool.false_eq_true]))
  k_with "turn end 1" => (first | refine TurnEnd.next _ (by assumption) (by assumption) ?_ ?_ (by exact fun _ hp => nomatch hp) (by k_extra "turn map") | refine TurnEnd.cont _ (by assumption) (by assumption) ?_ ?_ (by exact fun _ hp => nomatch hp) (by k_extra "turn map"))
  k_with "turn end 2" => (first | refine TurnEnd.next (_, _) (by assumption) (by assumption) ?_ ?_ (by exact fun _ hp => nomatch hp) (by k_extra "turn map") | refine TurnEnd.cont (_, _) (by assumption) (by assumption) ?_ ?_ (by exact fun _ hp => nomatch hp) (by k_extra "turn map"))
  k_with "turn end 3" => (first | refine TurnEnd.next (_, _, _) (by assumption) (by assumption) ?_ ?_ (by exact fun _ hp => nomatch hp) (by k_extra "turn map") | refine TurnEnd.cont (_, _, _) (by assumption) (by assumption) ?_ ?_ (by exact fun _ hp => nomatch hp) (by k_extra "turn map"))
  first | walk1 | exact True.intro
section
/-- does the text stand at this place -/
def hitAt (nm : Option (List (Option Str))) (d : Option Str) (j : Nat) : Bool := match nm, d with
  | some ns, some x => decide (x ≠ Str.ofString "") && decide (ns[j]? = some (some x))
  | _, _ => false
/-- the last of the first i turns that go down from n - 1 -/
def backOf (nm : Option (List (Option Str))) (d : Option Str) (n : Nat) : Nat → Option Int
  | 0 => none
  | i + 1 => if hitAt nm d (n - 1 - i) then some (((n - 1 - i : Nat) : Int) + 1) else backOf nm d n i
theorem back_some {nm : Option (List (Option Str))} {d : Option Str} {n : Nat} : ∀ i, i ≤ n → ∀ k, backOf nm d n i = some k → 1 ≤ k
  | 0, _, k, h => by cases h
  | i + 1, hi, k, h => by
    unfold backOf at h
    split at h
    · cases h; omega
    · exact back_some i (by omega) k h
/-- the first place at or above n - i -/
theorem back_first {ns : List (Option Str)} {x : Str} (hx : x ≠ Str.ofString "") : ∀ i, i ≤ ns.length →
    backOf (some ns) (some x) ns.length i = ((ns.drop (ns.length - i)).findIdx? fun d => decide (d = some x)).map fun j => ((ns.length - i + j : Nat) : Int) + 1
  | 0, _ => by simp [backOf]
  | i + 1, hi => by
    have hlt : ns.length - (i + 1) < ns.length := by omega
    have e : ns.drop (ns.length - (i + 1)) = ns[ns.length - (i + 1)] :: ns.drop (ns.length - i) := by
      rw [List.drop_eq_getElem_cons hlt]; congr 2; omega
    have e2 : ns.length - 1 - i = ns.length - (i + 1) := by omega
    unfold backOf
    rw [e, List.findIdx?_cons, back_first hx i (by omega), e2]
    unfold hitAt
    simp only [List.getElem?_eq_getElem hlt, Option.some.injEq]
    by_cases h : ns[ns.length - (i + 1)] = some x
    · simp [h, hx]
    · simp only [h, decide_false, Bool.and_false, Bool.false_eq_true, if_false, Option.map_map]
      congr 1
      funext j
      simp only [Function.comp_apply]
      omega
theorem nameOf_some (ns : List (Option Str)) (x : Str) : nameOf (some ns) (some x) = (firstIn ns x).map fun (j : Nat) => (j : Int) := by
  cases h : firstIn ns x <;> simp [nameOf, firstOf, h]
theorem back_name {nm : Option (List (Option Str))} {n : Nat} (hn : ∀ ns, nm = some ns → ns.length = n) (d : Option Str) : backOf nm d n n = (nameOf nm d).map (· + 1) := by
  have zero : ∀ (nm : Option (List (Option Str))) (d : Option Str) (_ : ∀ j, hitAt nm d j = false) (i : Nat), backOf nm d n i = none := fun nm d h i => by
    induction i with
    | zero => rfl
    | succ i ih => unfold backOf; rw [h]; exact ih
  cases d with
  | none => rw [zero nm none (fun j => by cases nm <;> rfl)]; rfl
  | some x =>
    cases nm with
    | none => rw [zero none (some x) (fun j => rfl)]; rfl
    | some ns =>
      have hl := hn ns rfl
      subst hl
      by_cases hx : x = Str.ofString ""
      · rw [zero (some ns) (some x) (fun j => by unfold hitAt; simp [hx])]
        rw [nameOf_some]; unfold firstIn
        rw [if_pos hx]; rfl
      · rw [back_first hx _ (Nat.le_refl _), Nat.sub_self, List.drop_zero]
        rw [nameOf_some]; unfold firstIn
        rw [if_neg hx, Option.map_map]
        congr 1
        funext j
        simp
theorem names_law {nm : Option (List (Option Str))} {n : Nat} (hn : ∀ ns, nm = some ns → ns.length = n) (ts : List (Option Str)) :
    outsOf (ts.map fun d => backOf nm d n n) = [] ∧ wholePlaces (ts.map fun d => backOf nm d n n) n = ts.map (nameOf nm) := by
  have h1 : outsOf (ts.map fun d => backOf nm d n n) = [] := by
    unfold outsOf
    rw [List.flatMap_eq_nil_iff]
    intro d hd
    obtain ⟨x, _, rfl⟩ := List.mem_map.mp hd
    cases h : backOf nm x n n with
    | none => rfl
    | some k =>
      have := back_some n (Nat.le_refl _) k h
      exact if_neg (by omega)
  refine ⟨h1, ?_⟩
  unfold wholePlaces
  rw [if_pos h1]
  unfold placesOf
  clear h1
  induction ts with
  | nil => rfl
  | cons d r ih =>
    rw [List.map_cons, List.flatMap_cons, List.map_cons, ih, back_name hn d]
    cases h : nameOf nm d with
    | none => rfl
    | some k =>
      have h2 := back_some n (Nat.le_refl _) (k + 1) (by rw [back_name hn d, h]; rfl)
      have : placeOf (some (k + 1)) = [some k] := (if_pos (by omega)).trans (by congr 2; omega)
      rw [Option.map_some, this]; rfl
theorem hit_none (d : Option Str) (j : Nat) : hitAt none d j = false := by cases d <;> rfl
theorem hit_lack (nm : Option (List (Option Str))) (j : Nat) : hitAt nm none j = false := by cases nm <;> rfl
theorem hit_some {ns : List (Option Str)} {x : Str} {j : Nat} {d : Option Str} (hx : x ≠ Str.ofString "") (h : ns[j]? = some d) : hitAt (some ns) (some x) j = decide (d = some x) := by
  unfold hitAt; simp [hx, h]
theorem hit_empty {ns : List (Option Str)} {x : Str} {j : Nat} (hx : x = Str.ofString "") : hitAt (some ns) (some x) j = false := by
  unfold hitAt; simp [hx]

end
theorem anew14 : True := by
  w_top off
  k_with_none
  k_with "gen" => (refine cut_genF ?_; intro q9 hq9)
  k_with "CutEnd" => (refine cut_in (by assumption) ?_)
  k_with "allLt" => (first | assumption | (rename _ ∧ _ => h9; obtain ⟨h91, h92⟩ := h9; k_extra "allLt"))
  k_with "call builtin:len" => (k_here; (with_reducible show wpAny _ _ (call (Value.builtin "len") [Value.ref _]) _ _ _); k_dflt (refine' len_led (by first | (k_asm) | fail) (by first | (k_mem) | fail) (by first | (omega) | fail) ?_; k_whole))
  k_with "exec For" => (k_here; (rename Fr _ _ _ _ => lF'); (with_unfolding_all refine' For_invVF lF' (by first | (k_dflt (exact rfl)) | fail) (by first | (k_dflt (exact rfl)) | fail) ?_; k_whole))
  k_with "exec For Name Attribute cons nil" => (walk_at "exec For")
  k_with "exec For Name Name cons nil" => (walk_at "exec For")
  k_with "exec For Name Call cons nil" => (walk_at "exec For")
  k_with "room" => (first | omega | (dsimp only [ktrTop, Around.deeper, Around.in1] at *; omega))
  k_with "enter" => (refine wpAny_call ?_; k_dflt cell_enter; (try generalize List.length (List.filterMap _ _) = ln9); k_extra "gen")
  k_with "getAttr ref" => (k_here; k_dflt (refine' get_own (by first | (k_asm) | fail) (by first | (k_asm) | fail) (by first | (k_inst) | fail) (by first | (k_is) | fail) (by first | (k_is) | fail) (by first | (k_is) | fail) (by first | (k_is) | fail) (by first | (assumption) | fail) (by first | (rfl) | fail) ?_; k_whole))
  k_with "small" => (first | omega | (simp only [List.length_append, List.length_cons, List.length_nil]; omega))
  k_with "call builtin:list.append" => (k_here; (with_reducible show wpAny _ _ (call (Value.builtin _) [Value.ref _, _]) _ _ _); k_dflt (refine' append_led (by first | (k_asm) | fail) (by first | (k_asm) | fail) (by first | (k_upd) | fail) (by first | (k_extra "small") | fail) ?_; k_whole); intro h' F' N'; (try k_sweep))
  k_with "turn map" => (intro z hz hp9 hs; (try dsimp only [kstB]); first | (simp only [hz, hs, if_false, Bool.false_eq_true]; done) | (have hz2 := hp9 _ (.head _); dsimp only at hz2; simp only [hz, hz2, hs, if_false, Bool.false_eq_true]; done) | (have hz2 := hp9 _ (.head _); have hz3 := hp9 _ (.tail _ (.head _)); dsimp only at hz2 hz3; simp only [hz, hz2, hz3, hs, if_false, Bool.false_eq_true]; done) | (have hs2 := hs; simp only [List.contains_cons, List.contains_nil, Bool.or_false, Bool.or_eq_false_iff, beq_eq_false_iff_ne, ne_eq] at hs2; simp only [hz, hs, hs2, if_false, Bool.false_eq_true]; done) | (have hz2 := hp9 _ (.head _); dsimp only at hz2; have hs2 := hs; simp only [List.contains_cons, List.contains_nil, Bool.or_false, Bool.or_eq_false_iff, beq_eq_false_iff_ne, ne_eq] at hs2; simp only [hz, hz2, hs, hs2, if_false, Bool.false_eq_true]))
  k_with "turn end 1" => (first | refine TurnEnd.next _ (by assumption) (by assumption) ?_ ?_ (by exact fun _ hp => nomatch hp) (by k_extra "turn map") | refine TurnEnd.cont _ (by assumption) (by assumption) ?_ ?_ (by exact fun _ hp => nomatch hp) (by k_extra "turn map"))
  k_with "turn end 2" => (first | refine TurnEnd.next (_, _) (by assumption) (by assumption) ?_ ?_ (by exact fun _ hp => nomatch hp) (by k_extra "turn map") | refine TurnEnd.cont (_, _) (by assumption) (by assumption) ?_ ?_ (by exact fun _ hp => nomatch hp) (by k_extra "turn map"))
  k_with "turn end 3" => (first | refine TurnEnd.next (_, _, _) (by assumption) (by assumption) ?_ ?_ (by exact fun _ hp => nomatch hp) (by k_extra "turn map") | refine TurnEnd.cont (_, _, _) (by assumption) (by assumption) ?_ ?_ (by exact fun _ hp => nomatch hp) (by k_extra "turn map"))
  first | walk1 | exact True.intro
section
def longOf (nm : Option (List (Option Str))) (n : Nat) : List (Option Str) := match nm with
  | none => List.replicate n (some (Str.ofString ""))
  | some ns => ns
/-- _law_extended_right's own reckoning: all names, the places due, the new names -/
def dueStep (st : List (Option Str) × List (Option Int) × List (Option Str)) (d : Option Str) : List (Option Str) × List (Option Int) × List (Option Str) :=
  if d ≠ none ∧ d ≠ some (Str.ofString "") ∧ d ∈ st.1 then (st.1, st.2.1 ++ [some ((st.1.idxOf d : Nat) : Int)], st.2.2)
  else (st.1 ++ [d], st.2.1 ++ [some ((st.1.length : Nat) : Int)], st.2.2 ++ [d])
def dueAll (nm : Option (List (Option Str))) (n : Nat) (ts : List (Option Str)) := ts.foldl dueStep (longOf nm n, [], [])
theorem firstIn_idx {l : List (Option Str)} {x : Str} (hx : x ≠ Str.ofString "") : firstIn l x = if some x ∈ l then some (l.idxOf (some x)) else none := by
  unfold firstIn
  rw [if_neg hx]
  induction l with
  | nil => simp
  | cons d r ih =>
    rw [List.findIdx?_cons, List.idxOf_cons]
    by_cases h : d = some x
    · simp [h]
    · have h' : ¬ some x = d := fun e => h e.symm
      simp only [h, decide_false, Bool.false_eq_true, if_false, ih, List.mem_cons, h', false_or]
      by_cases h2 : some x ∈ r
      · have hb : (d == some x) = false := by simpa using h
        simp [h2, hb]
      · simp [h2]
theorem firstIn_blank (l : List (Option Str)) : firstIn l (Str.ofString "") = none := by unfold firstIn; rw [if_pos rfl]
theorem firstIn_long (nm : Option (List (Option Str))) (n : Nat) : firstIn (longOf nm n) = firstOf nm := by
  cases nm with
  | some ns => rfl
  | none =>
    funext k
    by_cases hk : k = Str.ofString ""
    · subst hk; rw [firstIn_blank]; rfl
    · rw [firstIn_idx hk, if_neg]
      · rfl
      · intro h
        have := List.eq_of_mem_replicate h
        exact hk (Option.some.inj this)
theorem due_step {n : Nat} {st : List (Option Str) × List (Option Int) × List (Option Str)} (hl : st.1.length = n + st.2.2.length) (d : Option Str) :
    extStep n (firstIn st.1, st.2.1, st.2.2) d = (firstIn (dueStep st d).1, (dueStep st d).2.1, (dueStep st d).2.2) ∧ (dueStep st d).1.length = n + (dueStep st d).2.2.length := by
  obtain ⟨lo, du, ad⟩ := st
  dsimp only at hl
  cases d with
  | none =>
    have e : dueStep (lo, du, ad) none = (lo ++ [none], du ++ [some ((lo.length : Nat) : Int)], ad ++ [none]) := if_neg (by simp)
    rw [e]
    refine ⟨?_, by simp; omega⟩
    show (firstIn lo, du ++ [some ((n + ad.length : Nat) : Int)], ad ++ [none]) = _
    rw [firstIn_none, hl]
  | some x =>
    by_cases hx : x = Str.ofString ""
    · subst hx
      have e : dueStep (lo, du, ad) (some (Str.ofString "")) = (lo ++ [some (Str.ofString "")], du ++ [some ((lo.length : Nat) : Int)], ad ++ [some (Str.ofString "")]) := if_neg (by simp)
      rw [e]
      refine ⟨?_, by simp; omega⟩
      unfold extStep
      simp only [firstIn_blank, if_true]
      rw [firstIn_empty, hl]
    · by_cases hm : some x ∈ lo
      · have e : dueStep (lo, du, ad) (some x) = (lo, du ++ [some ((lo.idxOf (some x) : Nat) : Int)], ad) := if_pos ⟨by simp, by simpa using hx, hm⟩
        rw [e]
        refine ⟨?_, hl⟩
        unfold extStep
        simp only [firstIn_idx hx, if_pos hm]
      · have e : dueStep (lo, du, ad) (some x) = (lo ++ [some x], du ++ [some ((lo.length : Nat) : Int)], ad ++ [some x]) := if_neg (by simp [hm])
        rw [e]
        refine ⟨?_, by simp; omega⟩
        have hn : firstIn lo x = none := by rw [firstIn_idx hx, if_neg hm]
        unfold extStep
        simp only [hn, if_neg hx]
        rw [hl]
        refine Prod.ext (funext fun k => ?_) rfl
        by_cases hk : k = x
        · subst hk
          simp only [if_true]
          rw [firstIn_new hx (by rw [hn]; rfl), hl]
        · simp only [if_neg hk]
          exact (firstIn_other hk).symm
theorem due_fold {n : Nat} : ∀ (ts : List (Option Str)) (st : List (Option Str) × List (Option Int) × List (Option Str)), st.1.length = n + st.2.2.length →
    ts.foldl (extStep n) (firstIn st.1, st.2.1, st.2.2) = (firstIn (ts.foldl dueStep st).1, (ts.foldl dueStep st).2.1, (ts.foldl dueStep st).2.2)
  | [], _, _ => rfl
  | d :: ts, st, hl => by
    obtain ⟨h1, h2⟩ := due_step hl d
    rw [List.foldl_cons, List.foldl_cons, h1]
    exact due_fold ts (dueStep st d) h2
theorem due_law {nm : Option (List (Option Str))} {n : Nat} (hn : ∀ ns, nm = some ns → ns.length = n) (ts : List (Option Str)) : (extAll nm n ts).2 = (dueAll nm n ts).2 := by
  have hl : (longOf nm n).length = n := by
    cases nm with
    | none => simp [longOf]
    | some ns => exact hn ns rfl
  have h := due_fold (n := n) ts (longOf nm n, [], []) (by simpa using hl)
  unfold extAll dueAll
  rw [← firstIn_long nm n, h]
theorem due_len {nm : Option (List (Option Str))} {n : Nat} (ts : List (Option Str)) (st : List (Option Str) × List (Option Int) × List (Option Str)) :
    (ts.foldl dueStep st).1.length ≤ st.1.length + ts.length ∧ (ts.foldl dueStep st).2.1.length ≤ st.2.1.length + ts.length ∧ (ts.foldl dueStep st).2.2.length ≤ st.2.2.length + ts.length := by
  induction ts generalizing st with
  | nil => simp
  | cons d r ih =>
    rw [List.foldl_cons]
    have h := ih (dueStep st d)
    have e1 : (dueStep st d).1.length ≤ st.1.length + 1 ∧ (dueStep st d).2.1.length ≤ st.2.1.length + 1 ∧ (dueStep st d).2.2.length ≤ st.2.2.length + 1 := by
      unfold dueStep; split <;> simp
    rw [List.length_cons]
    omega
theorem due_strs (ts : List (Option Str)) (st : List (Option Str) × List (Option Int) × List (Option Str)) (x : Option Str) : (x ∈ (ts.foldl dueStep st).1 → x ∈ st.1 ∨ x ∈ ts) ∧ (x ∈ (ts.foldl dueStep st).2.2 → x ∈ st.2.2 ∨ x ∈ ts) := by
  induction ts generalizing st with
  | nil => exact ⟨.inl, .inl⟩
  | cons d r ih =>
    rw [List.foldl_cons]
    have h := ih (dueStep st d)
    have e1 : (x ∈ (dueStep st d).1 → x ∈ st.1 ∨ x = d) ∧ (x ∈ (dueStep st d).2.2 → x ∈ st.2.2 ∨ x = d) := by
      unfold dueStep; split
      · exact ⟨.inl, .inl⟩
      · simp
    refine ⟨fun hx => ?_, fun hx => ?_⟩
    · rcases h.1 hx with q | q
      · rcases e1.1 q with q | q
        · exact .inl q
        · exact .inr (by rw [q]; exact .head _)
      · exact .inr (.tail _ q)
    · rcases h.2 hx with q | q
      · rcases e1.2 q with q | q
        · exact .inl q
        · exact .inr (by rw [q]; exact .head _)
      · exact .inr (.tail _ q)
theorem due_else {st : List (Option Str) × List (Option Int) × List (Option Str)} {d : Option Str} (h : ¬ (d ≠ none ∧ d ≠ some (Str.ofString "") ∧ d ∈ st.1)) : [d].foldl dueStep st = (st.1 ++ [d], st.2.1 ++ [some ((st.1.length : Nat) : Int)], st.2.2 ++ [d]) := by
  show dueStep st d = _
  exact if_neg h
theorem due_then {st : List (Option Str) × List (Option Int) × List (Option Str)} {d : Option Str} (h : d ≠ none ∧ d ≠ some (Str.ofString "") ∧ d ∈ st.1) : [d].foldl dueStep st = (st.1, st.2.1 ++ [some ((st.1.idxOf d : Nat) : Int)], st.2.2) := by
  show dueStep st d = _
  exact if_pos h

end
theorem anew15 : True := by
  w_top off
  k_with_none
  k_with "gen" => (refine cut_genF ?_; intro q9 hq9)
  k_with "CutEnd" => (refine cut_in (by assumption) ?_)
  k_with "allLt" => (first | assumption | (rename _ ∧ _ => h9; obtain ⟨h91, h92⟩ := h9; k_extra "allLt"))
  k_with "call builtin:len" => (k_here; (with_reducible show wpAny _ _ (call (Value.builtin "len") [Value.ref _]) _ _ _); k_dflt (refine' len_led (by first | (k_asm) | fail) (by first | (k_mem) | fail) (by first | (omega) | fail) ?_; k_whole))
  k_with "exec For" => (k_here; (rename Fr _ _ _ _ => lF'); (with_unfolding_all refine' For_invVF lF' (by first | (k_dflt (exact rfl)) | fail) (by first | (k_dflt (exact rfl)) | fail) ?_; k_whole))
  k_with "exec For Name Attribute cons nil" => (walk_at "exec For")
  k_with "exec For Name Name cons nil" => (walk_at "exec For")
  k_with "exec For Name Call cons nil" => (walk_at "exec For")
  k_with "room" => (first | omega | (dsimp only [ktrTop, Around.deeper, Around.in1] at *; omega))
  k_with "enter" => (refine wpAny_call ?_; k_dflt cell_enter; (try generalize List.length (List.filterMap _ _) = ln9); k_extra "gen")
  k_with "getAttr ref" => (k_here; k_dflt (refine' get_own (by first | (k_asm) | fail) (by first | (k_asm) | fail) (by first | (k_inst) | fail) (by first | (k_is) | fail) (by first | (k_is) | fail) (by first | (k_is) | fail) (by first | (k_is) | fail) (by first | (assumption) | fail) (by first | (rfl) | fail) ?_; k_whole))
  k_with "small" => (first | omega | (simp only [List.length_append, List.length_cons, List.length_nil]; omega))
  k_with "call builtin:list.append" => (k_here; (with_reducible show wpAny _ _ (call (Value.builtin _) [Value.ref _, _]) _ _ _); k_dflt (refine' append_led (by first | (k_asm) | fail) (by first | (k_asm) | fail) (by first | (k_upd) | fail) (by first | (k_extra "small") | fail) ?_; k_whole); intro h' F' N'; (try k_sweep))
  k_with "turn map" => (intro z hz hp9 hs; (try dsimp only [kstB]); first | (simp only [hz, hs, if_false, Bool.false_eq_true]; done) | (have hz2 := hp9 _ (.head _); dsimp only at hz2; simp only [hz, hz2, hs, if_false, Bool.false_eq_true]; done) | (have hz2 := hp9 _ (.head _); have hz3 := hp9 _ (.tail _ (.head _)); dsimp only at hz2 hz3; simp only [hz, hz2, hz3, hs, if_false, Bool.false_eq_true]; done) | (have hs2 := hs; simp only [List.contains_cons, List.contains_nil, Bool.or_false, Bool.or_eq_false_iff, beq_eq_false_iff_ne, ne_eq] at hs2; simp only [hz, hs, hs2, if_false, Bool.false_eq_true]; done) | (have hz2 := hp9 _ (.head _); dsimp only at hz2; have hs2 := hs; simp only [List.contains_cons, List.contains_nil, Bool.or_false, Bool.or_eq_false_iff, beq_eq_false_iff_ne, ne_eq] at hs2; simp only [hz, hz2, hs, hs2, if_false, Bool.false_eq_true]))
  k_with "turn end 1" => (first | refine TurnEnd.next _ (by assumption) (by assumption) ?_ ?_ (by exact fun _ hp => nomatch hp) (by k_extra "turn map") | refine TurnEnd.cont _ (by assumption) (by assumption) ?_ ?_ (by exact fun _ hp => nomatch hp) (by k_extra "turn map"))
  k_with "turn end 2" => (first | refine TurnEnd.next (_, _) (by assumption) (by assumption) ?_ ?_ (by exact fun _ hp => nomatch hp) (by k_extra "turn map") | refine TurnEnd.cont (_, _) (by assumption) (by assumption) ?_ ?_ (by exact fun _ hp => nomatch hp) (by k_extra "turn map"))
  k_with "turn end 3" => (first | refine TurnEnd.next (_, _, _) (by assumption) (by assumption) ?_ ?_ (by exact fun _ hp => nomatch hp) (by k_extra "turn map") | refine TurnEnd.cont (_, _, _) (by assumption) (by assumption) ?_ ?_ (by exact fun _ hp => nomatch hp) (by k_extra "turn map"))
  first | walk1 | exact True.intro
section
section
variable {prog : Program} {w : World} {A : Around} {E : Value → Shared → Prop} {s : Shared} {h₀ : Heap} {L l : Addr} {news : List (Addr × Obj)} {Q : Value → Shared → Prop} {us : List Value} {lo : List (Option Str)} {n : Nat} {x : Str} {t : Tok}
open Classical in
theorem oss_in (N : News h₀ L s.heap news) (hm : (l, listOf us.toArray n) ∈ news) (hs : OSs us lo) (ho : StrsOk lo) (hx : PyData.strOk x = true) (hu : A.units + 64 < cLine)
    (h : ∀ c : Bool, (c = true ↔ some x ∈ lo) → Q (.bool c) s) : wpAny (model prog w) A (compareOp .In (.str x t) (.ref l)) Q E s := by
  refine kqd_isIn N hm rfl rfl hs none_sub (DatIn.str (news := []) x t) none_sub (ok_os 8 ho) (kqd_strn 8 hx) hu (h _ ?_)
  rw [decide_eq_true_iff, List.mem_map]
  constructor
  · rintro ⟨a, ha, e⟩
    cases a with
    | none => cases e
    | some y => cases e; exact ha
  · intro h; exact ⟨some x, h, rfl⟩
def strIs (x : Str) : Value → Bool
  | .str y _ => y == x
  | _ => false
theorem osv_eqAt {v : Value} {d : Option Str} {B : Around} {s' : Shared} (h : OSv v d) : PySem.SeqAt.EqAt B s' v (.str x t) (strIs x v) := by
  cases h with
  | none => exact PySem.SeqAt.EqAt.none_str x t
  | some y u => exact PySem.SeqAt.EqAt.str_str y u x t
theorem strIs_at {v : Value} {d : Option Str} (h : OSv v d) : strIs x v = decide (d = some x) := by
  cases h with
  | none => rfl
  | some y u =>
    show (y == x) = _
    by_cases e : y = x
    · simp [e]
    · simp [e]
theorem oss_index (N : News h₀ L s.heap news) (hm : (l, listOf us.toArray n) ∈ news) (hs : OSs us lo) (hx : some x ∈ lo) (hlen : lo.length < 1000)
    (h : Q (.int ((lo.idxOf (some x) : Nat) : Int) s.toks) { s with toks := s.toks + 1 }) : wpAny (model prog w) A (call (.builtin "list.index") [.ref l, .str x t]) Q E s := by
  have hl := hs.length
  have hj : lo.idxOf (some x) < lo.length := List.idxOf_lt_length_iff.mpr hx
  have at' : ∀ (j : Nat) (hj : j < us.toArray.size) (hj' : j < lo.length), OSv us.toArray[j] lo[j] := fun j hj hj' => by
    obtain ⟨v, hv, hd⟩ := hs.at hj'
    have e : us.toArray[j] = v := by
      have : us[j]? = some us.toArray[j] := by simp
      rw [this] at hv; exact Option.some.inj hv
    rw [e]; exact hd
  refine call_meets PySem.F.slot_list_index ⟨_, (N _ hm).1, rfl⟩ PySem.F.entry_list_index (PySem.F.args_list_index_2 _ _)
    (PySem.SeqAt.list_indexAt l us.toArray n none #[] (.str x t) (strIs x) (lo.idxOf (some x)) (by simpa [hl] using hj) (by omega) ?_ ?_) ⟨(N _ hm).1, fun y hy => ?_, h⟩
  · rw [strIs_at (at' _ _ hj)]
    exact decide_eq_true (List.getElem_idxOf hj)
  · intro j hjs hlt
    have hj' : j < lo.length := by omega
    rw [strIs_at (at' j hjs hj')]
    refine decide_eq_false fun e => ?_
    have := List.not_of_lt_findIdx (p := fun d => d == some x) (xs := lo) (i := j) hlt
    simp [e] at this
  · obtain ⟨j, hj2, e⟩ := List.getElem_of_mem (show y ∈ us by simpa using hy)
    have hj' : j < lo.length := by omega
    have := at' j (by simpa using hj2) hj'
    rw [show us.toArray[j]'(by simpa using hj2) = y by simpa using e] at this
    exact osv_eqAt this
end

end
theorem anew16 : True := by
  w_top off
  k_with_none
  k_with "gen" => (refine cut_genF ?_; intro q9 hq9)
  k_with "CutEnd" => (refine cut_in (by assumption) ?_)
  k_with "allLt" => (first | assumption | (rename _ ∧ _ => h9; obtain ⟨h91, h92⟩ := h9; k_extra "allLt"))
  k_with "call builtin:len" => (k_here; (with_reducible show wpAny _ _ (call (Value.builtin "len") [Value.ref _]) _ _ _); k_dflt (refine' len_led (by first | (k_asm) | fail) (by first | (k_mem) | fail) (by first | (omega) | fail) ?_; k_whole))
  k_with "exec For" => (k_here; (rename Fr _ _ _ _ => lF'); (with_unfolding_all refine' For_invVF lF' (by first | (k_dflt (exact rfl)) | fail) (by first | (k_dflt (exact rfl)) | fail) ?_; k_whole))
  k_with "exec For Name Attribute cons nil" => (walk_at "exec For")
  k_with "exec For Name Name cons nil" => (walk_at "exec For")
  k_with "exec For Name Call cons nil" => (walk_at "exec For")
  k_with "room" => (first | omega | (dsimp only [ktrTop, Around.deeper, Around.in1] at *; omega))
  k_with "enter" => (refine wpAny_call ?_; k_dflt cell_enter; (try generalize List.length (List.filterMap _ _) = ln9); k_extra "gen")
  k_with "getAttr ref" => (k_here; k_dflt (refine' get_own (by first | (k_asm) | fail) (by first | (k_asm) | fail) (by first | (k_inst) | fail) (by first | (k_is) | fail) (by first | (k_is) | fail) (by first | (k_is) | fail) (by first | (k_is) | fail) (by first | (assumption) | fail) (by first | (rfl) | fail) ?_; k_whole))
  k_with "small" => (first | omega | (simp only [List.length_append, List.length_cons, List.length_nil]; omega))
  k_with "call builtin:list.append" => (k_here; (with_reducible show wpAny _ _ (call (Value.builtin _) [Value.ref _, _]) _ _ _); k_dflt (refine' append_led (by first | (k_asm) | fail) (by first | (k_asm) | fail) (by first | (k_upd) | fail) (by first | (k_extra "small") | fail) ?_; k_whole); intro h' F' N'; (try k_sweep))
  k_with "turn map" => (intro z hz hp9 hs; (try dsimp only [kstB]); first | (simp only [hz, hs, if_false, Bool.false_eq_true]; done) | (have hz2 := hp9 _ (.head _); dsimp only at hz2; simp only [hz, hz2, hs, if_false, Bool.false_eq_true]; done) | (have hz2 := hp9 _ (.head _); have hz3 := hp9 _ (.tail _ (.head _)); dsimp only at hz2 hz3; simp only [hz, hz2, hz3, hs, if_false, Bool.false_eq_true]; done) | (have hs2 := hs; simp only [List.contains_cons, List.contains_nil, Bool.or_false, Bool.or_eq_false_iff, beq_eq_false_iff_ne, ne_eq] at hs2; simp only [hz, hs, hs2, if_false, Bool.false_eq_true]; done) | (have hz2 := hp9 _ (.head _); dsimp only at hz2; have hs2 := hs; simp only [List.contains_cons, List.contains_nil, Bool.or_false, Bool.or_eq_false_iff, beq_eq_false_iff_ne, ne_eq] at hs2; simp only [hz, hz2, hs, hs2, if_false, Bool.false_eq_true]))
  k_with "turn end 1" => (first | refine TurnEnd.next _ (by assumption) (by assumption) ?_ ?_ (by exact fun _ hp => nomatch hp) (by k_extra "turn map") | refine TurnEnd.cont _ (by assumption) (by assumption) ?_ ?_ (by exact fun _ hp => nomatch hp) (by k_extra "turn map"))
  k_with "turn end 2" => (first | refine TurnEnd.next (_, _) (by assumption) (by assumption) ?_ ?_ (by exact fun _ hp => nomatch hp) (by k_extra "turn map") | refine TurnEnd.cont (_, _) (by assumption) (by assumption) ?_ ?_ (by exact fun _ hp => nomatch hp) (by k_extra "turn map"))
  k_with "turn end 3" => (first | refine TurnEnd.next (_, _, _) (by assumption) (by assumption) ?_ ?_ (by exact fun _ hp => nomatch hp) (by k_extra "turn map") | refine TurnEnd.cont (_, _, _) (by assumption) (by assumption) ?_ ?_ (by exact fun _ hp => nomatch hp) (by k_extra "turn map"))
  first | walk1 | exact True.intro
section
local macro_rules | `(tactic| walk_at "drop end") => `(tactic| (rename (∀ (r : Int) (t : Tok) (h' : Heap) (tk' : Nat) (x' a' : Int) (tx' ta' : Tok) (nb' : Nat), _) => hret9; refine' hret9 _ _ _ _ _ _ _ _ _ (fmod_lo _ (by omega)) (fmod_hi _ (by omega)) ?c ?d ?e ?f ?g; (case f => assumption); (case g => assumption); (all_goals first | omega | (refine fdiv_nonneg' ?_ (by omega); first | omega | exact fmod_lo _ (by decide)))))
theorem words1 : True := by
  k_with "subscriptTail Name Constant ref int" => (k_here; (with_reducible show wpAny _ _ (subscriptTail _ _ (Value.ref _) (Value.int _ _)) _ _ _); (with_unfolding_all refine' item_led (by first | (k_dflt (k_asm)) | fail) (by first | (k_dflt (exact List.mem_cons_self)) | fail) (by first | (k_dflt (decide)) | fail) (by first | (k_dflt (decide)) | fail) (by first | (k_dflt (exact rfl)) | fail) ?_ (by first | (k_dflt (with_unfolding_all rfl)) | fail); k_whole))
  k_with "subscriptTail" => (k_here; (with_reducible show wpAny _ _ (subscriptTail _ _ (Value.ref _) (Value.int _ _)) _ _ _); (with_unfolding_all refine' item_ints (by first | (k_dflt (k_asm)) | fail) (by first | (k_dflt (k_mem)) | fail) (by first | (k_dflt (assumption)) | fail) (by first | (k_dflt (omega)) | fail) (by first | (k_dflt (omega)) | fail) (by first | (k_dflt (omega)) | fail) ?_ (by first | (k_dflt (with_unfolding_all rfl)) | fail); k_whole); intro c9 t9 hc9)
  exact True.intro
section
variable {w : World} {mean : ExcName → Option Value} {mg mb : Str → Option Value} {dp un : Nat} {gd : Option (List Code)} {cn : Str} {cs : Scope} {a : Addr} {ccd : Value} {cl : List (Str × Addr)} {outer : List Env} {A₀ : Around} {base h₀ : Heap} {L : Addr} {m : Str → Option Value} {s : Shared} {Q E : Value → Shared → Prop} {news : List (Addr × Obj)}
theorem drop_ok {b c : Addr} {x at' : Int} {tx ta : Tok} {vs : List Value} {ns : List Int} {nb nc : Nat} {k : Int} {tk : Tok}
    (B : Below A₀ base outer h₀) (F : Fr h₀ L s.heap m) (X : (hd.heap_39 w.params).In h₀) (N : News h₀ L s.heap ((b, listOf [.int x tx, .int at' ta, .ref c].toArray nb) :: news)) (T : Top hd.view_39 (looseW hd.view_39 []) mean mg mb h₀) (hk : cs.kind = .function)
    (hoff : ∀ p ∈ news, p.1 ≠ b) (hc : (c, listOf vs.toArray nc) ∈ news) (hi : IntsAre vs ns) (hne : 0 < ns.length) (hle : ns.length ≤ 40) (hx : 0 ≤ x) (ha : 0 ≤ at') (ha2 : at' < 1000000) (hk1 : 1 ≤ k) (hk2 : k < 1000) (hd0 : dp + 1 < recursionLimit) (hu : un + 108 < cLine)
    (hret : ∀ (r : Int) (t : Tok) (h' : Heap) (tk' : Nat) (x' a' : Int) (tx' ta' : Tok) (nb' : Nat), 0 ≤ r → r < k → 0 ≤ x' → at' ≤ a' → a' ≤ at' + 1 → Fr h₀ L h' m → News h₀ L h' ((b, listOf [.int x' tx', .int a' ta', .ref c].toArray nb') :: news) → Q (.int r t) { s with heap := h', toks := tk' }) :
    wpAny (model PySem.Challenge.rw_ov0054_01.row.prog w) (ktrTop dp un gd cn cs L a ccd cl outer) (call (.ref 234) [.ref b, .int k tk]) Q E s := by
  revert X; k_fill; intro X
  have hlen := hi.length
  have hfm := fmod_in at' (b := (vs.length : Int)) (by omega)
  k_extra "enter"
  rename Fr _ _ _ _ => F1
  replace F1 : Fr _ _ _ (fun y => List.lookup y [(Str.ofString "under_it", .int k tk), (Str.ofString "bucket", .ref b)]) := F1
  k_steps
  all_goals walk_at "drop end"
end

end
theorem anew17 : True := by
  w_top off
  k_with_none
  k_with "gen" => (refine cut_genF ?_; intro q9 hq9)
  k_with "CutEnd" => (refine cut_in (by assumption) ?_)
  k_with "allLt" => (first | assumption | (rename _ ∧ _ => h9; obtain ⟨h91, h92⟩ := h9; k_extra "allLt"))
  k_with "call builtin:len" => (k_here; (with_reducible show wpAny _ _ (call (Value.builtin "len") [Value.ref _]) _ _ _); k_dflt (refine' len_led (by first | (k_asm) | fail) (by first | (k_mem) | fail) (by first | (omega) | fail) ?_; k_whole))
  k_with "exec For" => (k_here; (rename Fr _ _ _ _ => lF'); (with_unfolding_all refine' For_invVF lF' (by first | (k_dflt (exact rfl)) | fail) (by first | (k_dflt (exact rfl)) | fail) ?_; k_whole))
  k_with "exec For Name Attribute cons nil" => (walk_at "exec For")
  k_with "exec For Name Name cons nil" => (walk_at "exec For")
  k_with "exec For Name Call cons nil" => (walk_at "exec For")
  k_with "room" => (first | omega | (dsimp only [ktrTop, Around.deeper, Around.in1] at *; omega))
  k_with "enter" => (refine wpAny_call ?_; k_dflt cell_enter; (try generalize List.length (List.filterMap _ _) = ln9); k_extra "gen")
  k_with "getAttr ref" => (k_here; k_dflt (refine' get_own (by first | (k_asm) | fail) (by first | (k_asm) | fail) (by first | (k_inst) | fail) (by first | (k_is) | fail) (by first | (k_is) | fail) (by first | (k_is) | fail) (by first | (k_is) | fail) (by first | (assumption) | fail) (by first | (rfl) | fail) ?_; k_whole))
  k_with "small" => (first | omega | (simp only [List.length_append, List.length_cons, List.length_nil]; omega))
  k_with "call builtin:list.append" => (k_here; (with_reducible show wpAny _ _ (call (Value.builtin _) [Value.ref _, _]) _ _ _); k_dflt (refine' append_led (by first | (k_asm) | fail) (by first | (k_asm) | fail) (by first | (k_upd) | fail) (by first | (k_extra "small") | fail) ?_; k_whole); intro h' F' N'; (try k_sweep))
  k_with "turn map" => (intro z hz hp9 hs; (try dsimp only [kstB]); first | (simp only [hz, hs, if_false, Bool.false_eq_true]; done) | (have hz2 := hp9 _ (.head _); dsimp only at hz2; simp only [hz, hz2, hs, if_false, Bool.false_eq_true]; done) | (have hz2 := hp9 _ (.head _); have hz3 := hp9 _ (.tail _ (.head _)); dsimp only at hz2 hz3; simp only [hz, hz2, hz3, hs, if_false, Bool.false_eq_true]; done) | (have hs2 := hs; simp only [List.contains_cons, List.contains_nil, Bool.or_false, Bool.or_eq_false_iff, beq_eq_false_iff_ne, ne_eq] at hs2; simp only [hz, hs, hs2, if_false, Bool.false_eq_true]; done) | (have hz2 := hp9 _ (.head _); dsimp only at hz2; have hs2 := hs; simp only [List.contains_cons, List.contains_nil, Bool.or_false, Bool.or_eq_false_iff, beq_eq_false_iff_ne, ne_eq] at hs2; simp only [hz, hz2, hs, hs2, if_false, Bool.false_eq_true]))
  k_with "turn end 1" => (first | refine TurnEnd.next _ (by assumption) (by assumption) ?_ ?_ (by exact fun _ hp => nomatch hp) (by k_extra "turn map") | refine TurnEnd.cont _ (by assumption) (by assumption) ?_ ?_ (by exact fun _ hp => nomatch hp) (by k_extra "turn map"))
  k_with "turn end 2" => (first | refine TurnEnd.next (_, _) (by assumption) (by assumption) ?_ ?_ (by exact fun _ hp => nomatch hp) (by k_extra "turn map") | refine TurnEnd.cont (_, _) (by assumption) (by assumption) ?_ ?_ (by exact fun _ hp => nomatch hp) (by k_extra "turn map"))
  k_with "turn end 3" => (first | refine TurnEnd.next (_, _, _) (by assumption) (by assumption) ?_ ?_ (by exact fun _ hp => nomatch hp) (by k_extra "turn map") | refine TurnEnd.cont (_, _, _) (by assumption) (by assumption) ?_ ?_ (by exact fun _ hp => nomatch hp) (by k_extra "turn map"))
  first | walk1 | exact True.intro
section

section
variable {w : World} {mean : ExcName → Option Value} {mg mb : Str → Option Value} {dp un : Nat} {gd : Option (List Code)} {cn : Str} {cs : Scope} {a : Addr} {ccd : Value} {cl : List (Str × Addr)} {outer : List Env} {A₀ : Around} {base h₀ : Heap} {L : Addr} {m : Str → Option Value} {s : Shared} {Q E : Value → Shared → Prop} {news : List (Addr × Obj)}
theorem is_finite_ok {x : Addr} {p q : Int} {tp tq : Tok} {n : Nat} (B : Below A₀ base outer h₀) (F : Fr h₀ L s.heap m) (X : (hd.heap_39 w.params).In h₀) (N : News h₀ L s.heap news) (T : Top hd.view_39 (looseW hd.view_39 []) mean mg mb h₀) (hk : cs.kind = .function) (hd0 : dp + 1 < recursionLimit) (hu : un + 108 < cLine) (hx : (x, tupO [.int p tp, .int q tq] n) ∈ news)
    (hret : ∀ (h' : Heap) (tk' : Nat), Fr h₀ L h' m → News h₀ L h' news → Q (.bool (decide (0 < q))) { s with heap := h', toks := tk' }) : wpAny (model PySem.Challenge.rw_ov0054_01.row.prog w) (ktrTop dp un gd cn cs L a ccd cl outer) (call (.ref 60) [.ref x]) Q E s := by
  revert X; k_fill; intro X
  k_extra "enter"
  k_steps
  all_goals exact hret _ _ (by assumption) (by assumption)
theorem words2 : True := by
  k_with "call ref" => (k_here; (with_reducible show wpAny _ _ (call (Value.ref _) _) _ _ _); k_dflt (refine' is_finite_ok (by first | (k_asm) | fail) (by first | (k_asm) | fail) (by first | (k_asm) | fail) (by first | (k_asm) | fail) (by first | (k_asm) | fail) (by first | (rfl) | fail) (by first | (show _ + _ < _; k_extra "room") | fail) (by first | (show _ + _ < _; k_extra "room") | fail) (by first | (k_mem) | fail) ?_; k_whole); intro h9 tk9 F9 N9; (try dsimp only))
  exact True.intro
theorem to_whole_ok {x : Addr} {p q : Int} {tp tq : Tok} {n : Nat} (B : Below A₀ base outer h₀) (F : Fr h₀ L s.heap m) (X : (hd.heap_39 w.params).In h₀) (N : News h₀ L s.heap news) (T : Top hd.view_39 (looseW hd.view_39 []) mean mg mb h₀) (hk : cs.kind = .function) (hd0 : dp + 2 < recursionLimit) (hu : un + 116 < cLine) (hx : (x, tupO [.int p tp, .int q tq] n) ∈ news) (hq : 0 < q) (hq2 : q < 1000)
    (hret : ∀ (h' : Heap) (tk' : Nat) (t : Tok), Fr h₀ L h' m → News h₀ L h' news → Q (.int (toWhole p q) t) { s with heap := h', toks := tk' }) : wpAny (model PySem.Challenge.rw_ov0054_01.row.prog w) (ktrTop dp un gd cn cs L a ccd cl outer) (call (.ref 67) [.ref x]) Q E s := by
  revert X; k_fill; intro X
  k_extra "enter"
  k_steps
  all_goals exact retI (hret _ _ _ (by assumption) (by assumption)) (by simp only [toWhole, *, if_true, if_false])
theorem words3 : True := by
  k_with "call ref" => (k_here; (with_reducible show wpAny _ _ (call (Value.ref _) _) _ _ _); k_dflt (refine' to_whole_ok (by first | (k_asm) | fail) (by first | (k_asm) | fail) (by first | (k_asm) | fail) (by first | (k_asm) | fail) (by first | (k_asm) | fail) (by first | (rfl) | fail) (by first | (show _ + _ < _; k_extra "room") | fail) (by first | (show _ + _ < _; k_extra "room") | fail) (by first | (k_mem) | fail) (by first | (omega) | fail) (by first | (omega) | fail) ?_; k_whole); intro h9 tk9 t9 F9 N9; (try dsimp only))
  exact True.intro
theorem whole_subscripts_int {x dx l : Addr} {es : List DictEntry} {ne : Nat} {tkk : Tok} (B : Below A₀ base outer h₀) (F : Fr h₀ L s.heap m) (X : (hd.heap_39 w.params).In h₀) (N : News h₀ L s.heap news) (T : Top hd.view_39 (looseW hd.view_39 []) mean mg mb h₀) (hk : cs.kind = .function) (hd0 : dp + 2 < recursionLimit) (hu : un + 116 < cLine) (hx : (x, instObj 181 dx) ∈ news) (hdx : (dx, dictOf es ne) ∈ news) (hkd : getL (Str.ofString "kind") es = some (some (.str (Str.ofString "integer") tkk))) (hit : getL (Str.ofString "items") es = some (some (.ref l)))
    (hret : ∀ (h' : Heap) (tk' : Nat), Fr h₀ L h' m → News h₀ L h' news → Q (.ref l) { s with heap := h', toks := tk' }) : wpAny (model PySem.Challenge.rw_ov0054_01.row.prog w) (ktrTop dp un gd cn cs L a ccd cl outer) (call (.ref 74) [.ref x]) Q E s := by
  revert X; k_fill; intro X
  k_extra "enter"
  k_steps
  all_goals exact hret _ _ (by assumption) (by assumption)
theorem whole_subscripts_dbl {x dx l : Addr} {es : List DictEntry} {ne nl : Nat} {tkk : Tok} {vs : List Value} {ds : List (Option (Int × Int))} (B : Below A₀ base outer h₀) (F : Fr h₀ L s.heap m) (X : (hd.heap_39 w.params).In h₀) (N : News h₀ L s.heap news) (T : Top hd.view_39 (looseW hd.view_39 []) mean mg mb h₀) (hk : cs.kind = .function) (hd0 : dp + 4 < recursionLimit) (hu : un + 132 < cLine) (hx : (x, instObj 181 dx) ∈ news) (hdx : (dx, dictOf es ne) ∈ news) (hkd : getL (Str.ofString "kind") es = some (some (.str (Str.ofString "double") tkk))) (hit : getL (Str.ofString "items") es = some (some (.ref l)))
    (hl : (l, listOf vs.toArray nl) ∈ news) (hf : Fracs news vs ds) (hlen : ds.length < 1000)
    (hret : ∀ (r : Addr) (ws : List Value) (nr : Nat) (h' : Heap) (tk' : Nat), Fr h₀ L h' m → News h₀ L h' ((r, listOf ws.toArray nr) :: news) → (∀ p ∈ news, p.1 ≠ r) → OIs ws (ds.map wholeOf) → Q (.ref r) { s with heap := h', toks := tk' }) : wpAny (model PySem.Challenge.rw_ov0054_01.row.prog w) (ktrTop dp un gd cn cs L a ccd cl outer) (call (.ref 74) [.ref x]) Q E s := by
  revert X; k_fill; intro X
  k_extra "enter"
  rename Fr _ _ _ _ => F1
  replace F1 : Fr _ _ _ (fun y => List.lookup y [(Str.ofString "ix", .ref x)]) := F1
  k_steps
  refine Stop.of ?_
  rename Fr _ _ _ _ => F1
  rename News _ _ _ _ => N1
  refine for_list (σ := List Value × Nat) (fun c => [(_, listOf c.1.toArray c.2)]) (fun _ => []) [] (fun i c => OIs c.1 ((ds.take i).map wholeOf)) ([], 0) rfl hl F1 N1 ?_ ?_ ?_ ?_ ?_
  · exact ledOff1 (by k_all)
  · exact fun _ hp => nomatch hp
  · exact OIs.nil
  · clear F1 N1
    intro i v c u rest h tk hv hP hsub hoff F N
    dsimp only [kstB, List.cons_append, List.nil_append] at F N
    have ho := hoff _ (.head _)
    dsimp only at ho
    have hcl : c.1.length < 1000 := by have h1 := hP.length; have h2 := (List.getElem?_eq_some_iff.mp hv).1; have h3 := hf.1; simp only [List.length_map, List.length_take] at h1; omega
    rcases hf.2 i v hv with ⟨hd, rfl⟩ | ⟨p, q, a, tp, tq, n, hd, rfl, ha, hq1, hq2⟩
    · k_steps
      k_extra "turn end 2"
      · rw [take_snoc hd, List.map_append]; exact hP.snoc .none
      · exact ledOff1 ho
    · have ha' := hsub _ ha
      k_steps
      · exfalso; omega
      · k_extra "turn end 2"
        · rw [take_snoc hd, List.map_append]; exact hP.snoc (.some _ _)
        · exact ledOff1 ho
  · clear F1 N1
    intro c u h tk hP hoff F N
    dsimp only [kstB, List.cons_append, List.nil_append] at F N
    k_steps
    rw [take_all hf.1] at hP
    exact hret _ _ _ _ _ (by assumption) (by assumption) (by k_all) hP
end

end
theorem anew18 : True := by
  w_top off
  k_with_none
  k_with "gen" => (refine cut_genF ?_; intro q9 hq9)
  k_with "CutEnd" => (refine cut_in (by assumption) ?_)
  k_with "allLt" => (first | assumption | (rename _ ∧ _ => h9; obtain ⟨h91, h92⟩ := h9; k_extra "allLt"))
  k_with "call builtin:len" => (k_here; (with_reducible show wpAny _ _ (call (Value.builtin "len") [Value.ref _]) _ _ _); k_dflt (refine' len_led (by first | (k_asm) | fail) (by first | (k_mem) | fail) (by first | (omega) | fail) ?_; k_whole))
  k_with "exec For" => (k_here; (rename Fr _ _ _ _ => lF'); (with_unfolding_all refine' For_invVF lF' (by first | (k_dflt (exact rfl)) | fail) (by first | (k_dflt (exact rfl)) | fail) ?_; k_whole))
  k_with "exec For Name Attribute cons nil" => (walk_at "exec For")
  k_with "exec For Name Name cons nil" => (walk_at "exec For")
  k_with "exec For Name Call cons nil" => (walk_at "exec For")
  k_with "room" => (first | omega | (dsimp only [ktrTop, Around.deeper, Around.in1] at *; omega))
  k_with "enter" => (refine wpAny_call ?_; k_dflt cell_enter; (try generalize List.length (List.filterMap _ _) = ln9); k_extra "gen")
  k_with "getAttr ref" => (k_here; k_dflt (refine' get_own (by first | (k_asm) | fail) (by first | (k_asm) | fail) (by first | (k_inst) | fail) (by first | (k_is) | fail) (by first | (k_is) | fail) (by first | (k_is) | fail) (by first | (k_is) | fail) (by first | (assumption) | fail) (by first | (rfl) | fail) ?_; k_whole))
  k_with "small" => (first | omega | (simp only [List.length_append, List.length_cons, List.length_nil]; omega))
  k_with "call builtin:list.append" => (k_here; (with_reducible show wpAny _ _ (call (Value.builtin _) [Value.ref _, _]) _ _ _); k_dflt (refine' append_led (by first | (k_asm) | fail) (by first | (k_asm) | fail) (by first | (k_upd) | fail) (by first | (k_extra "small") | fail) ?_; k_whole); intro h' F' N'; (try k_sweep))
  k_with "turn map" => (intro z hz hp9 hs; (try dsimp only [kstB]); first | (simp only [hz, hs, if_false, Bool.false_eq_true]; done) | (have hz2 := hp9 _ (.head _); dsimp only at hz2; simp only [hz, hz2, hs, if_false, Bool.false_eq_true]; done) | (have hz2 := hp9 _ (.head _); have hz3 := hp9 _ (.tail _ (.head _)); dsimp only at hz2 hz3; simp only [hz, hz2, hz3, hs, if_false, Bool.false_eq_true]; done) | (have hs2 := hs; simp only [List.contains_cons, List.contains_nil, Bool.or_false, Bool.or_eq_false_iff, beq_eq_false_iff_ne, ne_eq] at hs2; simp only [hz, hs, hs2, if_false, Bool.false_eq_true]; done) | (have hz2 := hp9 _ (.head _); dsimp only at hz2; have hs2 := hs; simp only [List.contains_cons, List.contains_nil, Bool.or_false, Bool.or_eq_false_iff, beq_eq_false_iff_ne, ne_eq] at hs2; simp only [hz, hz2, hs, hs2, if_false, Bool.false_eq_true]))
  k_with "turn end 1" => (first | refine TurnEnd.next _ (by assumption) (by assumption) ?_ ?_ (by exact fun _ hp => nomatch hp) (by k_extra "turn map") | refine TurnEnd.cont _ (by assumption) (by assumption) ?_ ?_ (by exact fun _ hp => nomatch hp) (by k_extra "turn map"))
  k_with "turn end 2" => (first | refine TurnEnd.next (_, _) (by assumption) (by assumption) ?_ ?_ (by exact fun _ hp => nomatch hp) (by k_extra "turn map") | refine TurnEnd.cont (_, _) (by assumption) (by assumption) ?_ ?_ (by exact fun _ hp => nomatch hp) (by k_extra "turn map"))
  k_with "turn end 3" => (first | refine TurnEnd.next (_, _, _) (by assumption) (by assumption) ?_ ?_ (by exact fun _ hp => nomatch hp) (by k_extra "turn map") | refine TurnEnd.cont (_, _, _) (by assumption) (by assumption) ?_ ?_ (by exact fun _ hp => nomatch hp) (by k_extra "turn map"))
  first | walk1 | exact True.intro
section
theorem words4 : True := by
  k_with "subscriptTail" => (k_here; (with_reducible show wpAny _ _ (subscriptTail _ _ (Value.ref _) (Value.int _ _)) _ _ _); (with_unfolding_all refine' item_oi (by first | (k_dflt (k_asm)) | fail) (by first | (k_dflt (k_mem)) | fail) (by first | (k_dflt (assumption)) | fail) (by first | (k_dflt (omega)) | fail) (by first | (k_dflt (omega)) | fail) (by first | (k_dflt (omega)) | fail) ?_ (by first | (k_dflt (with_unfolding_all rfl)) | fail); k_whole); intro v9 d9 hd9 hv9; cases hv9)
  exact True.intro
section
variable {w : World} {mean : ExcName → Option Value} {mg mb : Str → Option Value} {dp un : Nat} {gd : Option (List Code)} {cn : Str} {cs : Scope} {a : Addr} {ccd : Value} {cl : List (Str × Addr)} {outer : List Env} {A₀ : Around} {base h₀ : Heap} {L : Addr} {m : Str → Option Value} {s : Shared} {Q E : Value → Shared → Prop} {news : List (Addr × Obj)}
theorem logical_places_ok {l : Addr} {vs : List Value} {ds : List (Option Int)} {nl nn : Nat} {tn : Tok} (B : Below A₀ base outer h₀) (F : Fr h₀ L s.heap m) (X : (hd.heap_39 w.params).In h₀) (N : News h₀ L s.heap news) (T : Top hd.view_39 (looseW hd.view_39 []) mean mg mb h₀) (hk : cs.kind = .function) (hd0 : dp + 2 < recursionLimit) (hu : un + 116 < cLine) (hl : (l, listOf vs.toArray nl) ∈ news) (hi : OIs vs ds) (hlen : ds.length < 1000) (hnn : nn < 1000)
    (hret : ∀ (r : Addr) (ws : List Value) (nr : Nat) (h' : Heap) (tk' : Nat), Fr h₀ L h' m → News h₀ L h' ((r, listOf ws.toArray nr) :: news) → (∀ p ∈ news, p.1 ≠ r) → OIs ws (logicalPlaces ds nn) → Q (.ref r) { s with heap := h', toks := tk' }) : wpAny (model PySem.Challenge.rw_ov0054_01.row.prog w) (ktrTop dp un gd cn cs L a ccd cl outer) (call (.ref 81) [.ref l, .int (nn : Int) tn]) Q E s := by
  revert X; k_fill; intro X
  have hvl := hi.length
  k_extra "enter"
  rename Fr _ _ _ _ => F1
  replace F1 : Fr _ _ _ (fun y => List.lookup y [(Str.ofString "n", .int (nn : Int) tn), (Str.ofString "items", .ref l)]) := F1
  k_steps
  · have e0 : logicalPlaces ds nn = [] := by unfold logicalPlaces; rw [if_pos (by omega)]
    exact hret _ [] _ _ _ (by assumption) (by assumption) (by k_all) (by rw [e0]; exact OIs.nil)
  refine Stop.of ?_
  rename Fr _ _ _ _ => F1
  rename News _ _ _ _ => N1
  rename IsRange _ _ _ _ _ _ _ _ => R1
  rw [show (if (vs.length : Int) > (nn : Int) then (vs.length : Int) else (nn : Int)) = ((max nn ds.length : Nat) : Int) by split <;> omega] at R1
  refine for_range (σ := List Value × Nat) (fun c => [(_, listOf c.1.toArray c.2)]) (fun _ => []) [Str.ofString "item"] (fun i c => OIs c.1 ((List.range i).flatMap (logicalTurn ds))) ([], 0) rfl R1 (small_range (by omega)) (size_range _) F1 N1 ?_ ?_ ?_ ?_ ?_
  · exact ledOff1 (by k_all)
  · exact fun _ hp => nomatch hp
  · exact OIs.nil
  · clear F1 N1 R1
    intro i k t c u rest h tk hi' hk' hP hsub hoff F N
    have hki : k = (i : Int) := by omega
    subst hki
    dsimp only [kstB, List.cons_append, List.nil_append] at F N
    have ho := hoff _ (.head _)
    dsimp only at ho
    have hcl : c.1.length < 1000 := by have h1 := hP.length; have h2 := flat_len _ (logicalTurn_len ds) i; omega
    have hl' := hsub _ hl
    have hfm := fmod_in (i : Int) (b := (vs.length : Int)) (by omega)
    have e1 : (Int.fmod (i : Int) (vs.length : Int)).toNat = i % ds.length := by rw [fmod_nat, hvl]; exact Int.toNat_natCast _
    k_steps
    all_goals rename (_[_]? = some _) => hd9
    all_goals rw [e1] at hd9
    · k_extra "turn end 2"
      · rw [flat_range_succ, show logicalTurn ds i = [none] by simp only [logicalTurn, hd9]]; exact hP.snoc .none
      · exact ledOff1 ho
    · k_extra "turn end 2"
      · rw [flat_range_succ, show logicalTurn ds i = [some (i : Int)] by simp only [logicalTurn, hd9]; rw [if_neg (by assumption)]]; exact hP.snoc (.some _ _)
      · exact ledOff1 ho
    · k_extra "turn end 2"
      · rw [flat_range_succ, show logicalTurn ds i = [] by simp only [logicalTurn, hd9]; rw [if_pos (by omega)], List.append_nil]; exact hP
      · exact ledOff1 ho
  · clear F1 N1 R1
    intro c u h tk hP hoff F N
    dsimp only [kstB, List.cons_append, List.nil_append] at F N
    k_steps
    have e0 : logicalPlaces ds nn = (List.range (max nn ds.length)).flatMap (logicalTurn ds) := by unfold logicalPlaces; rw [if_neg (by omega)]
    exact hret _ _ _ _ _ (by assumption) (by assumption) (by k_all) (by rw [e0]; exact hP)
end

end
theorem anew19 : True := by
  w_top off
  k_with_none
  k_with "gen" => (refine cut_genF ?_; intro q9 hq9)
  k_with "CutEnd" => (refine cut_in (by assumption) ?_)
  k_with "allLt" => (first | assumption | (rename _ ∧ _ => h9; obtain ⟨h91, h92⟩ := h9; k_extra "allLt"))
  k_with "call builtin:len" => (k_here; (with_reducible show wpAny _ _ (call (Value.builtin "len") [Value.ref _]) _ _ _); k_dflt (refine' len_led (by first | (k_asm) | fail) (by first | (k_mem) | fail) (by first | (omega) | fail) ?_; k_whole))
  k_with "exec For" => (k_here; (rename Fr _ _ _ _ => lF'); (with_unfolding_all refine' For_invVF lF' (by first | (k_dflt (exact rfl)) | fail) (by first | (k_dflt (exact rfl)) | fail) ?_; k_whole))
  k_with "exec For Name Attribute cons nil" => (walk_at "exec For")
  k_with "exec For Name Name cons nil" => (walk_at "exec For")
  k_with "exec For Name Call cons nil" => (walk_at "exec For")
  k_with "room" => (first | omega | (dsimp only [ktrTop, Around.deeper, Around.in1] at *; omega))
  k_with "enter" => (refine wpAny_call ?_; k_dflt cell_enter; (try generalize List.length (List.filterMap _ _) = ln9); k_extra "gen")
  k_with "getAttr ref" => (k_here; k_dflt (refine' get_own (by first | (k_asm) | fail) (by first | (k_asm) | fail) (by first | (k_inst) | fail) (by first | (k_is) | fail) (by first | (k_is) | fail) (by first | (k_is) | fail) (by first | (k_is) | fail) (by first | (assumption) | fail) (by first | (rfl) | fail) ?_; k_whole))
  k_with "small" => (first | omega | (simp only [List.length_append, List.length_cons, List.length_nil]; omega))
  k_with "call builtin:list.append" => (k_here; (with_reducible show wpAny _ _ (call (Value.builtin _) [Value.ref _, _]) _ _ _); k_dflt (refine' append_led (by first | (k_asm) | fail) (by first | (k_asm) | fail) (by first | (k_upd) | fail) (by first | (k_extra "small") | fail) ?_; k_whole); intro h' F' N'; (try k_sweep))
  k_with "turn map" => (intro z hz hp9 hs; (try dsimp only [kstB]); first | (simp only [hz, hs, if_false, Bool.false_eq_true]; done) | (have hz2 := hp9 _ (.head _); dsimp only at hz2; simp only [hz, hz2, hs, if_false, Bool.false_eq_true]; done) | (have hz2 := hp9 _ (.head _); have hz3 := hp9 _ (.tail _ (.head _)); dsimp only at hz2 hz3; simp only [hz, hz2, hz3, hs, if_false, Bool.false_eq_true]; done) | (have hs2 := hs; simp only [List.contains_cons, List.contains_nil, Bool.or_false, Bool.or_eq_false_iff, beq_eq_false_iff_ne, ne_eq] at hs2; simp only [hz, hs, hs2, if_false, Bool.false_eq_true]; done) | (have hz2 := hp9 _ (.head _); dsimp only at hz2; have hs2 := hs; simp only [List.contains_cons, List.contains_nil, Bool.or_false, Bool.or_eq_false_iff, beq_eq_false_iff_ne, ne_eq] at hs2; simp only [hz, hz2, hs, hs2, if_false, Bool.false_eq_true]))
  k_with "turn end 1" => (first | refine TurnEnd.next _ (by assumption) (by assumption) ?_ ?_ (by exact fun _ hp => nomatch hp) (by k_extra "turn map") | refine TurnEnd.cont _ (by assumption) (by assumption) ?_ ?_ (by exact fun _ hp => nomatch hp) (by k_extra "turn map"))
  k_with "turn end 2" => (first | refine TurnEnd.next (_, _) (by assumption) (by assumption) ?_ ?_ (by exact fun _ hp => nomatch hp) (by k_extra "turn map") | refine TurnEnd.cont (_, _) (by assumption) (by assumption) ?_ ?_ (by exact fun _ hp => nomatch hp) (by k_extra "turn map"))
  k_with "turn end 3" => (first | refine TurnEnd.next (_, _, _) (by assumption) (by assumption) ?_ ?_ (by exact fun _ hp => nomatch hp) (by k_extra "turn map") | refine TurnEnd.cont (_, _, _) (by assumption) (by assumption) ?_ ?_ (by exact fun _ hp => nomatch hp) (by k_extra "turn map"))
  first | walk1 | exact True.intro
section
theorem words5 : True := by
  k_with "call builtin:len" => (k_here; (with_reducible show wpAny _ _ (call (Value.builtin "len") [Value.ref _]) _ _ _); k_dflt (refine' kda_len (knd := intKind _ _) (by first | (k_asm) | fail) (by first | (k_mem) | fail) (by first | (assumption) | fail) (by first | (assumption) | fail) (by first | (omega) | fail) ?_; k_whole))
  k_with "setItem ref int" => (k_here; k_dflt (refine' kda_set (knd := intKind _ _) (by first | (k_asm) | fail) (by first | (k_asm) | fail) (by first | (k_updF) | fail) (by first | (assumption) | fail) (intKind_is _ _ _ _) (by first | (rw [sizeLine_eq]; omega) | fail) ?_); intro h' o' F' N' hd'; (try dsimp only at N'))
  k_with "compareOp NotIn int ref" => (k_here; k_dflt (refine' kdg_notin (knd := intKind _ _) (by first | (k_asm) | fail) (by first | (k_mem) | fail) (by first | (assumption) | fail) (by first | (assumption) | fail) (intKind_is _ _ _ _) _ (by first | (exact rfl) | fail) ?_; k_whole))
  k_with "CompEnd" => (refine Stop.intro ?_)
  k_with "CompSrcT" => (refine Stop.intro ?_)
  k_with "exec Raise some none" => (refine Stop.intro ?_)
  exact True.intro
section
variable {w : World} {mean : ExcName → Option Value} {mg mb : Str → Option Value} {dp un : Nat} {gd : Option (List Code)} {cn : Str} {cs : Scope} {a : Addr} {ccd : Value} {cl : List (Str × Addr)} {outer : List Env} {A₀ : Around} {base h₀ : Heap} {L : Addr} {m : Str → Option Value} {s : Shared} {Q E : Value → Shared → Prop} {news : List (Addr × Obj)}
theorem whole_places_ok {l : Addr} {vs : List Value} {ds : List (Option Int)} {nl nn : Nat} {tn : Tok} (B : Below A₀ base outer h₀) (F : Fr h₀ L s.heap m) (X : (hd.heap_39 w.params).In h₀) (N : News h₀ L s.heap news) (T : Top hd.view_39 (looseW hd.view_39 []) mean mg mb h₀) (hk : cs.kind = .function) (hd0 : dp + 2 < recursionLimit) (hu : un + 116 < cLine) (hl : (l, listOf vs.toArray nl) ∈ news) (hi : OIs vs ds) (hlen : ds.length < 1000) (hnn : nn < 1000) (hok : outsOf ds = [] ∨ placesOf ds = [])
    (hret : ∀ (r : Addr) (ws : List Value) (nr : Nat) (h' : Heap) (tk' : Nat), Fr h₀ L h' m → News h₀ L h' ((r, listOf ws.toArray nr) :: news) → (∀ p ∈ news, p.1 ≠ r) → OIs ws (wholePlaces ds nn) → Q (.ref r) { s with heap := h', toks := tk' }) : wpAny (model PySem.Challenge.rw_ov0054_01.row.prog w) (ktrTop dp un gd cn cs L a ccd cl outer) (call (.ref 86) [.ref l, .int (nn : Int) tn]) Q E s := by
  revert X; k_fill; intro X
  have hvl := hi.length
  walk_at "enterC"
  rename Fr _ _ _ _ => F1
  replace F1 : Fr _ _ _ (fun y => if y = Str.ofString "n" then some (.int (nn : Int) tn) else if y = Str.ofString "items" then some (.ref l) else none) := F1
  k_steps
  refine Stop.of ?_
  rename Fr _ _ _ _ => F1
  rename News _ _ _ _ => N1
  refine for_list (σ := WPSt) (news := _ :: news) (fun c => [(_, c.o), (_, listOf c.vs.toArray c.n)]) (fun c => [(Str.ofString "lacks", .bool c.lacks)]) []
    (fun i c => OIs c.vs ((ds.take i).flatMap placeOf) ∧ c.o.IsDictOf (intKind PySem.Challenge.rw_ov0054_01.row.prog w) c.kvs ∧ SetIs c.kvs ((ds.take i).flatMap outOf) ∧ (c.lacks = true → c.vs ≠ [])) ⟨_, [], [], 0, false⟩ rfl (.tail _ hl) F1 N1 ?_ ?_ ?_ ?_ ?_
  · exact ledOff2 (off_cons (by k_ne) (by k_all)) (off_cons (by k_ne) (by k_all))
  · intro p hp; rw [List.mem_singleton.mp hp]; rfl
  · exact ⟨OIs.nil, by assumption, SetIs.nil, fun e => nomatch e⟩
  · clear F1 N1
    intro i v c u rest h tk hv hP hsub hoff F N
    dsimp only [kstB, List.cons_append, List.nil_append] at F N
    have hol := hoff _ (.tail _ (.head _))
    have hod := hoff _ (.head _)
    dsimp only at hol hod
    have hcm := hsub _ (.head _)
    obtain ⟨hP1, hP2, hP3, hP4⟩ := hP
    have hcl : c.vs.length < 1000 := by have h1 := hP1.length; have h2 := flatMap_len placeOf_len (ds.take i); rw [List.length_take] at h2; omega
    have hck : c.kvs.length < 1000 := by have h1 := hP3.2.2; have h2 := flatMap_len outOf_len (ds.take i); rw [List.length_take] at h2; omega
    obtain ⟨d, hd, hvd⟩ := hi.get hv
    rw [take_snoc hd, flatMap_snoc, flatMap_snoc]
    cases hvd with
    | none =>
      k_steps
      refine TurnEnd.next (c' := ⟨_, c.kvs, _, _, true⟩) (F := by assumption) (N := by assumption) ?_ ?_ ?_ ?_
      · exact ⟨hP1.snoc .none, hP2, by simpa [outOf] using hP3, fun _ => by simp⟩
      · exact ledOff2 hod hol
      · intro p hp; rw [List.mem_singleton.mp hp]; rfl
      · k_extra "turn map"
    | some k t =>
      k_steps
      · refine TurnEnd.next (c' := ⟨c.o, c.kvs, c.vs ++ [.int (k - 1) _], c.n + 1, c.lacks⟩) (F := by assumption) (N := by assumption) ?_ ?_ ?_ ?_
        · refine ⟨by rw [show placeOf (some k) = [some (k - 1)] from if_pos (by assumption)]; exact hP1.snoc (.some _ _), hP2, ?_, fun _ => by simp⟩
          rw [show outOf (some k) = [] from if_neg (by omega), List.append_nil]; exact hP3
        · exact ledOff2 hod hol
        · intro p hp; rw [List.mem_singleton.mp hp]; rfl
        · k_extra "turn map"
      · refine TurnEnd.next (c' := ⟨_, stored c.kvs (-k - 1) (.bool true), c.vs, c.n, c.lacks⟩) (F := by assumption) (N := by assumption) ?_ ?_ ?_ ?_
        · refine ⟨by rw [show placeOf (some k) = [] from if_neg (by omega), List.append_nil]; exact hP1, by assumption, ?_, hP4⟩
          rw [show outOf (some k) = [-k - 1] from if_pos (by omega)]; exact hP3.put _ _
        · exact ledOff2 hod hol
        · intro p hp; rw [List.mem_singleton.mp hp]; rfl
        · k_extra "turn map"
      · refine TurnEnd.next (c' := ⟨c.o, c.kvs, c.vs, c.n, c.lacks⟩) (F := by assumption) (N := by assumption) ?_ ?_ ?_ ?_
        · refine ⟨by rw [show placeOf (some k) = [] from if_neg (by omega), List.append_nil]; exact hP1, hP2, ?_, hP4⟩
          rw [show outOf (some k) = [] from if_neg (by omega), List.append_nil]; exact hP3
        · exact ledOff2 hod hol
        · intro p hp; rw [List.mem_singleton.mp hp]; rfl
        · k_extra "turn map"
  · clear F1 N1
    intro c u h tk hP hoff F N
    dsimp only [kstB, List.cons_append, List.nil_append] at F N
    rw [take_all hvl] at hP
    obtain ⟨hP1, hP2, hP3, hP4⟩ := hP
    have hcl : c.vs.length < 1000 := by have h1 := hP1.length; have h2 := flatMap_len placeOf_len ds; omega
    have hck : c.kvs.length < 1000 := by have h1 := hP3.2.2; have h2 := flatMap_len outOf_len ds; omega
    k_steps
    · have e0 : outsOf ds = [] := hP3.2.1.mp (by omega)
      exact hret _ _ _ _ _ (by assumption) (news_sub (by assumption) (fun p hp => by rcases List.mem_cons.mp hp with rfl | hp; exact .tail _ (.head _); exact .tail _ (.tail _ (.tail _ hp)))) (by k_all) (by unfold wholePlaces; rw [if_pos e0]; exact hP1)
    · exfalso
      have e0 : outsOf ds ≠ [] := fun e => absurd (hP3.2.1.mpr e) (by omega)
      have e1 := hok.resolve_left e0
      have e2 := hP1.length
      have e3 : c.vs = [] := by rw [show ds.flatMap placeOf = [] from e1] at e2; exact List.length_eq_zero_iff.mp e2
      exact hP4 (by assumption) e3
    · exfalso
      have e0 : outsOf ds ≠ [] := fun e => absurd (hP3.2.1.mpr e) (by omega)
      have e1 := hok.resolve_left e0
      have e2 := hP1.length
      rw [show ds.flatMap placeOf = [] from e1] at e2
      have e3 : c.vs.length = 0 := e2
      omega
    · refine Stop.of ?_
      have e0 : outsOf ds ≠ [] := fun e => absurd (hP3.2.1.mpr e) (by omega)
      rename Fr _ _ _ _ => F1
      rename News _ _ _ _ => N1
      rename IsRange _ _ _ _ _ _ _ _ => R1
      refine LCt.CompSrcT.range rfl F1 N1 R1 (small_range (by omega)) (size_range _) (by rw [sizeLine_eq]; omega) fun g9 => ?_
      refine compT_inv (J := fun i ys nw => nw = (_, c.o) :: (_, listOf c.vs.toArray c.n) :: (_, _) :: news ∧ OIs ys ((List.range i).flatMap fun (j : Nat) => if (j : Int) ∈ outsOf ds then [] else [some (j : Int)])) ⟨rfl, OIs.nil⟩ ?_ ?_
      · clear F1 N1 R1
        rintro i v ys nw I oI C oC D m₂ h tk E' hin ⟨t, rfl⟩ ⟨rfl, hys⟩ hC hx F N off ne
        have hzi : (0 : Int) + (i : Int) = (i : Int) := by omega
        rw [hzi] at hx
        k_steps
        all_goals rename (Option.isSome _ = _) => hq
        all_goals rw [hP3.1] at hq
        · refine Stop.of (LCg.CompEnd.intro (by assumption) (by assumption) _ (fun p hp => hp) off trivial ⟨rfl, ?_⟩)
          rw [flat_range_succ, if_pos (show (i : Int) ∈ outsOf ds from of_decide_eq_true hq), List.append_nil]; exact hys
        · refine Stop.of (LCg.CompEnd.intro (by assumption) (by assumption) _ (fun p hp => hp) off trivial ⟨rfl, ?_⟩)
          rw [flat_range_succ, if_neg (show ¬ (i : Int) ∈ outsOf ds from of_decide_eq_false hq)]; exact hys.snoc (.some _ _)
      · rintro ys nw ⟨rfl, hys⟩ D h tk F N off
        k_steps
        refine hret _ _ _ _ _ (by assumption) (news_sub (by assumption) (fun p hp => by rcases List.mem_cons.mp hp with rfl | hp; exact .head _; exact .tail _ (.tail _ (.tail _ (.tail _ hp))))) ?_ (by unfold wholePlaces; rw [if_neg e0]; exact hys)
        simp only [LCg.Off1] at off
        exact off1_ne off.2.2.2
end

end
theorem anew20 : True := by
  w_top off
  k_with_none
  k_with "gen" => (refine cut_genF ?_; intro q9 hq9)
  k_with "CutEnd" => (refine cut_in (by assumption) ?_)
  k_with "allLt" => (first | assumption | (rename _ ∧ _ => h9; obtain ⟨h91, h92⟩ := h9; k_extra "allLt"))
  k_with "call builtin:len" => (k_here; (with_reducible show wpAny _ _ (call (Value.builtin "len") [Value.ref _]) _ _ _); k_dflt (refine' len_led (by first | (k_asm) | fail) (by first | (k_mem) | fail) (by first | (omega) | fail) ?_; k_whole))
  k_with "exec For" => (k_here; (rename Fr _ _ _ _ => lF'); (with_unfolding_all refine' For_invVF lF' (by first | (k_dflt (exact rfl)) | fail) (by first | (k_dflt (exact rfl)) | fail) ?_; k_whole))
  k_with "exec For Name Attribute cons nil" => (walk_at "exec For")
  k_with "exec For Name Name cons nil" => (walk_at "exec For")
  k_with "exec For Name Call cons nil" => (walk_at "exec For")
  k_with "room" => (first | omega | (dsimp only [ktrTop, Around.deeper, Around.in1] at *; omega))
  k_with "enter" => (refine wpAny_call ?_; k_dflt cell_enter; (try generalize List.length (List.filterMap _ _) = ln9); k_extra "gen")
  k_with "getAttr ref" => (k_here; k_dflt (refine' get_own (by first | (k_asm) | fail) (by first | (k_asm) | fail) (by first | (k_inst) | fail) (by first | (k_is) | fail) (by first | (k_is) | fail) (by first | (k_is) | fail) (by first | (k_is) | fail) (by first | (assumption) | fail) (by first | (rfl) | fail) ?_; k_whole))
  k_with "small" => (first | omega | (simp only [List.length_append, List.length_cons, List.length_nil]; omega))
  k_with "call builtin:list.append" => (k_here; (with_reducible show wpAny _ _ (call (Value.builtin _) [Value.ref _, _]) _ _ _); k_dflt (refine' append_led (by first | (k_asm) | fail) (by first | (k_asm) | fail) (by first | (k_upd) | fail) (by first | (k_extra "small") | fail) ?_; k_whole); intro h' F' N'; (try k_sweep))
  k_with "turn map" => (intro z hz hp9 hs; (try dsimp only [kstB]); first | (simp only [hz, hs, if_false, Bool.false_eq_true]; done) | (have hz2 := hp9 _ (.head _); dsimp only at hz2; simp only [hz, hz2, hs, if_false, Bool.false_eq_true]; done) | (have hz2 := hp9 _ (.head _); have hz3 := hp9 _ (.tail _ (.head _)); dsimp only at hz2 hz3; simp only [hz, hz2, hz3, hs, if_false, Bool.false_eq_true]; done) | (have hs2 := hs; simp only [List.contains_cons, List.contains_nil, Bool.or_false, Bool.or_eq_false_iff, beq_eq_false_iff_ne, ne_eq] at hs2; simp only [hz, hs, hs2, if_false, Bool.false_eq_true]; done) | (have hz2 := hp9 _ (.head _); dsimp only at hz2; have hs2 := hs; simp only [List.contains_cons, List.contains_nil, Bool.or_false, Bool.or_eq_false_iff, beq_eq_false_iff_ne, ne_eq] at hs2; simp only [hz, hz2, hs, hs2, if_false, Bool.false_eq_true]))
  k_with "turn end 1" => (first | refine TurnEnd.next _ (by assumption) (by assumption) ?_ ?_ (by exact fun _ hp => nomatch hp) (by k_extra "turn map") | refine TurnEnd.cont _ (by assumption) (by assumption) ?_ ?_ (by exact fun _ hp => nomatch hp) (by k_extra "turn map"))
  k_with "turn end 2" => (first | refine TurnEnd.next (_, _) (by assumption) (by assumption) ?_ ?_ (by exact fun _ hp => nomatch hp) (by k_extra "turn map") | refine TurnEnd.cont (_, _) (by assumption) (by assumption) ?_ ?_ (by exact fun _ hp => nomatch hp) (by k_extra "turn map"))
  k_with "turn end 3" => (first | refine TurnEnd.next (_, _, _) (by assumption) (by assumption) ?_ ?_ (by exact fun _ hp => nomatch hp) (by k_extra "turn map") | refine TurnEnd.cont (_, _, _) (by assumption) (by assumption) ?_ ?_ (by exact fun _ hp => nomatch hp) (by k_extra "turn map"))
  first | walk1 | exact True.intro
section
theorem words6 : True := by
  k_with "subscriptTail" => (k_here; (with_reducible show wpAny _ _ (subscriptTail _ _ (Value.ref _) (Value.int _ _)) _ _ _); (with_unfolding_all refine' item_led (by first | (k_dflt (k_asm)) | fail) (by first | (k_dflt (k_mem)) | fail) (by first | (k_dflt (omega)) | fail) (by first | (k_dflt (omega)) | fail) (by first | (k_dflt (assumption)) | fail) ?_ (by first | (k_dflt (with_unfolding_all rfl)) | fail); k_whole))
  k_with "compareOp NotIn str ref" => (k_here; k_dflt (refine' kdg_notin (knd := PySem.strKind _ _) (by first | (k_asm) | fail) (by first | (k_mem) | fail) (by first | (assumption) | fail) (by first | (assumption) | fail) (strKind_is _ _ _ _) _ (by first | (exact rfl) | fail) ?_; k_whole))
  k_with "setItem ref str" => (k_here; k_dflt (refine' kda_set (knd := PySem.strKind _ _) (by first | (k_asm) | fail) (by first | (k_asm) | fail) (by first | (k_updF) | fail) (by first | (assumption) | fail) (strKind_is _ _ _ _) (by first | (rw [sizeLine_eq]; omega) | fail) ?_); intro h' o' F' N' hd'; (try dsimp only at N'))
  exact True.intro
section
variable {w : World} {mean : ExcName → Option Value} {mg mb : Str → Option Value} {dp un : Nat} {gd : Option (List Code)} {cn : Str} {cs : Scope} {a : Addr} {ccd : Value} {cl : List (Str × Addr)} {outer : List Env} {A₀ : Around} {base h₀ : Heap} {L : Addr} {m : Str → Option Value} {s : Shared} {Q E : Value → Shared → Prop} {news : List (Addr × Obj)}
theorem first_places_ok {nv : Value} {nm : Option (List (Option Str))} (B : Below A₀ base outer h₀) (F : Fr h₀ L s.heap m) (X : (hd.heap_39 w.params).In h₀) (N : News h₀ L s.heap news) (T : Top hd.view_39 (looseW hd.view_39 []) mean mg mb h₀) (hk : cs.kind = .function) (hd0 : dp + 2 < recursionLimit) (hu : un + 116 < cLine) (hnm : NamesAre news nv nm)
    (hret : ∀ (d : Addr) (o : Obj) (kvs : List (Str × Value)) (h' : Heap) (tk' : Nat), Fr h₀ L h' m → News h₀ L h' ((d, o) :: news) → (∀ p ∈ news, p.1 ≠ d) → (d == sysModules) = false → o.IsDictOf (PySem.strKind PySem.Challenge.rw_ov0054_01.row.prog w) kvs → TabIs kvs (firstOf nm) → kvs.length ≤ 1000 → Q (.ref d) { s with heap := h', toks := tk' }) : wpAny (model PySem.Challenge.rw_ov0054_01.row.prog w) (ktrTop dp un gd cn cs L a ccd cl outer) (call (.ref 93) [nv]) Q E s := by
  revert X; k_fill; intro X
  k_extra "enter"
  rename Fr _ _ _ _ => F1
  replace F1 : Fr _ _ _ (fun y => List.lookup y [(Str.ofString "names", nv)]) := F1
  cases hnm with
  | none =>
    k_steps
    exact hret _ _ [] _ _ (by assumption) (by assumption) (by k_all) (by assumption) (by assumption) TabIs.nil (by simp)
  | some hl hs hlen =>
    rename_i l vs nl ns
    have hvl := hs.length
    k_steps
    refine Stop.of ?_
    rename Fr _ _ _ _ => F1
    rename News _ _ _ _ => N1
    rename IsRange _ _ _ _ _ _ _ _ => R1
    refine for_range (σ := Obj × List (Str × Value)) (fun c => [(_, c.1)]) (fun _ => []) [Str.ofString "name"] (fun i c => c.1.IsDictOf (PySem.strKind PySem.Challenge.rw_ov0054_01.row.prog w) c.2 ∧ TabIs c.2 (firstIn (ns.take i)) ∧ c.2.length ≤ i) (_, []) rfl R1 (small_range (by omega)) (size_range _) F1 N1 ?_ ?_ ?_ ?_ ?_
    · exact ledOff1 (by k_all)
    · exact fun _ hp => nomatch hp
    · refine ⟨by assumption, ?_, by simp⟩
      intro k; show TabAtIs [] k (firstIn [] k); unfold firstIn; split <;> exact rfl
    · clear F1 N1 R1
      intro i k tI c u rest h tk hi' hk' hP hsub hoff F N
      have hki : k = (i : Int) := by omega
      subst hki
      dsimp only [kstB, List.cons_append, List.nil_append] at F N
      have ho := hoff _ (.head _)
      dsimp only at ho
      obtain ⟨hP1, hP2, hP3⟩ := hP
      obtain ⟨v, hv, hvd⟩ := hs.at (i := i) (by omega)
      have hd : ns[i]? = some ns[i] := List.getElem?_eq_getElem (by omega)
      have hv' : vs[((i : Int)).toNat]? = some v := hv
      have hl' := hsub _ hl
      rw [take_snoc hd]
      generalize ns[i] = d at hvd hd
      cases hvd with
      | none =>
        k_steps
        refine TurnEnd.next (c' := (c.1, c.2)) (F := by assumption) (N := by assumption) ?_ ?_ ?_ ?_
        · rw [firstIn_none]; exact ⟨hP1, hP2, by show c.2.length ≤ i + 1; omega⟩
        · exact ledOff1 ho
        · exact fun _ hp => nomatch hp
        · k_extra "turn map"
      | some x t =>
        k_steps
        · refine TurnEnd.next (c' := (c.1, c.2)) (F := by assumption) (N := by assumption) ?_ ?_ ?_ ?_
          · rename (Option.isSome _ = _) => hq
            rw [(hP2 x).isSome] at hq
            rw [firstIn_there hq]; exact ⟨hP1, hP2, by show c.2.length ≤ i + 1; omega⟩
          · exact ledOff1 ho
          · exact fun _ hp => nomatch hp
          · k_extra "turn map"
        · refine TurnEnd.next (c' := (_, stored c.2 x (.int (i : Int) tI))) (F := by assumption) (N := by assumption) ?_ ?_ ?_ ?_
          · rename (Option.isSome _ = _) => hq
            rename ((_ != _) = true) => hx
            rw [(hP2 x).isSome] at hq
            have hlt : (ns.take i).length = i := by rw [List.length_take]; omega
            refine ⟨by assumption, hP2.put (by rw [firstIn_new (bne_iff_ne.mp hx) hq, hlt]) (fun k hk => firstIn_other hk), ?_⟩
            exact Nat.le_trans (stored_length_le _ _ _) (by omega)
          · exact ledOff1 ho
          · exact fun _ hp => nomatch hp
          · k_extra "turn map"
        · refine TurnEnd.next (c' := (c.1, c.2)) (F := by assumption) (N := by assumption) ?_ ?_ ?_ ?_
          · rename ((_ != _) = false) => hx
            have hx' : x = Str.ofString "" := by simpa using hx
            rw [hx', firstIn_empty]; exact ⟨hP1, hP2, by show c.2.length ≤ i + 1; omega⟩
          · exact ledOff1 ho
          · exact fun _ hp => nomatch hp
          · k_extra "turn map"
    · clear F1 N1 R1
      intro c u h tk hP hoff F N
      dsimp only [kstB, List.cons_append, List.nil_append] at F N
      obtain ⟨hP1, hP2, hP3⟩ := hP
      rw [take_all hvl] at hP2
      k_steps
      exact hret _ _ c.2 _ _ (by assumption) (by assumption) (by k_all) (by assumption) (by assumption) hP2 (by omega)
end

end
theorem anew21 : True := by
  w_top off
  k_with_none
  k_with "gen" => (refine cut_genF ?_; intro q9 hq9)
  k_with "CutEnd" => (refine cut_in (by assumption) ?_)
  k_with "allLt" => (first | assumption | (rename _ ∧ _ => h9; obtain ⟨h91, h92⟩ := h9; k_extra "allLt"))
  k_with "call builtin:len" => (k_here; (with_reducible show wpAny _ _ (call (Value.builtin "len") [Value.ref _]) _ _ _); k_dflt (refine' len_led (by first | (k_asm) | fail) (by first | (k_mem) | fail) (by first | (omega) | fail) ?_; k_whole))
  k_with "exec For" => (k_here; (rename Fr _ _ _ _ => lF'); (with_unfolding_all refine' For_invVF lF' (by first | (k_dflt (exact rfl)) | fail) (by first | (k_dflt (exact rfl)) | fail) ?_; k_whole))
  k_with "exec For Name Attribute cons nil" => (walk_at "exec For")
  k_with "exec For Name Name cons nil" => (walk_at "exec For")
  k_with "exec For Name Call cons nil" => (walk_at "exec For")
  k_with "room" => (first | omega | (dsimp only [ktrTop, Around.deeper, Around.in1] at *; omega))
  k_with "enter" => (refine wpAny_call ?_; k_dflt cell_enter; (try generalize List.length (List.filterMap _ _) = ln9); k_extra "gen")
  k_with "getAttr ref" => (k_here; k_dflt (refine' get_own (by first | (k_asm) | fail) (by first | (k_asm) | fail) (by first | (k_inst) | fail) (by first | (k_is) | fail) (by first | (k_is) | fail) (by first | (k_is) | fail) (by first | (k_is) | fail) (by first | (assumption) | fail) (by first | (rfl) | fail) ?_; k_whole))
  k_with "small" => (first | omega | (simp only [List.length_append, List.length_cons, List.length_nil]; omega))
  k_with "call builtin:list.append" => (k_here; (with_reducible show wpAny _ _ (call (Value.builtin _) [Value.ref _, _]) _ _ _); k_dflt (refine' append_led (by first | (k_asm) | fail) (by first | (k_asm) | fail) (by first | (k_upd) | fail) (by first | (k_extra "small") | fail) ?_; k_whole); intro h' F' N'; (try k_sweep))
  k_with "turn map" => (intro z hz hp9 hs; (try dsimp only [kstB]); first | (simp only [hz, hs, if_false, Bool.false_eq_true]; done) | (have hz2 := hp9 _ (.head _); dsimp only at hz2; simp only [hz, hz2, hs, if_false, Bool.false_eq_true]; done) | (have hz2 := hp9 _ (.head _); have hz3 := hp9 _ (.tail _ (.head _)); dsimp only at hz2 hz3; simp only [hz, hz2, hz3, hs, if_false, Bool.false_eq_true]; done) | (have hs2 := hs; simp only [List.contains_cons, List.contains_nil, Bool.or_false, Bool.or_eq_false_iff, beq_eq_false_iff_ne, ne_eq] at hs2; simp only [hz, hs, hs2, if_false, Bool.false_eq_true]; done) | (have hz2 := hp9 _ (.head _); dsimp only at hz2; have hs2 := hs; simp only [List.contains_cons, List.contains_nil, Bool.or_false, Bool.or_eq_false_iff, beq_eq_false_iff_ne, ne_eq] at hs2; simp only [hz, hz2, hs, hs2, if_false, Bool.false_eq_true]))
  k_with "turn end 1" => (first | refine TurnEnd.next _ (by assumption) (by assumption) ?_ ?_ (by exact fun _ hp => nomatch hp) (by k_extra "turn map") | refine TurnEnd.cont _ (by assumption) (by assumption) ?_ ?_ (by exact fun _ hp => nomatch hp) (by k_extra "turn map"))
  k_with "turn end 2" => (first | refine TurnEnd.next (_, _) (by assumption) (by assumption) ?_ ?_ (by exact fun _ hp => nomatch hp) (by k_extra "turn map") | refine TurnEnd.cont (_, _) (by assumption) (by assumption) ?_ ?_ (by exact fun _ hp => nomatch hp) (by k_extra "turn map"))
  k_with "turn end 3" => (first | refine TurnEnd.next (_, _, _) (by assumption) (by assumption) ?_ ?_ (by exact fun _ hp => nomatch hp) (by k_extra "turn map") | refine TurnEnd.cont (_, _, _) (by assumption) (by assumption) ?_ ?_ (by exact fun _ hp => nomatch hp) (by k_extra "turn map"))
  first | walk1 | exact True.intro
section
theorem words7 : True := by
  k_with "call ref" => (k_here; (with_reducible show wpAny _ _ (call (Value.ref _) _) _ _ _); k_dflt (refine' first_places_ok (by first | (k_asm) | fail) (by first | (k_asm) | fail) (by first | (k_asm) | fail) (by first | (k_asm) | fail) (by first | (k_asm) | fail) (by first | (rfl) | fail) (by first | (show _ + _ < _; k_extra "room") | fail) (by first | (show _ + _ < _; k_extra "room") | fail) (by first | (assumption) | fail) ?_; k_whole); intro d9 o9 kvs9 h9 tk9 F9 N9 hne9 hsm9 hdo9 htb9 hln9; (try dsimp only))
  k_with "is some" => (first | (refine Eq.trans (congrArg Option.isSome (by assumption : valueAt _ _ = some _)) ?_; exact (rfl : _ = true)) | (refine Eq.trans (congrArg Option.isSome (by assumption : valueAt _ _ = none)) ?_; exact (rfl : _ = false)))
  k_with "compareOp In str ref" => (k_here; k_dflt (first | (refine' kda_in (knd := PySem.strKind _ _) (by first | (k_asm) | fail) (by first | (k_mem) | fail) (by first | (assumption) | fail) (by first | (assumption) | fail) (strKind_is _ _ _ _) true (by first | (exact Eq.trans (congrArg Option.isSome (by assumption : valueAt _ _ = some _)) rfl) | fail) ?_; k_whole) | (refine' kda_in (knd := PySem.strKind _ _) (by first | (k_asm) | fail) (by first | (k_mem) | fail) (by first | (assumption) | fail) (by first | (assumption) | fail) (strKind_is _ _ _ _) false (by first | (exact Eq.trans (congrArg Option.isSome (by assumption : valueAt _ _ = none)) rfl) | fail) ?_; k_whole)))
  k_with "subscriptTail" => (k_here; (with_reducible show wpAny _ _ (subscriptTail _ _ (Value.ref _) (Value.str _ _)) _ _ _); k_dflt (refine' kda_item (knd := PySem.strKind _ _) (by first | (k_asm) | fail) (by first | (k_mem) | fail) (by first | (assumption) | fail) (strKind_is _ _ _ _) (by first | (assumption) | fail) ?_ (by first | (with_unfolding_all rfl) | fail) (by first | (intro _; with_unfolding_all rfl) | fail); k_whole))
  exact True.intro
section
variable {w : World} {mean : ExcName → Option Value} {mg mb : Str → Option Value} {dp un : Nat} {gd : Option (List Code)} {cn : Str} {cs : Scope} {a : Addr} {ccd : Value} {cl : List (Str × Addr)} {outer : List Env} {A₀ : Around} {base h₀ : Heap} {L : Addr} {m : Str → Option Value} {s : Shared} {Q E : Value → Shared → Prop} {news : List (Addr × Obj)}
theorem name_places_ok {l : Addr} {vs : List Value} {nl : Nat} {ts : List (Option Str)} {nv : Value} {nm : Option (List (Option Str))} (B : Below A₀ base outer h₀) (F : Fr h₀ L s.heap m) (X : (hd.heap_39 w.params).In h₀) (N : News h₀ L s.heap news) (T : Top hd.view_39 (looseW hd.view_39 []) mean mg mb h₀) (hk : cs.kind = .function) (hd0 : dp + 4 < recursionLimit) (hu : un + 132 < cLine) (hl : (l, listOf vs.toArray nl) ∈ news) (hs : OSs vs ts) (hlen : ts.length < 1000) (hnm : NamesAre news nv nm)
    (hret : ∀ (r : Addr) (ws : List Value) (nr : Nat) (h' : Heap) (tk' : Nat), Fr h₀ L h' m → News h₀ L h' ((r, listOf ws.toArray nr) :: news) → (∀ p ∈ news, p.1 ≠ r) → OIs ws (ts.map (nameOf nm)) → Q (.ref r) { s with heap := h', toks := tk' }) : wpAny (model PySem.Challenge.rw_ov0054_01.row.prog w) (ktrTop dp un gd cn cs L a ccd cl outer) (call (.ref 100) [.ref l, nv]) Q E s := by
  revert X; k_fill; intro X
  have hvl := hs.length
  k_extra "enter"
  rename Fr _ _ _ _ => F1
  replace F1 : Fr _ _ _ (fun y => List.lookup y [(Str.ofString "names", nv), (Str.ofString "texts", .ref l)]) := F1
  k_steps
  refine Stop.of ?_
  rename Fr _ _ _ _ => F1
  rename News _ _ _ _ => N1
  rename (TabIs _ _) => htb
  rename ((_ == sysModules) = false) => hsm
  refine for_list (σ := List Value × Nat) (news := _ :: news) (fun c => [(_, listOf c.1.toArray c.2)]) (fun _ => []) [] (fun i c => OIs c.1 ((ts.take i).map (nameOf nm))) ([], 0) rfl (.tail _ hl) F1 N1 ?_ ?_ ?_ ?_ ?_
  · exact ledOff1 (off_cons (by k_ne) (by k_all))
  · exact fun _ hp => nomatch hp
  · exact OIs.nil
  · clear F1 N1
    intro i v c u rest h tk hv hP hsub hoff F N
    dsimp only [kstB, List.cons_append, List.nil_append] at F N
    have ho := hoff _ (.head _)
    dsimp only at ho
    have hd9 := hsub _ (.head _)
    obtain ⟨d, hd, hvd⟩ := hs.get hv
    have hcl : c.1.length < 1000 := by have h1 := hP.length; have h2 := (List.getElem?_eq_some_iff.mp hv).1; simp only [List.length_map, List.length_take] at h1; omega
    rw [take_snoc hd, List.map_append]
    cases hvd with
    | none =>
      k_steps
      refine TurnEnd.next (c' := (c.1 ++ [.none], c.2 + 1)) (F := by assumption) (N := by assumption) ?_ ?_ ?_ ?_
      · exact hP.snoc .none
      · exact ledOff1 ho
      · exact fun _ hp => nomatch hp
      · k_extra "turn map"
    | some x t =>
      have hk := htb x
      cases hf : firstOf nm x with
      | none =>
        rw [hf] at hk
        have hk' : valueAt _ x = none := hk
        k_steps
        refine TurnEnd.next (c' := (c.1 ++ [.none], c.2 + 1)) (F := by assumption) (N := by assumption) ?_ ?_ ?_ ?_
        · rw [show [some x].map (nameOf nm) = [none] by simp [nameOf, hf]]; exact hP.snoc .none
        · exact ledOff1 ho
        · exact fun _ hp => nomatch hp
        · k_extra "turn map"
      | some j =>
        rw [hf] at hk
        obtain ⟨tj, hk'⟩ := hk
        k_steps
        refine TurnEnd.next (c' := (c.1 ++ [.int (j : Int) tj], c.2 + 1)) (F := by assumption) (N := by assumption) ?_ ?_ ?_ ?_
        · rw [show [some x].map (nameOf nm) = [some (j : Int)] by simp [nameOf, hf]]; exact hP.snoc (.some _ _)
        · exact ledOff1 ho
        · exact fun _ hp => nomatch hp
        · k_extra "turn map"
  · clear F1 N1
    intro c u h tk hP hoff F N
    dsimp only [kstB, List.cons_append, List.nil_append] at F N
    rw [take_all hvl] at hP
    k_steps
    exact hret _ _ _ _ _ (by assumption) (news_sub (by assumption) (fun p hp => by rcases List.mem_cons.mp hp with rfl | hp; exact .head _; exact .tail _ (.tail _ hp))) (by k_all) hP
end

end
theorem anew22 : True := by
  w_top off
  k_with_none
  k_with "gen" => (refine cut_genF ?_; intro q9 hq9)
  k_with "CutEnd" => (refine cut_in (by assumption) ?_)
  k_with "allLt" => (first | assumption | (rename _ ∧ _ => h9; obtain ⟨h91, h92⟩ := h9; k_extra "allLt"))
  k_with "call builtin:len" => (k_here; (with_reducible show wpAny _ _ (call (Value.builtin "len") [Value.ref _]) _ _ _); k_dflt (refine' len_led (by first | (k_asm) | fail) (by first | (k_mem) | fail) (by first | (omega) | fail) ?_; k_whole))
  k_with "exec For" => (k_here; (rename Fr _ _ _ _ => lF'); (with_unfolding_all refine' For_invVF lF' (by first | (k_dflt (exact rfl)) | fail) (by first | (k_dflt (exact rfl)) | fail) ?_; k_whole))
  k_with "exec For Name Attribute cons nil" => (walk_at "exec For")
  k_with "exec For Name Name cons nil" => (walk_at "exec For")
  k_with "exec For Name Call cons nil" => (walk_at "exec For")
  k_with "room" => (first | omega | (dsimp only [ktrTop, Around.deeper, Around.in1] at *; omega))
  k_with "enter" => (refine wpAny_call ?_; k_dflt cell_enter; (try generalize List.length (List.filterMap _ _) = ln9); k_extra "gen")
  k_with "getAttr ref" => (k_here; k_dflt (refine' get_own (by first | (k_asm) | fail) (by first | (k_asm) | fail) (by first | (k_inst) | fail) (by first | (k_is) | fail) (by first | (k_is) | fail) (by first | (k_is) | fail) (by first | (k_is) | fail) (by first | (assumption) | fail) (by first | (rfl) | fail) ?_; k_whole))
  k_with "small" => (first | omega | (simp only [List.length_append, List.length_cons, List.length_nil]; omega))
  k_with "call builtin:list.append" => (k_here; (with_reducible show wpAny _ _ (call (Value.builtin _) [Value.ref _, _]) _ _ _); k_dflt (refine' append_led (by first | (k_asm) | fail) (by first | (k_asm) | fail) (by first | (k_upd) | fail) (by first | (k_extra "small") | fail) ?_; k_whole); intro h' F' N'; (try k_sweep))
  k_with "turn map" => (intro z hz hp9 hs; (try dsimp only [kstB]); first | (simp only [hz, hs, if_false, Bool.false_eq_true]; done) | (have hz2 := hp9 _ (.head _); dsimp only at hz2; simp only [hz, hz2, hs, if_false, Bool.false_eq_true]; done) | (have hz2 := hp9 _ (.head _); have hz3 := hp9 _ (.tail _ (.head _)); dsimp only at hz2 hz3; simp only [hz, hz2, hz3, hs, if_false, Bool.false_eq_true]; done) | (have hs2 := hs; simp only [List.contains_cons, List.contains_nil, Bool.or_false, Bool.or_eq_false_iff, beq_eq_false_iff_ne, ne_eq] at hs2; simp only [hz, hs, hs2, if_false, Bool.false_eq_true]; done) | (have hz2 := hp9 _ (.head _); dsimp only at hz2; have hs2 := hs; simp only [List.contains_cons, List.contains_nil, Bool.or_false, Bool.or_eq_false_iff, beq_eq_false_iff_ne, ne_eq] at hs2; simp only [hz, hz2, hs, hs2, if_false, Bool.false_eq_true]))
  k_with "turn end 1" => (first | refine TurnEnd.next _ (by assumption) (by assumption) ?_ ?_ (by exact fun _ hp => nomatch hp) (by k_extra "turn map") | refine TurnEnd.cont _ (by assumption) (by assumption) ?_ ?_ (by exact fun _ hp => nomatch hp) (by k_extra "turn map"))
  k_with "turn end 2" => (first | refine TurnEnd.next (_, _) (by assumption) (by assumption) ?_ ?_ (by exact fun _ hp => nomatch hp) (by k_extra "turn map") | refine TurnEnd.cont (_, _) (by assumption) (by assumption) ?_ ?_ (by exact fun _ hp => nomatch hp) (by k_extra "turn map"))
  k_with "turn end 3" => (first | refine TurnEnd.next (_, _, _) (by assumption) (by assumption) ?_ ?_ (by exact fun _ hp => nomatch hp) (by k_extra "turn map") | refine TurnEnd.cont (_, _, _) (by assumption) (by assumption) ?_ ?_ (by exact fun _ hp => nomatch hp) (by k_extra "turn map"))
  first | walk1 | exact True.intro
section
theorem words8 : True := by
  k_with "call ref" => (k_here; (with_reducible show wpAny _ _ (call (Value.ref _) _) _ _ _); k_dflt (refine' first_places_ok (by first | (k_asm) | fail) (by first | (k_asm) | fail) (by first | (k_asm) | fail) (by first | (k_asm) | fail) (by first | (k_asm) | fail) (by first | (rfl) | fail) (by first | (show _ + _ < _; k_extra "room") | fail) (by first | (show _ + _ < _; k_extra "room") | fail) (by first | (assumption) | fail) ?_; k_whole); intro d9 o9 kvs9 h9 tk9 F9 N9 hne9 hsm9 hdo9 htb9 hln9; (try dsimp only))
  k_with "is some" => (first | (refine Eq.trans (congrArg Option.isSome (by assumption : valueAt _ _ = some _)) ?_; exact (rfl : _ = true)) | (refine Eq.trans (congrArg Option.isSome (by assumption : valueAt _ _ = none)) ?_; exact (rfl : _ = false)))
  k_with "compareOp In str ref" => (k_here; k_dflt (first | (refine' kda_in (knd := PySem.strKind _ _) (by first | (k_asm) | fail) (by first | (k_mem) | fail) (by first | (assumption) | fail) (by first | (assumption) | fail) (strKind_is _ _ _ _) true (by first | (exact Eq.trans (congrArg Option.isSome (by assumption : valueAt _ _ = some _)) rfl) | fail) ?_; k_whole) | (refine' kda_in (knd := PySem.strKind _ _) (by first | (k_asm) | fail) (by first | (k_mem) | fail) (by first | (assumption) | fail) (by first | (assumption) | fail) (strKind_is _ _ _ _) false (by first | (exact Eq.trans (congrArg Option.isSome (by assumption : valueAt _ _ = none)) rfl) | fail) ?_; k_whole)))
  k_with "subscriptTail" => (k_here; (with_reducible show wpAny _ _ (subscriptTail _ _ (Value.ref _) (Value.str _ _)) _ _ _); k_dflt (refine' kda_item (knd := PySem.strKind _ _) (by first | (k_asm) | fail) (by first | (k_mem) | fail) (by first | (assumption) | fail) (strKind_is _ _ _ _) (by first | (assumption) | fail) ?_ (by first | (with_unfolding_all rfl) | fail) (by first | (intro _; with_unfolding_all rfl) | fail); k_whole))
  k_with "setItem ref str" => (k_here; k_dflt (refine' kda_set (knd := PySem.strKind _ _) (by first | (k_asm) | fail) (by first | (k_asm) | fail) (by first | (k_updF) | fail) (by first | (assumption) | fail) (strKind_is _ _ _ _) (by first | (rw [sizeLine_eq]; omega) | fail) ?_); intro h' o' F' N' hd'; (try dsimp only at N'))
  exact True.intro
section
variable {w : World} {mean : ExcName → Option Value} {mg mb : Str → Option Value} {dp un : Nat} {gd : Option (List Code)} {cn : Str} {cs : Scope} {a : Addr} {ccd : Value} {cl : List (Str × Addr)} {outer : List Env} {A₀ : Around} {base h₀ : Heap} {L : Addr} {m : Str → Option Value} {s : Shared} {Q E : Value → Shared → Prop} {news : List (Addr × Obj)}
theorem extending_places_ok {l : Addr} {vs : List Value} {nl nn : Nat} {tn : Tok} {ts : List (Option Str)} {nv : Value} {nm : Option (List (Option Str))} (B : Below A₀ base outer h₀) (F : Fr h₀ L s.heap m) (X : (hd.heap_39 w.params).In h₀) (N : News h₀ L s.heap news) (T : Top hd.view_39 (looseW hd.view_39 []) mean mg mb h₀) (hk : cs.kind = .function) (hd0 : dp + 4 < recursionLimit) (hu : un + 132 < cLine) (hl : (l, listOf vs.toArray nl) ∈ news) (hs : OSs vs ts) (hlen : ts.length < 1000) (hnm : NamesAre news nv nm) (hnn : nn < 1000)
    (hret : ∀ (r pa aa : Addr) (pv av : List Value) (np na nr : Nat) (h' : Heap) (tk' : Nat), Fr h₀ L h' m → News h₀ L h' ((r, tupO [.ref pa, .ref aa] nr) :: (aa, listOf av.toArray na) :: (pa, listOf pv.toArray np) :: news) → (∀ p ∈ news, p.1 ≠ r) → (∀ p ∈ news, p.1 ≠ aa) → (∀ p ∈ news, p.1 ≠ pa) → OIs pv (extAll nm nn ts).2.1 → OSs av (extAll nm nn ts).2.2 → Q (.ref r) { s with heap := h', toks := tk' }) : wpAny (model PySem.Challenge.rw_ov0054_01.row.prog w) (ktrTop dp un gd cn cs L a ccd cl outer) (call (.ref 107) [.ref l, .int (nn : Int) tn, nv]) Q E s := by
  revert X; k_fill; intro X
  have hvl := hs.length
  k_extra "enter"
  rename Fr _ _ _ _ => F1
  replace F1 : Fr _ _ _ (fun y => List.lookup y [(Str.ofString "names", nv), (Str.ofString "n", .int (nn : Int) tn), (Str.ofString "texts", .ref l)]) := F1
  k_steps
  refine Stop.of ?_
  rename Fr _ _ _ _ => F1
  rename News _ _ _ _ => N1
  rename (TabIs _ _) => htb
  rename List (Str × Value) => kvs0
  rename ((_ == sysModules) = false) => hsm
  refine for_list (σ := ExtSt) (news := news) (fun c => [(_, listOf c.av.toArray c.na), (_, listOf c.pv.toArray c.np), (_, c.o)]) (fun _ => []) [Str.ofString "place"]
    (fun i c => c.o.IsDictOf (PySem.strKind PySem.Challenge.rw_ov0054_01.row.prog w) c.kvs ∧ TabIs c.kvs ((ts.take i).foldl (extStep nn) (firstOf nm, [], [])).1 ∧ OIs c.pv ((ts.take i).foldl (extStep nn) (firstOf nm, [], [])).2.1 ∧ OSs c.av ((ts.take i).foldl (extStep nn) (firstOf nm, [], [])).2.2 ∧ c.kvs.length ≤ 1000 + i ∧ c.pv.length ≤ i ∧ c.av.length ≤ i) ⟨_, kvs0, [], 0, [], 0⟩ rfl hl F1 N1 ?_ ?_ ?_ ?_ ?_
  · exact ledOff3 (by k_all) (by k_all) (by k_all)
  · exact fun _ hp => nomatch hp
  · exact ⟨by assumption, htb, OIs.nil, OSs.nil, by assumption, by simp, by simp⟩
  · clear F1 N1
    intro i v c u rest h tk hv hP hsub hoff F N
    dsimp only [kstB, List.cons_append, List.nil_append] at F N
    have ho1 := hoff _ (.head _)
    have ho2 := hoff _ (.tail _ (.head _))
    have ho3 := hoff _ (.tail _ (.tail _ (.head _)))
    dsimp only at ho1 ho2 ho3
    obtain ⟨d, hd, hvd⟩ := hs.get hv
    obtain ⟨hP1, hP2, hP3, hP4, hP5, hP6, hP7⟩ := hP
    have hil : i < 1000 := by have h2 := (List.getElem?_eq_some_iff.mp hv).1; omega
    rw [take_snoc hd, List.foldl_append]
    generalize (ts.take i).foldl (extStep nn) (firstOf nm, [], []) = st at hP2 hP3 hP4
    have hal : c.av.length = st.2.2.length := hP4.length
    cases hvd with
    | none =>
      k_steps
      refine TurnEnd.next (c' := ⟨c.o, c.kvs, c.pv ++ [.int ((nn : Int) + (c.av.length : Int)) _], c.np + 1, c.av ++ [.none], c.na + 1⟩) (F := by assumption) (N := by assumption) ?_ ?_ ?_ ?_
      · refine ⟨hP1, hP2, OIs.snocZ hP3 (by omega), hP4.snoc .none, ?_, ?_, ?_⟩
        · show c.kvs.length ≤ 1000 + (i + 1); omega
        · show (c.pv ++ [_]).length ≤ i + 1; simp; omega
        · show (c.av ++ [_]).length ≤ i + 1; simp; omega
      · exact ledOff3 ho1 ho2 ho3
      · exact fun _ hp => nomatch hp
      · k_extra "turn map"
    | some x t =>
      have hk := hP2 x
      cases hf : st.1 x with
      | none =>
        rw [hf] at hk
        have hk' : valueAt _ x = none := hk
        k_steps
        · rename ((_ != _) = true) => hx
          have hx' := bne_iff_ne.mp hx
          rename (Obj.IsDictOf _ _ _) => hd7
          have e : [some x].foldl (extStep nn) st = (fun k => if k = x then some (nn + st.2.2.length) else st.1 k, st.2.1 ++ [some ((nn + st.2.2.length : Nat) : Int)], st.2.2 ++ [some x]) := by
            simp only [List.foldl_cons, List.foldl_nil, extStep, hf, if_neg hx']
          rw [e]
          refine TurnEnd.next (c' := ⟨_, _, c.pv ++ [.int ((nn : Int) + (c.av.length : Int)) _], c.np + 1, c.av ++ [.str x t], c.na + 1⟩) (F := by assumption) (N := by assumption) ⟨hd7, hP2.putZ (j := nn + st.2.2.length) (by omega) (if_pos rfl) (fun k hk => if_neg hk), OIs.snocZ hP3 (by omega), hP4.snoc (.some _ _), ?_, ?_, ?_⟩ ?_ ?_ ?_
          · exact Nat.le_trans (stored_length_le _ _ _) (by omega)
          · show (c.pv ++ [_]).length ≤ i + 1; simp; omega
          · show (c.av ++ [_]).length ≤ i + 1; simp; omega
          · exact ledOff3 ho1 ho2 ho3
          · exact fun _ hp => nomatch hp
          · k_extra "turn map"
        · rename ((_ != _) = false) => hx
          have hx' : x = Str.ofString "" := by simpa using hx
          refine TurnEnd.next (c' := ⟨c.o, c.kvs, c.pv ++ [.int ((nn : Int) + (c.av.length : Int)) _], c.np + 1, c.av ++ [.str x t], c.na + 1⟩) (F := by assumption) (N := by assumption) ?_ ?_ ?_ ?_
          · have e : [some x].foldl (extStep nn) st = (st.1, st.2.1 ++ [some ((nn + st.2.2.length : Nat) : Int)], st.2.2 ++ [some x]) := by
              simp only [List.foldl_cons, List.foldl_nil, extStep, hf, if_pos hx']
            rw [e]
            refine ⟨hP1, hP2, OIs.snocZ hP3 (by omega), hP4.snoc (.some _ _), ?_, ?_, ?_⟩
            · show c.kvs.length ≤ 1000 + (i + 1); omega
            · show (c.pv ++ [_]).length ≤ i + 1; simp; omega
            · show (c.av ++ [_]).length ≤ i + 1; simp; omega
          · exact ledOff3 ho1 ho2 ho3
          · exact fun _ hp => nomatch hp
          · k_extra "turn map"
      | some j =>
        rw [hf] at hk
        obtain ⟨tj, hk'⟩ := hk
        k_steps
        refine TurnEnd.cont (c' := ⟨c.o, c.kvs, c.pv ++ [.int (j : Int) tj], c.np + 1, c.av, c.na⟩) (F := by assumption) (N := by assumption) ?_ ?_ ?_ ?_
        · have e : [some x].foldl (extStep nn) st = (st.1, st.2.1 ++ [some (j : Int)], st.2.2) := by
            simp only [List.foldl_cons, List.foldl_nil, extStep, hf]
          rw [e]
          refine ⟨hP1, hP2, hP3.snoc (.some _ _), hP4, ?_, ?_, ?_⟩
          · show c.kvs.length ≤ 1000 + (i + 1); omega
          · show (c.pv ++ [_]).length ≤ i + 1; simp; omega
          · show c.av.length ≤ i + 1; omega
        · exact ledOff3 ho1 ho2 ho3
        · exact fun _ hp => nomatch hp
        · k_extra "turn map"
  · clear F1 N1
    intro c u h tk hP hoff F N
    dsimp only [kstB, List.cons_append, List.nil_append] at F N
    rw [take_all hvl] at hP
    obtain ⟨hP1, hP2, hP3, hP4, hP5, hP6, hP7⟩ := hP
    k_steps
    exact hret _ _ _ _ _ _ _ _ _ _ (by assumption) (news_sub (by assumption) (fun p hp => by rcases List.mem_cons.mp hp with rfl | hp; exact .head _; rcases List.mem_cons.mp hp with rfl | hp; exact .tail _ (.head _); rcases List.mem_cons.mp hp with rfl | hp; exact .tail _ (.tail _ (.head _)); exact .tail _ (.tail _ (.tail _ (.tail _ hp))))) (by k_all) (by k_all) (by k_all) hP3 hP4
end

end
theorem anew23 : True := by
  w_top off
  k_with_none
  k_with "gen" => (refine cut_genF ?_; intro q9 hq9)
  k_with "CutEnd" => (refine cut_in (by assumption) ?_)
  k_with "allLt" => (first | assumption | (rename _ ∧ _ => h9; obtain ⟨h91, h92⟩ := h9; k_extra "allLt"))
  k_with "call builtin:len" => (k_here; (with_reducible show wpAny _ _ (call (Value.builtin "len") [Value.ref _]) _ _ _); k_dflt (refine' len_led (by first | (k_asm) | fail) (by first | (k_mem) | fail) (by first | (omega) | fail) ?_; k_whole))
  k_with "exec For" => (k_here; (rename Fr _ _ _ _ => lF'); (with_unfolding_all refine' For_invVF lF' (by first | (k_dflt (exact rfl)) | fail) (by first | (k_dflt (exact rfl)) | fail) ?_; k_whole))
  k_with "exec For Name Attribute cons nil" => (walk_at "exec For")
  k_with "exec For Name Name cons nil" => (walk_at "exec For")
  k_with "exec For Name Call cons nil" => (walk_at "exec For")
  k_with "room" => (first | omega | (dsimp only [ktrTop, Around.deeper, Around.in1] at *; omega))
  k_with "enter" => (refine wpAny_call ?_; k_dflt cell_enter; (try generalize List.length (List.filterMap _ _) = ln9); k_extra "gen")
  k_with "getAttr ref" => (k_here; k_dflt (refine' get_own (by first | (k_asm) | fail) (by first | (k_asm) | fail) (by first | (k_inst) | fail) (by first | (k_is) | fail) (by first | (k_is) | fail) (by first | (k_is) | fail) (by first | (k_is) | fail) (by first | (assumption) | fail) (by first | (rfl) | fail) ?_; k_whole))
  k_with "small" => (first | omega | (simp only [List.length_append, List.length_cons, List.length_nil]; omega))
  k_with "call builtin:list.append" => (k_here; (with_reducible show wpAny _ _ (call (Value.builtin _) [Value.ref _, _]) _ _ _); k_dflt (refine' append_led (by first | (k_asm) | fail) (by first | (k_asm) | fail) (by first | (k_upd) | fail) (by first | (k_extra "small") | fail) ?_; k_whole); intro h' F' N'; (try k_sweep))
  k_with "turn map" => (intro z hz hp9 hs; (try dsimp only [kstB]); first | (simp only [hz, hs, if_false, Bool.false_eq_true]; done) | (have hz2 := hp9 _ (.head _); dsimp only at hz2; simp only [hz, hz2, hs, if_false, Bool.false_eq_true]; done) | (have hz2 := hp9 _ (.head _); have hz3 := hp9 _ (.tail _ (.head _)); dsimp only at hz2 hz3; simp only [hz, hz2, hz3, hs, if_false, Bool.false_eq_true]; done) | (have hs2 := hs; simp only [List.contains_cons, List.contains_nil, Bool.or_false, Bool.or_eq_false_iff, beq_eq_false_iff_ne, ne_eq] at hs2; simp only [hz, hs, hs2, if_false, Bool.false_eq_true]; done) | (have hz2 := hp9 _ (.head _); dsimp only at hz2; have hs2 := hs; simp only [List.contains_cons, List.contains_nil, Bool.or_false, Bool.or_eq_false_iff, beq_eq_false_iff_ne, ne_eq] at hs2; simp only [hz, hz2, hs, hs2, if_false, Bool.false_eq_true]))
  k_with "turn end 1" => (first | refine TurnEnd.next _ (by assumption) (by assumption) ?_ ?_ (by exact fun _ hp => nomatch hp) (by k_extra "turn map") | refine TurnEnd.cont _ (by assumption) (by assumption) ?_ ?_ (by exact fun _ hp => nomatch hp) (by k_extra "turn map"))
  k_with "turn end 2" => (first | refine TurnEnd.next (_, _) (by assumption) (by assumption) ?_ ?_ (by exact fun _ hp => nomatch hp) (by k_extra "turn map") | refine TurnEnd.cont (_, _) (by assumption) (by assumption) ?_ ?_ (by exact fun _ hp => nomatch hp) (by k_extra "turn map"))
  k_with "turn end 3" => (first | refine TurnEnd.next (_, _, _) (by assumption) (by assumption) ?_ ?_ (by exact fun _ hp => nomatch hp) (by k_extra "turn map") | refine TurnEnd.cont (_, _, _) (by assumption) (by assumption) ?_ ?_ (by exact fun _ hp => nomatch hp) (by k_extra "turn map"))
  first | walk1 | exact True.intro
section
local macro_rules | `(tactic| walk_at "call ref") => `(tactic| (k_here; k_dflt (refine' call_cls ?k1 ?k2 ?k3 ?k4 ?k5 ?k6 ?_; (case k1 => k_asm); (case k2 => k_asm); (case k3 => k_asm); (case k4 => k_is); (case k5 => k_is); (case k6 => k_is); k_whole; intro x' d' h' F' N' l1 l2; (k_lt2 l2); (refine' code_def ?k1 ?k2 ?k3 ?k4 ?k5 ?kA ?kF ?kK ?k6 ?k7 ?k8 ?k9 ?kB ?_ ?c2 ?c3 ?c4 ?c5; (case kA => exact rfl); (case kF => exact rfl); (case kK => exact rfl); (case k1 => k_asm); (case k2 => k_asm); (case k3 => k_asm); (case k4 => k_asm); (case k5 => k_asm); (case k6 => k_is); (case k7 => k_is); (case k8 => (simp only [depth_mark, depth_under_make, depth_under_kw, depth_in1, depth_deeper, depth_caller]; (show _ + _ < _); k_extra "room")); (case k9 => first | exact BindsTo.of_eq rfl | exact binds_K (by k_in) rfl (by k_is) rfl rfl rfl | fail "k_enter: no rule for these arguments"); (case c5 => decide); (case kB => exact locs rfl); (case c2 => exact rfl); (case c3 => exact rfl); (case c4 => exact rfl); k_whole; intro g' L' h' FG' F' N' B' X' T'; (first | (replace F' : Fr _ _ _ (fun y => List.lookup y [(Str.ofString "attrs", _), (Str.ofString "items", _), (Str.ofString "kind", _), (Str.ofString "self", _)]) := F') | (replace F' : Fr _ _ _ (fun y => List.lookup y [(Str.ofString "self", _)]) := F')); (try dsimp only); (try k_fold); (try generalize List.length (List.filterMap _ _) = ln9)))))
theorem words9 : True := by
  k_with "call type:list" => (k_here; (with_reducible show wpAny _ _ (call (Value.type _) [Value.ref _]) _ _ _); (with_unfolding_all (refine' list_copyK (by first | (k_dflt (k_asm)) | fail) (by first | (k_dflt (k_asm)) | fail) (by first | (k_dflt (exact News.isList (by assumption) (by assumption))) | fail) ?_ (by first | (k_dflt ((rw [List.size_toArray, sizeLine_eq]; omega))) | fail); k_whole)); intro D' c' h' F' N' l1; (try k_sweep))
  exact True.intro
section
variable {w : World} {mean : ExcName → Option Value} {mg mb : Str → Option Value} {dp un : Nat} {gd : Option (List Code)} {cn : Str} {cs : Scope} {a : Addr} {ccd : Value} {cl : List (Str × Addr)} {outer : List Env} {A₀ : Around} {base h₀ : Heap} {L : Addr} {m : Str → Option Value} {s : Shared} {Q E : Value → Shared → Prop} {news : List (Addr × Obj)}
theorem logical_ok {l : Addr} {vs : List Value} {nl : Nat} (B : Below A₀ base outer h₀) (F : Fr h₀ L s.heap m) (X : (hd.heap_39 w.params).In h₀) (N : News h₀ L s.heap news) (T : Top hd.view_39 (looseW hd.view_39 []) mean mg mb h₀) (hk : cs.kind = .function) (hd0 : dp + 3 < recursionLimit) (hu : un + 124 < cLine) (hl : (l, listOf vs.toArray nl) ∈ news) (hlen : vs.length < 1000)
    (hret : ∀ (x dx l' : Addr) (es : List DictEntry) (ne nl' : Nat) (tk9 : Tok) (h' : Heap) (tk' : Nat), Fr h₀ L h' m → News h₀ L h' ((x, instObj 181 dx) :: (dx, dictOf es ne) :: (l', listOf vs.toArray nl') :: news) → getL (Str.ofString "kind") es = some (some (.str (Str.ofString "logical") tk9)) → getL (Str.ofString "items") es = some (some (.ref l')) → (∀ p ∈ news, p.1 ≠ x) → (∀ p ∈ news, p.1 ≠ dx) → (∀ p ∈ news, p.1 ≠ l') → Q (.ref x) { s with heap := h', toks := tk' }) : wpAny (model PySem.Challenge.rw_ov0054_01.row.prog w) (ktrTop dp un gd cn cs L a ccd cl outer) (call (.ref 206) [.ref l]) Q E s := by
  revert X; k_fill; intro X
  k_extra "enter"
  rename Fr _ _ _ _ => F1
  replace F1 : Fr _ _ _ (fun y => List.lookup y [(Str.ofString "items", .ref l)]) := F1
  have mark : True := trivial
  k_steps
  refine hret _ _ _ _ _ _ _ _ _ (by assumption) (by assumption) (by k_get) (by k_get) ?_ ?_ ?_
  · intro p hp
    have h2 := ‹@LT.lt Nat _ _ _›
    have h1 := ‹∀ p ∈ ((_ : Addr), listOf vs.toArray _) :: news, p.1 < _› p (.tail _ hp)
    exact Nat.ne_of_lt (Nat.lt_trans h1 h2)
  · intro p hp
    exact Nat.ne_of_lt (‹∀ p ∈ ((_ : Addr), listOf vs.toArray _) :: news, p.1 < _› p (.tail _ hp))
  · intro p hp
    exact Nat.ne_of_lt (‹∀ p ∈ news, p.1 < _› p hp)
theorem integer_ok {l : Addr} {vs : List Value} {nl : Nat} (B : Below A₀ base outer h₀) (F : Fr h₀ L s.heap m) (X : (hd.heap_39 w.params).In h₀) (N : News h₀ L s.heap news) (T : Top hd.view_39 (looseW hd.view_39 []) mean mg mb h₀) (hk : cs.kind = .function) (hd0 : dp + 3 < recursionLimit) (hu : un + 124 < cLine) (hl : (l, listOf vs.toArray nl) ∈ news) (hlen : vs.length < 1000)
    (hret : ∀ (x dx l' : Addr) (es : List DictEntry) (ne nl' : Nat) (tk9 : Tok) (h' : Heap) (tk' : Nat), Fr h₀ L h' m → News h₀ L h' ((x, instObj 181 dx) :: (dx, dictOf es ne) :: (l', listOf vs.toArray nl') :: news) → getL (Str.ofString "kind") es = some (some (.str (Str.ofString "integer") tk9)) → getL (Str.ofString "items") es = some (some (.ref l')) → (∀ p ∈ news, p.1 ≠ x) → (∀ p ∈ news, p.1 ≠ dx) → (∀ p ∈ news, p.1 ≠ l') → Q (.ref x) { s with heap := h', toks := tk' }) : wpAny (model PySem.Challenge.rw_ov0054_01.row.prog w) (ktrTop dp un gd cn cs L a ccd cl outer) (call (.ref 213) [.ref l]) Q E s := by
  revert X; k_fill; intro X
  k_extra "enter"
  rename Fr _ _ _ _ => F1
  replace F1 : Fr _ _ _ (fun y => List.lookup y [(Str.ofString "items", .ref l)]) := F1
  have mark : True := trivial
  k_steps
  refine hret _ _ _ _ _ _ _ _ _ (by assumption) (by assumption) (by k_get) (by k_get) ?_ ?_ ?_
  · intro p hp
    have h2 := ‹@LT.lt Nat _ _ _›
    have h1 := ‹∀ p ∈ ((_ : Addr), listOf vs.toArray _) :: news, p.1 < _› p (.tail _ hp)
    exact Nat.ne_of_lt (Nat.lt_trans h1 h2)
  · intro p hp
    exact Nat.ne_of_lt (‹∀ p ∈ ((_ : Addr), listOf vs.toArray _) :: news, p.1 < _› p (.tail _ hp))
  · intro p hp
    exact Nat.ne_of_lt (‹∀ p ∈ news, p.1 < _› p hp)
theorem double_ok {l : Addr} {vs : List Value} {nl : Nat} (B : Below A₀ base outer h₀) (F : Fr h₀ L s.heap m) (X : (hd.heap_39 w.params).In h₀) (N : News h₀ L s.heap news) (T : Top hd.view_39 (looseW hd.view_39 []) mean mg mb h₀) (hk : cs.kind = .function) (hd0 : dp + 3 < recursionLimit) (hu : un + 124 < cLine) (hl : (l, listOf vs.toArray nl) ∈ news) (hlen : vs.length < 1000)
    (hret : ∀ (x dx l' : Addr) (es : List DictEntry) (ne nl' : Nat) (tk9 : Tok) (h' : Heap) (tk' : Nat), Fr h₀ L h' m → News h₀ L h' ((x, instObj 181 dx) :: (dx, dictOf es ne) :: (l', listOf vs.toArray nl') :: news) → getL (Str.ofString "kind") es = some (some (.str (Str.ofString "double") tk9)) → getL (Str.ofString "items") es = some (some (.ref l')) → (∀ p ∈ news, p.1 ≠ x) → (∀ p ∈ news, p.1 ≠ dx) → (∀ p ∈ news, p.1 ≠ l') → Q (.ref x) { s with heap := h', toks := tk' }) : wpAny (model PySem.Challenge.rw_ov0054_01.row.prog w) (ktrTop dp un gd cn cs L a ccd cl outer) (call (.ref 220) [.ref l]) Q E s := by
  revert X; k_fill; intro X
  k_extra "enter"
  rename Fr _ _ _ _ => F1
  replace F1 : Fr _ _ _ (fun y => List.lookup y [(Str.ofString "items", .ref l)]) := F1
  have mark : True := trivial
  k_steps
  refine hret _ _ _ _ _ _ _ _ _ (by assumption) (by assumption) (by k_get) (by k_get) ?_ ?_ ?_
  · intro p hp
    have h2 := ‹@LT.lt Nat _ _ _›
    have h1 := ‹∀ p ∈ ((_ : Addr), listOf vs.toArray _) :: news, p.1 < _› p (.tail _ hp)
    exact Nat.ne_of_lt (Nat.lt_trans h1 h2)
  · intro p hp
    exact Nat.ne_of_lt (‹∀ p ∈ ((_ : Addr), listOf vs.toArray _) :: news, p.1 < _› p (.tail _ hp))
  · intro p hp
    exact Nat.ne_of_lt (‹∀ p ∈ news, p.1 < _› p hp)
theorem character_ok {l : Addr} {vs : List Value} {nl : Nat} (B : Below A₀ base outer h₀) (F : Fr h₀ L s.heap m) (X : (hd.heap_39 w.params).In h₀) (N : News h₀ L s.heap news) (T : Top hd.view_39 (looseW hd.view_39 []) mean mg mb h₀) (hk : cs.kind = .function) (hd0 : dp + 3 < recursionLimit) (hu : un + 124 < cLine) (hl : (l, listOf vs.toArray nl) ∈ news) (hlen : vs.length < 1000)
    (hret : ∀ (x dx l' : Addr) (es : List DictEntry) (ne nl' : Nat) (tk9 : Tok) (h' : Heap) (tk' : Nat), Fr h₀ L h' m → News h₀ L h' ((x, instObj 181 dx) :: (dx, dictOf es ne) :: (l', listOf vs.toArray nl') :: news) → getL (Str.ofString "kind") es = some (some (.str (Str.ofString "character") tk9)) → getL (Str.ofString "items") es = some (some (.ref l')) → (∀ p ∈ news, p.1 ≠ x) → (∀ p ∈ news, p.1 ≠ dx) → (∀ p ∈ news, p.1 ≠ l') → Q (.ref x) { s with heap := h', toks := tk' }) : wpAny (model PySem.Challenge.rw_ov0054_01.row.prog w) (ktrTop dp un gd cn cs L a ccd cl outer) (call (.ref 227) [.ref l]) Q E s := by
  revert X; k_fill; intro X
  k_extra "enter"
  rename Fr _ _ _ _ => F1
  replace F1 : Fr _ _ _ (fun y => List.lookup y [(Str.ofString "items", .ref l)]) := F1
  have mark : True := trivial
  k_steps
  refine hret _ _ _ _ _ _ _ _ _ (by assumption) (by assumption) (by k_get) (by k_get) ?_ ?_ ?_
  · intro p hp
    have h2 := ‹@LT.lt Nat _ _ _›
    have h1 := ‹∀ p ∈ ((_ : Addr), listOf vs.toArray _) :: news, p.1 < _› p (.tail _ hp)
    exact Nat.ne_of_lt (Nat.lt_trans h1 h2)
  · intro p hp
    exact Nat.ne_of_lt (‹∀ p ∈ ((_ : Addr), listOf vs.toArray _) :: news, p.1 < _› p (.tail _ hp))
  · intro p hp
    exact Nat.ne_of_lt (‹∀ p ∈ news, p.1 < _› p hp)
theorem null_ok (B : Below A₀ base outer h₀) (F : Fr h₀ L s.heap m) (X : (hd.heap_39 w.params).In h₀) (N : News h₀ L s.heap news) (T : Top hd.view_39 (looseW hd.view_39 []) mean mg mb h₀) (hk : cs.kind = .function) (hd0 : dp + 3 < recursionLimit) (hu : un + 124 < cLine)
    (hret : ∀ (x dx : Addr) (es : List DictEntry) (ne : Nat) (tk9 : Tok) (h' : Heap) (tk' : Nat), Fr h₀ L h' m → News h₀ L h' ((x, instObj 131 dx) :: (dx, dictOf es ne) :: news) → getL (Str.ofString "kind") es = some (some (.str (Str.ofString "NULL") tk9)) → (∀ p ∈ news, p.1 ≠ x) → (∀ p ∈ news, p.1 ≠ dx) → Q (.ref x) { s with heap := h', toks := tk' }) : wpAny (model PySem.Challenge.rw_ov0054_01.row.prog w) (ktrTop dp un gd cn cs L a ccd cl outer) (call (.ref 192) []) Q E s := by
  revert X; k_fill; intro X
  k_extra "enter"
  rename Fr _ _ _ _ => F1
  replace F1 : Fr _ _ _ (fun y => List.lookup y []) := F1
  have mark : True := trivial
  k_steps
  refine hret _ _ _ _ _ _ _ (by assumption) (by assumption) (by k_get) ?_ ?_
  · intro p hp
    have h2 := ‹@LT.lt Nat _ _ _›
    have h1 := ‹∀ p ∈ news, p.1 < _› p hp
    exact Nat.ne_of_lt (Nat.lt_trans h1 h2)
  · intro p hp
    exact Nat.ne_of_lt (‹∀ p ∈ news, p.1 < _› p hp)
theorem missing_ok (B : Below A₀ base outer h₀) (F : Fr h₀ L s.heap m) (X : (hd.heap_39 w.params).In h₀) (N : News h₀ L s.heap news) (T : Top hd.view_39 (looseW hd.view_39 []) mean mg mb h₀) (hk : cs.kind = .function) (hd0 : dp + 3 < recursionLimit) (hu : un + 124 < cLine)
    (hret : ∀ (x dx : Addr) (es : List DictEntry) (ne : Nat) (tk9 : Tok) (h' : Heap) (tk' : Nat), Fr h₀ L h' m → News h₀ L h' ((x, instObj 152 dx) :: (dx, dictOf es ne) :: news) → getL (Str.ofString "kind") es = some (some (.str (Str.ofString "missing") tk9)) → (∀ p ∈ news, p.1 ≠ x) → (∀ p ∈ news, p.1 ≠ dx) → Q (.ref x) { s with heap := h', toks := tk' }) : wpAny (model PySem.Challenge.rw_ov0054_01.row.prog w) (ktrTop dp un gd cn cs L a ccd cl outer) (call (.ref 199) []) Q E s := by
  revert X; k_fill; intro X
  k_extra "enter"
  rename Fr _ _ _ _ => F1
  replace F1 : Fr _ _ _ (fun y => List.lookup y []) := F1
  have mark : True := trivial
  k_steps
  refine hret _ _ _ _ _ _ _ (by assumption) (by assumption) (by k_get) ?_ ?_
  · intro p hp
    have h2 := ‹@LT.lt Nat _ _ _›
    have h1 := ‹∀ p ∈ news, p.1 < _› p hp
    exact Nat.ne_of_lt (Nat.lt_trans h1 h2)
  · intro p hp
    exact Nat.ne_of_lt (‹∀ p ∈ news, p.1 < _› p hp)
end

end
theorem anew24 : True := by
  w_top off
  k_with_none
  k_with "gen" => (refine cut_genF ?_; intro q9 hq9)
  k_with "CutEnd" => (refine cut_in (by assumption) ?_)
  k_with "allLt" => (first | assumption | (rename _ ∧ _ => h9; obtain ⟨h91, h92⟩ := h9; k_extra "allLt"))
  k_with "call builtin:len" => (k_here; (with_reducible show wpAny _ _ (call (Value.builtin "len") [Value.ref _]) _ _ _); k_dflt (refine' len_led (by first | (k_asm) | fail) (by first | (k_mem) | fail) (by first | (omega) | fail) ?_; k_whole))
  k_with "exec For" => (k_here; (rename Fr _ _ _ _ => lF'); (with_unfolding_all refine' For_invVF lF' (by first | (k_dflt (exact rfl)) | fail) (by first | (k_dflt (exact rfl)) | fail) ?_; k_whole))
  k_with "exec For Name Attribute cons nil" => (walk_at "exec For")
  k_with "exec For Name Name cons nil" => (walk_at "exec For")
  k_with "exec For Name Call cons nil" => (walk_at "exec For")
  k_with "room" => (first | omega | (dsimp only [ktrTop, Around.deeper, Around.in1] at *; omega))
  k_with "enter" => (refine wpAny_call ?_; k_dflt cell_enter; (try generalize List.length (List.filterMap _ _) = ln9); k_extra "gen")
  k_with "getAttr ref" => (k_here; k_dflt (refine' get_own (by first | (k_asm) | fail) (by first | (k_asm) | fail) (by first | (k_inst) | fail) (by first | (k_is) | fail) (by first | (k_is) | fail) (by first | (k_is) | fail) (by first | (k_is) | fail) (by first | (assumption) | fail) (by first | (rfl) | fail) ?_; k_whole))
  k_with "small" => (first | omega | (simp only [List.length_append, List.length_cons, List.length_nil]; omega))
  k_with "call builtin:list.append" => (k_here; (with_reducible show wpAny _ _ (call (Value.builtin _) [Value.ref _, _]) _ _ _); k_dflt (refine' append_led (by first | (k_asm) | fail) (by first | (k_asm) | fail) (by first | (k_upd) | fail) (by first | (k_extra "small") | fail) ?_; k_whole); intro h' F' N'; (try k_sweep))
  k_with "turn map" => (intro z hz hp9 hs; (try dsimp only [kstB]); first | (simp only [hz, hs, if_false, Bool.false_eq_true]; done) | (have hz2 := hp9 _ (.head _); dsimp only at hz2; simp only [hz, hz2, hs, if_false, Bool.false_eq_true]; done) | (have hz2 := hp9 _ (.head _); have hz3 := hp9 _ (.tail _ (.head _)); dsimp only at hz2 hz3; simp only [hz, hz2, hz3, hs, if_false, Bool.false_eq_true]; done) | (have hs2 := hs; simp only [List.contains_cons, List.contains_nil, Bool.or_false, Bool.or_eq_false_iff, beq_eq_false_iff_ne, ne_eq] at hs2; simp only [hz, hs, hs2, if_false, Bool.false_eq_true]; done) | (have hz2 := hp9 _ (.head _); dsimp only at hz2; have hs2 := hs; simp only [List.contains_cons, List.contains_nil, Bool.or_false, Bool.or_eq_false_iff, beq_eq_false_iff_ne, ne_eq] at hs2; simp only [hz, hz2, hs, hs2, if_false, Bool.false_eq_true]))
  k_with "turn end 1" => (first | refine TurnEnd.next _ (by assumption) (by assumption) ?_ ?_ (by exact fun _ hp => nomatch hp) (by k_extra "turn map") | refine TurnEnd.cont _ (by assumption) (by assumption) ?_ ?_ (by exact fun _ hp => nomatch hp) (by k_extra "turn map"))
  k_with "turn end 2" => (first | refine TurnEnd.next (_, _) (by assumption) (by assumption) ?_ ?_ (by exact fun _ hp => nomatch hp) (by k_extra "turn map") | refine TurnEnd.cont (_, _) (by assumption) (by assumption) ?_ ?_ (by exact fun _ hp => nomatch hp) (by k_extra "turn map"))
  k_with "turn end 3" => (first | refine TurnEnd.next (_, _, _) (by assumption) (by assumption) ?_ ?_ (by exact fun _ hp => nomatch hp) (by k_extra "turn map") | refine TurnEnd.cont (_, _, _) (by assumption) (by assumption) ?_ ?_ (by exact fun _ hp => nomatch hp) (by k_extra "turn map"))
  first | walk1 | exact True.intro
section

theorem OIs.ofInts {vs : List Value} {ns : List Int} (h : IntsAre vs ns) : OIs vs (ns.map some) := by
  induction h with
  | nil => exact OIs.nil
  | cons k t h ih => exact OIs.cons (.some _ _) ih
theorem OIs.ofRange {vs : List Value} {n : Nat} (h : IntsAre vs (rangeKs 0 ((n : Int) - 0).toNat)) : OIs vs ((List.range n).map fun (i : Nat) => some (i : Int)) := by
  have e : (rangeKs 0 ((n : Int) - 0).toNat).map some = (List.range n).map fun (i : Nat) => some (i : Int) := by
    rw [show ((n : Int) - 0).toNat = n by omega]; simp [rangeKs]
  rw [← e]; exact OIs.ofInts h
inductive Ix (news : List (Addr × Obj)) (nm : Option (List (Option Str))) (n : Nat) : Value → List (Option Int) → Prop
  | missing {x dx : Addr} {es : List DictEntry} {ne : Nat} {tk : Tok} : (x, instObj 152 dx) ∈ news → (dx, dictOf es ne) ∈ news → getL (Str.ofString "kind") es = some (some (.str (Str.ofString "missing") tk)) → Ix news nm n (.ref x) ((List.range n).map fun (i : Nat) => some (i : Int))
  | null {x dx : Addr} {es : List DictEntry} {ne : Nat} {tk : Tok} : (x, instObj 131 dx) ∈ news → (dx, dictOf es ne) ∈ news → getL (Str.ofString "kind") es = some (some (.str (Str.ofString "NULL") tk)) → Ix news nm n (.ref x) []
  | logical {x dx l : Addr} {es : List DictEntry} {ne nl : Nat} {tk : Tok} {vs : List Value} {ds : List (Option Int)} : (x, instObj 181 dx) ∈ news → (dx, dictOf es ne) ∈ news → getL (Str.ofString "kind") es = some (some (.str (Str.ofString "logical") tk)) → getL (Str.ofString "items") es = some (some (.ref l)) → (l, listOf vs.toArray nl) ∈ news → OIs vs ds → ds.length < 1000 → Ix news nm n (.ref x) (logicalPlaces ds n)
  | integer {x dx l : Addr} {es : List DictEntry} {ne nl : Nat} {tk : Tok} {vs : List Value} {ds : List (Option Int)} : (x, instObj 181 dx) ∈ news → (dx, dictOf es ne) ∈ news → getL (Str.ofString "kind") es = some (some (.str (Str.ofString "integer") tk)) → getL (Str.ofString "items") es = some (some (.ref l)) → (l, listOf vs.toArray nl) ∈ news → OIs vs ds → ds.length < 1000 → (outsOf ds = [] ∨ placesOf ds = []) → Ix news nm n (.ref x) (wholePlaces ds n)
  | double {x dx l : Addr} {es : List DictEntry} {ne nl : Nat} {tk : Tok} {vs : List Value} {ds : List (Option (Int × Int))} : (x, instObj 181 dx) ∈ news → (dx, dictOf es ne) ∈ news → getL (Str.ofString "kind") es = some (some (.str (Str.ofString "double") tk)) → getL (Str.ofString "items") es = some (some (.ref l)) → (l, listOf vs.toArray nl) ∈ news → Fracs news vs ds → ds.length < 1000 → (outsOf (ds.map wholeOf) = [] ∨ placesOf (ds.map wholeOf) = []) → Ix news nm n (.ref x) (wholePlaces (ds.map wholeOf) n)
  | character {x dx l : Addr} {es : List DictEntry} {ne nl : Nat} {tk : Tok} {vs : List Value} {ts : List (Option Str)} : (x, instObj 181 dx) ∈ news → (dx, dictOf es ne) ∈ news → getL (Str.ofString "kind") es = some (some (.str (Str.ofString "character") tk)) → getL (Str.ofString "items") es = some (some (.ref l)) → (l, listOf vs.toArray nl) ∈ news → OSs vs ts → ts.length < 1000 → Ix news nm n (.ref x) (ts.map (nameOf nm))
theorem words10 : True := by
  k_with "call ref" => (k_here; (with_reducible show wpAny _ _ (call (Value.ref _) _) _ _ _); k_dflt (first | (refine' logical_places_ok (by first | (k_asm) | fail) (by first | (k_asm) | fail) (by first | (k_asm) | fail) (by first | (k_asm) | fail) (by first | (k_asm) | fail) (by first | (rfl) | fail) (by first | (show _ + _ < _; k_extra "room") | fail) (by first | (show _ + _ < _; k_extra "room") | fail) (by first | (assumption) | fail) (by first | (assumption) | fail) (by first | (first | assumption | omega) | fail) (by first | (first | assumption | omega) | fail) ?_) | (refine' whole_places_ok (by first | (k_asm) | fail) (by first | (k_asm) | fail) (by first | (k_asm) | fail) (by first | (k_asm) | fail) (by first | (k_asm) | fail) (by first | (rfl) | fail) (by first | (show _ + _ < _; k_extra "room") | fail) (by first | (show _ + _ < _; k_extra "room") | fail) (by first | (k_mem) | fail) (by first | (assumption) | fail) (by first | (first | assumption | (rw [List.length_map]; assumption)) | fail) (by first | (first | assumption | omega) | fail) (by first | (assumption) | fail) ?_) | (refine' name_places_ok (by first | (k_asm) | fail) (by first | (k_asm) | fail) (by first | (k_asm) | fail) (by first | (k_asm) | fail) (by first | (k_asm) | fail) (by first | (rfl) | fail) (by first | (show _ + _ < _; k_extra "room") | fail) (by first | (show _ + _ < _; k_extra "room") | fail) (by first | (assumption) | fail) (by first | (assumption) | fail) (by first | (first | assumption | omega) | fail) (by first | (assumption) | fail) ?_)); intro r9 ws9 nr9 h9 tk9 F9 N9 hne9 hi9; (try dsimp only))
  k_with "call ref" => (k_here; (with_reducible show wpAny _ _ (call (Value.ref 74) _) _ _ _); k_dflt ((refine' whole_subscripts_int (by first | (k_asm) | fail) (by first | (k_asm) | fail) (by first | (k_asm) | fail) (by first | (k_asm) | fail) (by first | (k_asm) | fail) (by first | (rfl) | fail) (by first | (show _ + _ < _; k_extra "room") | fail) (by first | (show _ + _ < _; k_extra "room") | fail) (by first | (assumption) | fail) (by first | (assumption) | fail) (by first | (assumption) | fail) (by first | (assumption) | fail) ?_)); intro h9 tk9 F9 N9; (try dsimp only))
  k_with "call ref" => (k_here; (with_reducible show wpAny _ _ (call (Value.ref 74) _) _ _ _); k_dflt ((refine' whole_subscripts_dbl (by first | (k_asm) | fail) (by first | (k_asm) | fail) (by first | (k_asm) | fail) (by first | (k_asm) | fail) (by first | (k_asm) | fail) (by first | (rfl) | fail) (by first | (show _ + _ < _; k_extra "room") | fail) (by first | (show _ + _ < _; k_extra "room") | fail) (by first | (assumption) | fail) (by first | (assumption) | fail) (by first | (assumption) | fail) (by first | (assumption) | fail) (by first | (assumption) | fail) (by first | (assumption) | fail) (by first | (assumption) | fail) ?_)); intro r9 ws9 nr9 h9 tk9 F9 N9 hne9 hi9; (try dsimp only))
  exact True.intro
section
variable {w : World} {mean : ExcName → Option Value} {mg mb : Str → Option Value} {dp un : Nat} {gd : Option (List Code)} {cn : Str} {cs : Scope} {a : Addr} {ccd : Value} {cl : List (Str × Addr)} {outer : List Env} {A₀ : Around} {base h₀ : Heap} {L : Addr} {m : Str → Option Value} {s : Shared} {Q E : Value → Shared → Prop} {news : List (Addr × Obj)}
theorem positions_ok {xv nv : Value} {nn : Nat} {tn : Tok} {nm : Option (List (Option Str))} {res : List (Option Int)} (B : Below A₀ base outer h₀) (F : Fr h₀ L s.heap m) (X : (hd.heap_39 w.params).In h₀) (N : News h₀ L s.heap news) (T : Top hd.view_39 (looseW hd.view_39 []) mean mg mb h₀) (hk : cs.kind = .function) (hd0 : dp + 5 < recursionLimit) (hu : un + 140 < cLine) (hnm : NamesAre news nv nm) (hix : Ix news nm nn xv res) (hnn : nn < 1000)
    (hret : ∀ (t r : Addr) (ws : List Value) (nr nt : Nat) (h' : Heap) (tk' : Nat), Fr h₀ L h' m → News h₀ L h' ((t, tupO [.ref r, .none] nt) :: (r, listOf ws.toArray nr) :: news) → (∀ p ∈ news, p.1 ≠ t) → (∀ p ∈ news, p.1 ≠ r) → OIs ws res → Q (.ref t) { s with heap := h', toks := tk' }) : wpAny (model PySem.Challenge.rw_ov0054_01.row.prog w) (ktrTop dp un gd cn cs L a ccd cl outer) (call (.ref 114) [xv, .int (nn : Int) tn, nv, .bool false]) Q E s := by
  revert X; k_fill; intro X
  cases hix
  case missing x dx es ne tk hx hdx hkd =>
    k_extra "enter"
    rename Fr _ _ _ _ => F1
    replace F1 : Fr _ _ _ (fun y => List.lookup y [(Str.ofString "extend", .bool false), (Str.ofString "names", nv), (Str.ofString "n", .int (nn : Int) tn), (Str.ofString "ix", .ref x)]) := F1
    k_steps
    exact hret _ _ _ _ _ _ _ (by assumption) (by assumption) (by k_all) (by k_all) (OIs.ofRange (by assumption))
  case null x dx es ne tk hx hdx hkd =>
    k_extra "enter"
    rename Fr _ _ _ _ => F1
    replace F1 : Fr _ _ _ (fun y => List.lookup y [(Str.ofString "extend", .bool false), (Str.ofString "names", nv), (Str.ofString "n", .int (nn : Int) tn), (Str.ofString "ix", .ref x)]) := F1
    k_steps
    exact hret _ _ [] _ _ _ _ (by assumption) (by assumption) (by k_all) (by k_all) OIs.nil
  case logical x dx l es ne nl tk vs ds hx hdx hkd hit hl hi hlen =>
    k_extra "enter"
    rename Fr _ _ _ _ => F1
    replace F1 : Fr _ _ _ (fun y => List.lookup y [(Str.ofString "extend", .bool false), (Str.ofString "names", nv), (Str.ofString "n", .int (nn : Int) tn), (Str.ofString "ix", .ref x)]) := F1
    k_steps
    exact hret _ _ _ _ _ _ _ (by assumption) (by assumption) (by k_all) (by k_all) (by assumption)
  case integer x dx l es ne nl tk vs ds hx hdx hkd hit hl hi hlen hok =>
    k_extra "enter"
    rename Fr _ _ _ _ => F1
    replace F1 : Fr _ _ _ (fun y => List.lookup y [(Str.ofString "extend", .bool false), (Str.ofString "names", nv), (Str.ofString "n", .int (nn : Int) tn), (Str.ofString "ix", .ref x)]) := F1
    k_steps
    exact hret _ _ _ _ _ _ _ (by assumption) (by assumption) (by k_all) (by k_all) (by assumption)
  case double x dx l es ne nl tk vs ds hx hdx hkd hit hl hf hlen hok =>
    k_extra "enter"
    rename Fr _ _ _ _ => F1
    replace F1 : Fr _ _ _ (fun y => List.lookup y [(Str.ofString "extend", .bool false), (Str.ofString "names", nv), (Str.ofString "n", .int (nn : Int) tn), (Str.ofString "ix", .ref x)]) := F1
    k_steps
    exact hret _ _ _ _ _ _ _ (by assumption) (news_sub (by assumption) (fun p hp => by rcases List.mem_cons.mp hp with rfl | hp; exact .head _; rcases List.mem_cons.mp hp with rfl | hp; exact .tail _ (.head _); exact .tail _ (.tail _ (.tail _ hp)))) (by k_all) (fun p hp => (by assumption : ∀ p ∈ (_ : Addr × Obj) :: news, p.1 ≠ _) p (.tail _ hp)) (by assumption)
  case character x dx l es ne nl tk vs ts hx hdx hkd hit hl hs hlen =>
    k_extra "enter"
    rename Fr _ _ _ _ => F1
    replace F1 : Fr _ _ _ (fun y => List.lookup y [(Str.ofString "extend", .bool false), (Str.ofString "names", nv), (Str.ofString "n", .int (nn : Int) tn), (Str.ofString "ix", .ref x)]) := F1
    k_steps
    exact hret _ _ _ _ _ _ _ (by assumption) (by assumption) (by k_all) (by k_all) (by assumption)
end

end
theorem anew25 : True := by
  w_top off
  k_with_none
  k_with "gen" => (refine cut_genF ?_; intro q9 hq9)
  k_with "CutEnd" => (refine cut_in (by assumption) ?_)
  k_with "allLt" => (first | assumption | (rename _ ∧ _ => h9; obtain ⟨h91, h92⟩ := h9; k_extra "allLt"))
  k_with "call builtin:len" => (k_here; (with_reducible show wpAny _ _ (call (Value.builtin "len") [Value.ref _]) _ _ _); k_dflt (refine' len_led (by first | (k_asm) | fail) (by first | (k_mem) | fail) (by first | (omega) | fail) ?_; k_whole))
  k_with "exec For" => (k_here; (rename Fr _ _ _ _ => lF'); (with_unfolding_all refine' For_invVF lF' (by first | (k_dflt (exact rfl)) | fail) (by first | (k_dflt (exact rfl)) | fail) ?_; k_whole))
  k_with "exec For Name Attribute cons nil" => (walk_at "exec For")
  k_with "exec For Name Name cons nil" => (walk_at "exec For")
  k_with "exec For Name Call cons nil" => (walk_at "exec For")
  k_with "room" => (first | omega | (dsimp only [ktrTop, Around.deeper, Around.in1] at *; omega))
  k_with "enter" => (refine wpAny_call ?_; k_dflt cell_enter; (try generalize List.length (List.filterMap _ _) = ln9); k_extra "gen")
  k_with "getAttr ref" => (k_here; k_dflt (refine' get_own (by first | (k_asm) | fail) (by first | (k_asm) | fail) (by first | (k_inst) | fail) (by first | (k_is) | fail) (by first | (k_is) | fail) (by first | (k_is) | fail) (by first | (k_is) | fail) (by first | (assumption) | fail) (by first | (rfl) | fail) ?_; k_whole))
  k_with "small" => (first | omega | (simp only [List.length_append, List.length_cons, List.length_nil]; omega))
  k_with "call builtin:list.append" => (k_here; (with_reducible show wpAny _ _ (call (Value.builtin _) [Value.ref _, _]) _ _ _); k_dflt (refine' append_led (by first | (k_asm) | fail) (by first | (k_asm) | fail) (by first | (k_upd) | fail) (by first | (k_extra "small") | fail) ?_; k_whole); intro h' F' N'; (try k_sweep))
  k_with "turn map" => (intro z hz hp9 hs; (try dsimp only [kstB]); first | (simp only [hz, hs, if_false, Bool.false_eq_true]; done) | (have hz2 := hp9 _ (.head _); dsimp only at hz2; simp only [hz, hz2, hs, if_false, Bool.false_eq_true]; done) | (have hz2 := hp9 _ (.head _); have hz3 := hp9 _ (.tail _ (.head _)); dsimp only at hz2 hz3; simp only [hz, hz2, hz3, hs, if_false, Bool.false_eq_true]; done) | (have hs2 := hs; simp only [List.contains_cons, List.contains_nil, Bool.or_false, Bool.or_eq_false_iff, beq_eq_false_iff_ne, ne_eq] at hs2; simp only [hz, hs, hs2, if_false, Bool.false_eq_true]; done) | (have hz2 := hp9 _ (.head _); dsimp only at hz2; have hs2 := hs; simp only [List.contains_cons, List.contains_nil, Bool.or_false, Bool.or_eq_false_iff, beq_eq_false_iff_ne, ne_eq] at hs2; simp only [hz, hz2, hs, hs2, if_false, Bool.false_eq_true]))
  k_with "turn end 1" => (first | refine TurnEnd.next _ (by assumption) (by assumption) ?_ ?_ (by exact fun _ hp => nomatch hp) (by k_extra "turn map") | refine TurnEnd.cont _ (by assumption) (by assumption) ?_ ?_ (by exact fun _ hp => nomatch hp) (by k_extra "turn map"))
  k_with "turn end 2" => (first | refine TurnEnd.next (_, _) (by assumption) (by assumption) ?_ ?_ (by exact fun _ hp => nomatch hp) (by k_extra "turn map") | refine TurnEnd.cont (_, _) (by assumption) (by assumption) ?_ ?_ (by exact fun _ hp => nomatch hp) (by k_extra "turn map"))
  k_with "turn end 3" => (first | refine TurnEnd.next (_, _, _) (by assumption) (by assumption) ?_ ?_ (by exact fun _ hp => nomatch hp) (by k_extra "turn map") | refine TurnEnd.cont (_, _, _) (by assumption) (by assumption) ?_ ?_ (by exact fun _ hp => nomatch hp) (by k_extra "turn map"))
  first | walk1 | exact True.intro
section
theorem words11 : True := by
  k_with "call ref" => (k_here; (with_reducible show wpAny _ _ (call (Value.ref 114) _) _ _ _); k_dflt ((refine' positions_ok (by first | (k_asm) | fail) (by first | (k_asm) | fail) (by first | (k_asm) | fail) (by first | (k_asm) | fail) (by first | (k_asm) | fail) (by first | (rfl) | fail) (by first | (show _ + _ < _; k_extra "room") | fail) (by first | (show _ + _ < _; k_extra "room") | fail) (by first | (assumption) | fail) (by first | (assumption) | fail) (by first | (assumption) | fail) ?_)); intro t9 r9 ws9 nr9 nt9 h9 tk9 F9 N9 hne9 hne8 hi9; (try dsimp only))
  exact True.intro
section
variable {w : World} {mean : ExcName → Option Value} {mg mb : Str → Option Value} {dp un : Nat} {gd : Option (List Code)} {cn : Str} {cs : Scope} {a : Addr} {ccd : Value} {cl : List (Str × Addr)} {outer : List Env} {A₀ : Around} {base h₀ : Heap} {L : Addr} {m : Str → Option Value} {s : Shared} {Q E : Value → Shared → Prop} {news : List (Addr × Obj)}
theorem said_ok {xv nv : Value} {nn : Nat} {tn : Tok} {nm : Option (List (Option Str))} {res : List (Option Int)} (B : Below A₀ base outer h₀) (F : Fr h₀ L s.heap m) (X : (hd.heap_39 w.params).In h₀) (N : News h₀ L s.heap news) (T : Top hd.view_39 (looseW hd.view_39 []) mean mg mb h₀) (hk : cs.kind = .function) (hd0 : dp + 6 < recursionLimit) (hu : un + 148 < cLine) (hnm : NamesAre news nv nm) (hix : Ix news nm nn xv res) (hnn : nn < 1000)
    (hret : ∀ (t r : Addr) (ws : List Value) (nr nt : Nat) (h' : Heap) (tk' : Nat), Fr h₀ L h' m → News h₀ L h' ((t, tupO [.ref r, .none] nt) :: (r, listOf ws.toArray nr) :: news) → (∀ p ∈ news, p.1 ≠ t) → (∀ p ∈ news, p.1 ≠ r) → OIs ws res → Q (.ref t) { s with heap := h', toks := tk' }) : wpAny (model PySem.Challenge.rw_ov0054_01.row.prog w) (ktrTop dp un gd cn cs L a ccd cl outer) (call (.ref 241) [xv, .int (nn : Int) tn, nv]) Q E s := by
  revert X; k_fill; intro X
  k_extra "enter"
  rename Fr _ _ _ _ => F1
  replace F1 : Fr _ _ _ (fun y => List.lookup y [(Str.ofString "names", nv), (Str.ofString "count", .int (nn : Int) tn), (Str.ofString "ix", xv)]) := F1
  k_steps
  exact hret _ _ _ _ _ _ _ (by assumption) (by assumption) (by k_all) (by k_all) (by assumption)
end

end
theorem anew26 : True := by
  w_top off
  k_with_none
  k_with "gen" => (refine cut_genF ?_; intro q9 hq9)
  k_with "CutEnd" => (refine cut_in (by assumption) ?_)
  k_with "allLt" => (first | assumption | (rename _ ∧ _ => h9; obtain ⟨h91, h92⟩ := h9; k_extra "allLt"))
  k_with "call builtin:len" => (k_here; (with_reducible show wpAny _ _ (call (Value.builtin "len") [Value.ref _]) _ _ _); k_dflt (refine' len_led (by first | (k_asm) | fail) (by first | (k_mem) | fail) (by first | (omega) | fail) ?_; k_whole))
  k_with "exec For" => (k_here; (rename Fr _ _ _ _ => lF'); (with_unfolding_all refine' For_invVF lF' (by first | (k_dflt (exact rfl)) | fail) (by first | (k_dflt (exact rfl)) | fail) ?_; k_whole))
  k_with "exec For Name Attribute cons nil" => (walk_at "exec For")
  k_with "exec For Name Name cons nil" => (walk_at "exec For")
  k_with "exec For Name Call cons nil" => (walk_at "exec For")
  k_with "room" => (first | omega | (dsimp only [ktrTop, Around.deeper, Around.in1] at *; omega))
  k_with "enter" => (refine wpAny_call ?_; k_dflt cell_enter; (try generalize List.length (List.filterMap _ _) = ln9); k_extra "gen")
  k_with "getAttr ref" => (k_here; k_dflt (refine' get_own (by first | (k_asm) | fail) (by first | (k_asm) | fail) (by first | (k_inst) | fail) (by first | (k_is) | fail) (by first | (k_is) | fail) (by first | (k_is) | fail) (by first | (k_is) | fail) (by first | (assumption) | fail) (by first | (rfl) | fail) ?_; k_whole))
  k_with "small" => (first | omega | (simp only [List.length_append, List.length_cons, List.length_nil]; omega))
  k_with "call builtin:list.append" => (k_here; (with_reducible show wpAny _ _ (call (Value.builtin _) [Value.ref _, _]) _ _ _); k_dflt (refine' append_led (by first | (k_asm) | fail) (by first | (k_asm) | fail) (by first | (k_upd) | fail) (by first | (k_extra "small") | fail) ?_; k_whole); intro h' F' N'; (try k_sweep))
  k_with "turn map" => (intro z hz hp9 hs; (try dsimp only [kstB]); first | (simp only [hz, hs, if_false, Bool.false_eq_true]; done) | (have hz2 := hp9 _ (.head _); dsimp only at hz2; simp only [hz, hz2, hs, if_false, Bool.false_eq_true]; done) | (have hz2 := hp9 _ (.head _); have hz3 := hp9 _ (.tail _ (.head _)); dsimp only at hz2 hz3; simp only [hz, hz2, hz3, hs, if_false, Bool.false_eq_true]; done) | (have hs2 := hs; simp only [List.contains_cons, List.contains_nil, Bool.or_false, Bool.or_eq_false_iff, beq_eq_false_iff_ne, ne_eq] at hs2; simp only [hz, hs, hs2, if_false, Bool.false_eq_true]; done) | (have hz2 := hp9 _ (.head _); dsimp only at hz2; have hs2 := hs; simp only [List.contains_cons, List.contains_nil, Bool.or_false, Bool.or_eq_false_iff, beq_eq_false_iff_ne, ne_eq] at hs2; simp only [hz, hz2, hs, hs2, if_false, Bool.false_eq_true]))
  k_with "turn end 1" => (first | refine TurnEnd.next _ (by assumption) (by assumption) ?_ ?_ (by exact fun _ hp => nomatch hp) (by k_extra "turn map") | refine TurnEnd.cont _ (by assumption) (by assumption) ?_ ?_ (by exact fun _ hp => nomatch hp) (by k_extra "turn map"))
  k_with "turn end 2" => (first | refine TurnEnd.next (_, _) (by assumption) (by assumption) ?_ ?_ (by exact fun _ hp => nomatch hp) (by k_extra "turn map") | refine TurnEnd.cont (_, _) (by assumption) (by assumption) ?_ ?_ (by exact fun _ hp => nomatch hp) (by k_extra "turn map"))
  k_with "turn end 3" => (first | refine TurnEnd.next (_, _, _) (by assumption) (by assumption) ?_ ?_ (by exact fun _ hp => nomatch hp) (by k_extra "turn map") | refine TurnEnd.cont (_, _, _) (by assumption) (by assumption) ?_ ?_ (by exact fun _ hp => nomatch hp) (by k_extra "turn map"))
  first | walk1 | exact True.intro
section

theorem off_two {d x : Addr} {o : Obj} {l : List (Addr × Obj)} (h : ∀ p ∈ l, p.1 < d) (h2 : (@LT.lt Nat _ d x)) : ∀ p ∈ (d, o) :: l, p.1 ≠ x := fun p hp => by
  rcases List.mem_cons.mp hp with rfl | hp
  · exact Nat.ne_of_lt h2
  · exact Nat.ne_of_lt (Nat.lt_trans (h p hp) h2)
local macro_rules | `(tactic| walk_at "call ref") => `(tactic| (k_here; (with_reducible show wpAny _ _ (call (Value.ref 51) _) _ _ _); k_dflt (refine' call_exc PySem.F.excBase_Exception ?F ?X ?N (rf_cls _) (rf_init _) (rf_fn _) ?z ?_; (case F => k_asm); (case X => k_asm); (case N => k_asm); (case z => exact Nat.le_of_ble_eq_true rfl); k_whole; intro x' d' h' F' N' l1 l2; (k_lt2 l2); (refine' code_def ?k1 ?k2 ?k3 ?k4 ?k5 ?kA ?kF ?kK ?k6 ?k7 ?k8 ?k9 ?kB ?_ ?c2 ?c3 ?c4 ?c5; (case kA => exact rfl); (case kF => exact rfl); (case kK => first | assumption | exact rfl); (case k1 => k_asm); (case k2 => k_asm); (case k3 => k_asm); (case k4 => k_asm); (case k5 => k_asm); (case k6 => k_is); (case k7 => k_is); (case k8 => (simp only [depth_mark, depth_under_make, depth_under_kw, depth_in1, depth_deeper, depth_caller]; (show _ + _ < _); k_extra "room")); (case k9 => first | exact BindsTo.of_eq rfl | exact binds_K (by k_in) rfl (by k_is) rfl rfl rfl | fail "k_enter: no rule for these arguments"); (case c5 => decide); (case kB => exact locs rfl); (case c2 => exact rfl); (case c3 => exact rfl); (case c4 => exact rfl); k_whole; intro g' L' h' FG' F' N' B' X' T'; (try dsimp only); (try k_fold); (try generalize List.length (List.filterMap _ _) = ln9)))))
theorem words12 : True := by
  k_with "setAttr ref" => (k_here; k_dflt (refine' set_fresh (by first | (k_asm) | fail) (by first | (k_asm) | fail) (by first | (k_asm) | fail) (by first | (exact off_two (by assumption) (by assumption)) | fail) (rf_set _) (rf_only _) (rf_taker _) (rf_dict _) ?_; k_whole); intro D' h' tk' F' N' l1 l2; (k_lt2 l2); (try k_sweep))
  exact True.intro
section
variable {w : World} {mean : ExcName → Option Value} {mg mb : Str → Option Value} {dp un : Nat} {gd : Option (List Code)} {cn : Str} {cs : Scope} {a : Addr} {ccd : Value} {cl : List (Str × Addr)} {outer : List Env} {A₀ : Around} {base h₀ : Heap} {L : Addr} {m : Str → Option Value} {s : Shared} {Q E : Value → Shared → Prop} {news : List (Addr × Obj)}
theorem refusal_ok {msg : Str} {tm : Tok} (B : Below A₀ base outer h₀) (F : Fr h₀ L s.heap m) (X : (hd.heap_39 w.params).In h₀) (N : News h₀ L s.heap news) (T : Top hd.view_39 (looseW hd.view_39 []) mean mg mb h₀) (hk : cs.kind = .function) (hd0 : dp + 3 < recursionLimit) (hu : un + 124 < cLine)
    (hret : ∀ (e t D : Addr) (es : List DictEntry) (ne : Nat) (h' : Heap) (tk' : Nat), Fr h₀ L h' m → News h₀ L h' ((e, excObjD 51 t D) :: (D, dictOf es ne) :: (t, tupO [.str msg tm] 0) :: news) → getL (Str.ofString "message") es = some (some (.str msg tm)) → (∀ p ∈ news, p.1 ≠ e) → D ≠ e → t ≠ e → Q (.ref e) { s with heap := h', toks := tk' }) : wpAny (model PySem.Challenge.rw_ov0054_01.row.prog w) (ktrTop dp un gd cn cs L a ccd cl outer) (call (.ref 51) [.str msg tm]) Q E s := by
  revert X; k_fill; intro X
  walk_at "call ref"
  k_steps
  have o1 := ‹∀ p ∈ news, p.1 < _›
  have o2 := ‹@LT.lt Nat _ _ _›
  rename (∀ p ∈ (_, tupO [Value.str msg tm] 0) :: news, p.1 < _) => o3
  refine hret _ _ _ _ _ _ _ (by assumption) (by assumption) ?_ ?_ ?_ ?_
  · exact rfl
  · exact fun p hp => off_two (o := tupO [] 0) o1 (by assumption) p (.tail _ hp)
  · exact Nat.ne_of_gt (by assumption)
  · exact Nat.ne_of_lt (by assumption)
end

end
theorem anew27 : True := by
  w_top off
  k_with_none
  k_with "gen" => (refine cut_genF ?_; intro q9 hq9)
  k_with "CutEnd" => (refine cut_in (by assumption) ?_)
  k_with "allLt" => (first | assumption | (rename _ ∧ _ => h9; obtain ⟨h91, h92⟩ := h9; k_extra "allLt"))
  k_with "call builtin:len" => (k_here; (with_reducible show wpAny _ _ (call (Value.builtin "len") [Value.ref _]) _ _ _); k_dflt (refine' len_led (by first | (k_asm) | fail) (by first | (k_mem) | fail) (by first | (omega) | fail) ?_; k_whole))
  k_with "exec For" => (k_here; (rename Fr _ _ _ _ => lF'); (with_unfolding_all refine' For_invVF lF' (by first | (k_dflt (exact rfl)) | fail) (by first | (k_dflt (exact rfl)) | fail) ?_; k_whole))
  k_with "exec For Name Attribute cons nil" => (walk_at "exec For")
  k_with "exec For Name Name cons nil" => (walk_at "exec For")
  k_with "exec For Name Call cons nil" => (walk_at "exec For")
  k_with "room" => (first | omega | (dsimp only [ktrTop, Around.deeper, Around.in1] at *; omega))
  k_with "enter" => (refine wpAny_call ?_; k_dflt cell_enter; (try generalize List.length (List.filterMap _ _) = ln9); k_extra "gen")
  k_with "getAttr ref" => (k_here; k_dflt (refine' get_own (by first | (k_asm) | fail) (by first | (k_asm) | fail) (by first | (k_inst) | fail) (by first | (k_is) | fail) (by first | (k_is) | fail) (by first | (k_is) | fail) (by first | (k_is) | fail) (by first | (assumption) | fail) (by first | (rfl) | fail) ?_; k_whole))
  k_with "small" => (first | omega | (simp only [List.length_append, List.length_cons, List.length_nil]; omega))
  k_with "call builtin:list.append" => (k_here; (with_reducible show wpAny _ _ (call (Value.builtin _) [Value.ref _, _]) _ _ _); k_dflt (refine' append_led (by first | (k_asm) | fail) (by first | (k_asm) | fail) (by first | (k_upd) | fail) (by first | (k_extra "small") | fail) ?_; k_whole); intro h' F' N'; (try k_sweep))
  k_with "turn map" => (intro z hz hp9 hs; (try dsimp only [kstB]); first | (simp only [hz, hs, if_false, Bool.false_eq_true]; done) | (have hz2 := hp9 _ (.head _); dsimp only at hz2; simp only [hz, hz2, hs, if_false, Bool.false_eq_true]; done) | (have hz2 := hp9 _ (.head _); have hz3 := hp9 _ (.tail _ (.head _)); dsimp only at hz2 hz3; simp only [hz, hz2, hz3, hs, if_false, Bool.false_eq_true]; done) | (have hs2 := hs; simp only [List.contains_cons, List.contains_nil, Bool.or_false, Bool.or_eq_false_iff, beq_eq_false_iff_ne, ne_eq] at hs2; simp only [hz, hs, hs2, if_false, Bool.false_eq_true]; done) | (have hz2 := hp9 _ (.head _); dsimp only at hz2; have hs2 := hs; simp only [List.contains_cons, List.contains_nil, Bool.or_false, Bool.or_eq_false_iff, beq_eq_false_iff_ne, ne_eq] at hs2; simp only [hz, hz2, hs, hs2, if_false, Bool.false_eq_true]))
  k_with "turn end 1" => (first | refine TurnEnd.next _ (by assumption) (by assumption) ?_ ?_ (by exact fun _ hp => nomatch hp) (by k_extra "turn map") | refine TurnEnd.cont _ (by assumption) (by assumption) ?_ ?_ (by exact fun _ hp => nomatch hp) (by k_extra "turn map"))
  k_with "turn end 2" => (first | refine TurnEnd.next (_, _) (by assumption) (by assumption) ?_ ?_ (by exact fun _ hp => nomatch hp) (by k_extra "turn map") | refine TurnEnd.cont (_, _) (by assumption) (by assumption) ?_ ?_ (by exact fun _ hp => nomatch hp) (by k_extra "turn map"))
  k_with "turn end 3" => (first | refine TurnEnd.next (_, _, _) (by assumption) (by assumption) ?_ ?_ (by exact fun _ hp => nomatch hp) (by k_extra "turn map") | refine TurnEnd.cont (_, _, _) (by assumption) (by assumption) ?_ ?_ (by exact fun _ hp => nomatch hp) (by k_extra "turn map"))
  first | walk1 | exact True.intro
section
theorem words13 : True := by
  k_with "gen" => (refine cut_gen ?_; intro q9 hq9)
  k_with "call builtin:len" => (k_here; (with_reducible show wpAny _ _ (call (Value.builtin "len") [Value.ref _]) _ _ _); k_dflt (refine' kda_len (knd := intKind _ _) (by first | (k_asm) | fail) (by first | (k_mem) | fail) (by first | (assumption) | fail) (by first | (assumption) | fail) (by first | (omega) | fail) ?_; k_whole))
  k_with "setItem ref int" => (k_here; k_dflt (refine' kda_set (knd := intKind _ _) (by first | (k_asm) | fail) (by first | (k_asm) | fail) (by first | (k_updF) | fail) (by first | (assumption) | fail) (intKind_is _ _ _ _) (by first | (rw [sizeLine_eq]; omega) | fail) ?_); intro h' o' F' N' hd'; (try dsimp only at N'))
  k_with "compareOp NotIn int ref" => (k_here; k_dflt (refine' kdg_notin (knd := intKind _ _) (by first | (k_asm) | fail) (by first | (k_mem) | fail) (by first | (assumption) | fail) (by first | (assumption) | fail) (intKind_is _ _ _ _) _ (by first | (exact rfl) | fail) ?_; k_whole))
  k_with "CompEnd" => (refine Stop.intro ?_)
  k_with "CompSrcT" => (refine Stop.intro ?_)
  k_with "exec Raise some none" => (k_here; k_dflt (refine' Raise_exc (rf_cls (PySem.World.params (by assumption))) (by first | (rfl) | fail) (by first | (rfl) | fail) ?_; k_whole))
  k_with "call ref" => (k_here; (with_reducible show wpAny _ _ (call (Value.ref 51) _) _ _ _); k_dflt (refine' refusal_ok (by first | (k_asm) | fail) (by first | (k_asm) | fail) (by first | (k_asm) | fail) (by first | (k_asm) | fail) (by first | (k_asm) | fail) (by first | (rfl) | fail) (by first | (show _ + _ < _; k_extra "room") | fail) (by first | (show _ + _ < _; k_extra "room") | fail) ?_; k_whole); intro e9 t9 D9 es9 ne9 h9 tk9 F9 N9 hg9 hoe9 hDe9 hte9; (refine ⟨_, _, _, rfl, Frag.In.keeps (by assumption) (Fr.keep F9), (N9 _ (.head _)).1, ?_⟩); refine Stop.intro ?_)
  exact True.intro
def msgOf (ds : List (Option Int)) : Str := if none ∈ ds then Str.ofString "can't mix NAs with negative subscripts" else Str.ofString "can't mix positive and negative subscripts"
section
variable {w : World} {mean : ExcName → Option Value} {mg mb : Str → Option Value} {dp un : Nat} {gd : Option (List Code)} {cn : Str} {cs : Scope} {a : Addr} {ccd : Value} {cl : List (Str × Addr)} {outer : List Env} {A₀ : Around} {base h₀ : Heap} {L : Addr} {m : Str → Option Value} {s : Shared} {Q E : Value → Shared → Prop} {news : List (Addr × Obj)}
theorem whole_places_bad {l : Addr} {vs : List Value} {ds : List (Option Int)} {nl nn : Nat} {tn : Tok} (B : Below A₀ base outer h₀) (F : Fr h₀ L s.heap m) (X : (hd.heap_39 w.params).In h₀) (N : News h₀ L s.heap news) (T : Top hd.view_39 (looseW hd.view_39 []) mean mg mb h₀) (hk : cs.kind = .function) (hd0 : dp + 5 < recursionLimit) (hu : un + 140 < cLine) (hl : (l, listOf vs.toArray nl) ∈ news) (hi : OIs vs ds) (hlen : ds.length < 1000) (hnn : nn < 1000) (hok1 : outsOf ds ≠ []) (hok2 : placesOf ds ≠ [])
    (hrai : ∀ (g : Heap) (e D : Addr) (es : List DictEntry) (ne : Nat) (tk9 : Tok) (news' : List (Addr × Obj)) (h' : Heap) (tk' : Nat), Fr h₀ L g m → RaisedD base g (envX cn cs L a ccd cl :: outer) e (.ref 51) D news' h' → g.UpToSlots h' → (D, dictOf es ne) ∈ news' → getL (Str.ofString "message") es = some (some (.str (msgOf ds) tk9)) → (∀ p ∈ news, p ∈ news') → E (.ref e) { s with heap := h', toks := tk' }) : wpAny (model PySem.Challenge.rw_ov0054_01.row.prog w) (ktrTop dp un gd cn cs L a ccd cl outer) (call (.ref 86) [.ref l, .int (nn : Int) tn]) Q E s := by
  revert X; k_fill; intro X
  have hvl := hi.length
  walk_at "enterC"
  rename Fr _ _ _ _ => F1
  replace F1 : Fr _ _ _ (fun y => if y = Str.ofString "n" then some (.int (nn : Int) tn) else if y = Str.ofString "items" then some (.ref l) else none) := F1
  k_steps
  refine Stop.of ?_
  rename Fr _ _ _ _ => F1
  rename News _ _ _ _ => N1
  refine for_list (σ := WPSt) (news := _ :: news) (fun c => [(_, c.o), (_, listOf c.vs.toArray c.n)]) (fun c => [(Str.ofString "lacks", .bool c.lacks)]) []
    (fun i c => OIs c.vs ((ds.take i).flatMap placeOf) ∧ c.o.IsDictOf (intKind PySem.Challenge.rw_ov0054_01.row.prog w) c.kvs ∧ SetIs c.kvs ((ds.take i).flatMap outOf) ∧ (c.lacks = decide (none ∈ ds.take i))) ⟨_, [], [], 0, false⟩ rfl (.tail _ hl) F1 N1 ?_ ?_ ?_ ?_ ?_
  · exact ledOff2 (off_cons (by k_ne) (by k_all)) (off_cons (by k_ne) (by k_all))
  · intro p hp; rw [List.mem_singleton.mp hp]; rfl
  · exact ⟨OIs.nil, by assumption, SetIs.nil, by simp⟩
  · clear F1 N1
    intro i v c u rest h tk hv hP hsub hoff F N
    dsimp only [kstB, List.cons_append, List.nil_append] at F N
    have hol := hoff _ (.tail _ (.head _))
    have hod := hoff _ (.head _)
    dsimp only at hol hod
    have hcm := hsub _ (.head _)
    obtain ⟨hP1, hP2, hP3, hP4⟩ := hP
    have hcl : c.vs.length < 1000 := by have h1 := hP1.length; have h2 := flatMap_len placeOf_len (ds.take i); rw [List.length_take] at h2; omega
    have hck : c.kvs.length < 1000 := by have h1 := hP3.2.2; have h2 := flatMap_len outOf_len (ds.take i); rw [List.length_take] at h2; omega
    obtain ⟨d, hd, hvd⟩ := hi.get hv
    rw [take_snoc hd, flatMap_snoc, flatMap_snoc]
    cases hvd with
    | none =>
      k_steps
      refine TurnEnd.next (c' := ⟨_, c.kvs, _, _, true⟩) (F := by assumption) (N := by assumption) ?_ ?_ ?_ ?_
      · exact ⟨hP1.snoc .none, hP2, by simpa [outOf] using hP3, by simp⟩
      · exact ledOff2 hod hol
      · intro p hp; rw [List.mem_singleton.mp hp]; rfl
      · k_extra "turn map"
    | some k t =>
      k_steps
      · refine TurnEnd.next (c' := ⟨c.o, c.kvs, c.vs ++ [.int (k - 1) _], c.n + 1, c.lacks⟩) (F := by assumption) (N := by assumption) ?_ ?_ ?_ ?_
        · refine ⟨by rw [show placeOf (some k) = [some (k - 1)] from if_pos (by assumption)]; exact hP1.snoc (.some _ _), hP2, ?_, by rw [hP4]; simp⟩
          rw [show outOf (some k) = [] from if_neg (by omega), List.append_nil]; exact hP3
        · exact ledOff2 hod hol
        · intro p hp; rw [List.mem_singleton.mp hp]; rfl
        · k_extra "turn map"
      · refine TurnEnd.next (c' := ⟨_, stored c.kvs (-k - 1) (.bool true), c.vs, c.n, c.lacks⟩) (F := by assumption) (N := by assumption) ?_ ?_ ?_ ?_
        · refine ⟨by rw [show placeOf (some k) = [] from if_neg (by omega), List.append_nil]; exact hP1, by assumption, ?_, by rw [hP4]; simp⟩
          rw [show outOf (some k) = [-k - 1] from if_pos (by omega)]; exact hP3.put _ _
        · exact ledOff2 hod hol
        · intro p hp; rw [List.mem_singleton.mp hp]; rfl
        · k_extra "turn map"
      · refine TurnEnd.next (c' := ⟨c.o, c.kvs, c.vs, c.n, c.lacks⟩) (F := by assumption) (N := by assumption) ?_ ?_ ?_ ?_
        · refine ⟨by rw [show placeOf (some k) = [] from if_neg (by omega), List.append_nil]; exact hP1, hP2, ?_, by rw [hP4]; simp⟩
          rw [show outOf (some k) = [] from if_neg (by omega), List.append_nil]; exact hP3
        · exact ledOff2 hod hol
        · intro p hp; rw [List.mem_singleton.mp hp]; rfl
        · k_extra "turn map"
  · clear F1 N1
    intro c u h tk hP hoff F N
    dsimp only [kstB, envOfC, List.cons_append, List.nil_append] at F N
    rw [take_all hvl] at hP
    obtain ⟨hP1, hP2, hP3, hP4⟩ := hP
    have hcl : c.vs.length < 1000 := by have h1 := hP1.length; have h2 := flatMap_len placeOf_len ds; omega
    have hck : c.kvs.length < 1000 := by have h1 := hP3.2.2; have h2 := flatMap_len outOf_len ds; omega
    k_steps
    · exact absurd (hP3.2.1.mp (by omega)) hok1
    · rename Below _ _ _ _ => KB
      rename (Fr h₀ L _ m) => FG
      rename News _ _ _ _ => N7
      rename Fr _ _ _ _ => F7
      rename (getL _ _ = _) => hg7
      have e7 : msgOf ds = Str.ofString "can't mix NAs with negative subscripts" := by unfold msgOf; rw [if_pos (of_decide_eq_true (hP4.symm.trans (by assumption)))]
      refine Stop.of (leave_firstD KB F7 N7 (off_cons (by assumption) (off_cons (by assumption) (by assumption))) rfl rfl rfl rfl rfl rfl fun h' R u => ?_)
      exact hrai _ _ _ _ _ _ _ _ _ FG R u (.head _) (by rw [e7]; exact hg7) (fun p hp => .tail _ (.tail _ (.tail _ (.tail _ (.tail _ hp)))))
    · rename Below _ _ _ _ => KB
      rename (Fr h₀ L _ m) => FG
      rename News _ _ _ _ => N7
      rename Fr _ _ _ _ => F7
      rename (getL _ _ = _) => hg7
      have e7 : msgOf ds = Str.ofString "can't mix positive and negative subscripts" := by unfold msgOf; rw [if_neg (of_decide_eq_false (hP4.symm.trans (by assumption)))]
      refine Stop.of (leave_firstD KB F7 N7 (off_cons (by assumption) (off_cons (by assumption) (by assumption))) rfl rfl rfl rfl rfl rfl fun h' R u => ?_)
      exact hrai _ _ _ _ _ _ _ _ _ FG R u (.head _) (by rw [e7]; exact hg7) (fun p hp => .tail _ (.tail _ (.tail _ (.tail _ (.tail _ hp)))))
    · exfalso
      have e2 := hP1.length
      have e3 : c.vs.length = 0 := by omega
      rw [e3] at e2
      exact hok2 (List.length_eq_zero_iff.mp e2.symm)
end

end
theorem anew28 : True := by
  w_top off
  k_with_none
  k_with "gen" => (refine cut_genF ?_; intro q9 hq9)
  k_with "CutEnd" => (refine cut_in (by assumption) ?_)
  k_with "allLt" => (first | assumption | (rename _ ∧ _ => h9; obtain ⟨h91, h92⟩ := h9; k_extra "allLt"))
  k_with "call builtin:len" => (k_here; (with_reducible show wpAny _ _ (call (Value.builtin "len") [Value.ref _]) _ _ _); k_dflt (refine' len_led (by first | (k_asm) | fail) (by first | (k_mem) | fail) (by first | (omega) | fail) ?_; k_whole))
  k_with "exec For" => (k_here; (rename Fr _ _ _ _ => lF'); (with_unfolding_all refine' For_invVF lF' (by first | (k_dflt (exact rfl)) | fail) (by first | (k_dflt (exact rfl)) | fail) ?_; k_whole))
  k_with "exec For Name Attribute cons nil" => (walk_at "exec For")
  k_with "exec For Name Name cons nil" => (walk_at "exec For")
  k_with "exec For Name Call cons nil" => (walk_at "exec For")
  k_with "room" => (first | omega | (dsimp only [ktrTop, Around.deeper, Around.in1] at *; omega))
  k_with "enter" => (refine wpAny_call ?_; k_dflt cell_enter; (try generalize List.length (List.filterMap _ _) = ln9); k_extra "gen")
  k_with "getAttr ref" => (k_here; k_dflt (refine' get_own (by first | (k_asm) | fail) (by first | (k_asm) | fail) (by first | (k_inst) | fail) (by first | (k_is) | fail) (by first | (k_is) | fail) (by first | (k_is) | fail) (by first | (k_is) | fail) (by first | (assumption) | fail) (by first | (rfl) | fail) ?_; k_whole))
  k_with "small" => (first | omega | (simp only [List.length_append, List.length_cons, List.length_nil]; omega))
  k_with "call builtin:list.append" => (k_here; (with_reducible show wpAny _ _ (call (Value.builtin _) [Value.ref _, _]) _ _ _); k_dflt (refine' append_led (by first | (k_asm) | fail) (by first | (k_asm) | fail) (by first | (k_upd) | fail) (by first | (k_extra "small") | fail) ?_; k_whole); intro h' F' N'; (try k_sweep))
  k_with "turn map" => (intro z hz hp9 hs; (try dsimp only [kstB]); first | (simp only [hz, hs, if_false, Bool.false_eq_true]; done) | (have hz2 := hp9 _ (.head _); dsimp only at hz2; simp only [hz, hz2, hs, if_false, Bool.false_eq_true]; done) | (have hz2 := hp9 _ (.head _); have hz3 := hp9 _ (.tail _ (.head _)); dsimp only at hz2 hz3; simp only [hz, hz2, hz3, hs, if_false, Bool.false_eq_true]; done) | (have hs2 := hs; simp only [List.contains_cons, List.contains_nil, Bool.or_false, Bool.or_eq_false_iff, beq_eq_false_iff_ne, ne_eq] at hs2; simp only [hz, hs, hs2, if_false, Bool.false_eq_true]; done) | (have hz2 := hp9 _ (.head _); dsimp only at hz2; have hs2 := hs; simp only [List.contains_cons, List.contains_nil, Bool.or_false, Bool.or_eq_false_iff, beq_eq_false_iff_ne, ne_eq] at hs2; simp only [hz, hz2, hs, hs2, if_false, Bool.false_eq_true]))
  k_with "turn end 1" => (first | refine TurnEnd.next _ (by assumption) (by assumption) ?_ ?_ (by exact fun _ hp => nomatch hp) (by k_extra "turn map") | refine TurnEnd.cont _ (by assumption) (by assumption) ?_ ?_ (by exact fun _ hp => nomatch hp) (by k_extra "turn map"))
  k_with "turn end 2" => (first | refine TurnEnd.next (_, _) (by assumption) (by assumption) ?_ ?_ (by exact fun _ hp => nomatch hp) (by k_extra "turn map") | refine TurnEnd.cont (_, _) (by assumption) (by assumption) ?_ ?_ (by exact fun _ hp => nomatch hp) (by k_extra "turn map"))
  k_with "turn end 3" => (first | refine TurnEnd.next (_, _, _) (by assumption) (by assumption) ?_ ?_ (by exact fun _ hp => nomatch hp) (by k_extra "turn map") | refine TurnEnd.cont (_, _, _) (by assumption) (by assumption) ?_ ?_ (by exact fun _ hp => nomatch hp) (by k_extra "turn map"))
  first | walk1 | exact True.intro
section
theorem words14 : True := by
  k_with "gen" => (refine cut_gen ?_; intro q9 hq9)
  k_with "call ref" => (k_here; (with_reducible show wpAny _ _ (call (Value.ref 86) _) _ _ _); k_dflt (refine' whole_places_bad (by first | (k_asm) | fail) (by first | (k_asm) | fail) (by first | (k_asm) | fail) (by first | (k_asm) | fail) (by first | (k_asm) | fail) (by first | (rfl) | fail) (by first | (show _ + _ < _; k_extra "room") | fail) (by first | (show _ + _ < _; k_extra "room") | fail) (by first | (assumption) | fail) (by first | (assumption) | fail) (by first | (assumption) | fail) (by first | (assumption) | fail) (by first | (assumption) | fail) (by first | (assumption) | fail) ?_; k_whole); intro g9 e9 D9 es9 ne9 tk9 news9 h9 tk8 FG9 R9 u9 hm9 hg9 hs9; refine Stop.intro ?_)
  k_with "call ref" => (k_here; (with_reducible show wpAny _ _ (call (Value.ref 74) _) _ _ _); k_dflt ((refine' whole_subscripts_int (by first | (k_asm) | fail) (by first | (k_asm) | fail) (by first | (k_asm) | fail) (by first | (k_asm) | fail) (by first | (k_asm) | fail) (by first | (rfl) | fail) (by first | (show _ + _ < _; k_extra "room") | fail) (by first | (show _ + _ < _; k_extra "room") | fail) (by first | (assumption) | fail) (by first | (assumption) | fail) (by first | (assumption) | fail) (by first | (assumption) | fail) ?_)); intro h9 tk9 F9 N9; (try dsimp only))
  exact True.intro
section
variable {w : World} {mean : ExcName → Option Value} {mg mb : Str → Option Value} {dp un : Nat} {gd : Option (List Code)} {cn : Str} {cs : Scope} {a : Addr} {ccd : Value} {cl : List (Str × Addr)} {outer : List Env} {A₀ : Around} {base h₀ : Heap} {L : Addr} {m : Str → Option Value} {s : Shared} {Q E : Value → Shared → Prop} {news : List (Addr × Obj)}
theorem positions_bad {x dx l : Addr} {es : List DictEntry} {ne nl nn : Nat} {tn tkk : Tok} {vs : List Value} {ds : List (Option Int)} {nv : Value} (B : Below A₀ base outer h₀) (F : Fr h₀ L s.heap m) (X : (hd.heap_39 w.params).In h₀) (N : News h₀ L s.heap news) (T : Top hd.view_39 (looseW hd.view_39 []) mean mg mb h₀) (hk : cs.kind = .function) (hd0 : dp + 7 < recursionLimit) (hu : un + 156 < cLine) (hx : (x, instObj 181 dx) ∈ news) (hdx : (dx, dictOf es ne) ∈ news) (hkd : getL (Str.ofString "kind") es = some (some (.str (Str.ofString "integer") tkk))) (hit : getL (Str.ofString "items") es = some (some (.ref l))) (hl : (l, listOf vs.toArray nl) ∈ news) (hi : OIs vs ds) (hlen : ds.length < 1000) (hnn : nn < 1000) (hok1 : outsOf ds ≠ []) (hok2 : placesOf ds ≠ [])
    (hrai : ∀ (g : Heap) (e D : Addr) (es : List DictEntry) (ne : Nat) (tk9 : Tok) (news' : List (Addr × Obj)) (h' : Heap) (tk' : Nat), Fr h₀ L g m → RaisedD base g (envX cn cs L a ccd cl :: outer) e (.ref 51) D news' h' → g.UpToSlots h' → (D, dictOf es ne) ∈ news' → getL (Str.ofString "message") es = some (some (.str (msgOf ds) tk9)) → (∀ p ∈ news, p ∈ news') → E (.ref e) { s with heap := h', toks := tk' }) : wpAny (model PySem.Challenge.rw_ov0054_01.row.prog w) (ktrTop dp un gd cn cs L a ccd cl outer) (call (.ref 114) [.ref x, .int (nn : Int) tn, nv, .bool false]) Q E s := by
  revert X; k_fill; intro X
  k_extra "enter"
  rename Fr _ _ _ _ => F1
  replace F1 : Fr _ _ _ (fun y => List.lookup y [(Str.ofString "extend", .bool false), (Str.ofString "names", nv), (Str.ofString "n", .int (nn : Int) tn), (Str.ofString "ix", .ref x)]) := F1
  k_steps
  rename Below _ _ _ _ => KB
  rename (Fr h₀ L _ m) => FG
  rename Fr _ _ _ _ => F7
  rename RaisedD _ _ _ _ _ _ _ _ => R7
  rename Heap.UpToSlots _ _ => u7
  rename (getL (Str.ofString "message") _ = _) => hg7
  exact Stop.of (leave_nextD KB F7 R7 u7 rfl fun h' R u => hrai _ _ _ _ _ _ _ _ _ FG R u (by assumption) hg7 (by assumption))
end

end
theorem anew29 : True := by
  w_top off
  k_with_none
  k_with "gen" => (refine cut_genF ?_; intro q9 hq9)
  k_with "CutEnd" => (refine cut_in (by assumption) ?_)
  k_with "allLt" => (first | assumption | (rename _ ∧ _ => h9; obtain ⟨h91, h92⟩ := h9; k_extra "allLt"))
  k_with "call builtin:len" => (k_here; (with_reducible show wpAny _ _ (call (Value.builtin "len") [Value.ref _]) _ _ _); k_dflt (refine' len_led (by first | (k_asm) | fail) (by first | (k_mem) | fail) (by first | (omega) | fail) ?_; k_whole))
  k_with "exec For" => (k_here; (rename Fr _ _ _ _ => lF'); (with_unfolding_all refine' For_invVF lF' (by first | (k_dflt (exact rfl)) | fail) (by first | (k_dflt (exact rfl)) | fail) ?_; k_whole))
  k_with "exec For Name Attribute cons nil" => (walk_at "exec For")
  k_with "exec For Name Name cons nil" => (walk_at "exec For")
  k_with "exec For Name Call cons nil" => (walk_at "exec For")
  k_with "room" => (first | omega | (dsimp only [ktrTop, Around.deeper, Around.in1] at *; omega))
  k_with "enter" => (refine wpAny_call ?_; k_dflt cell_enter; (try generalize List.length (List.filterMap _ _) = ln9); k_extra "gen")
  k_with "getAttr ref" => (k_here; k_dflt (refine' get_own (by first | (k_asm) | fail) (by first | (k_asm) | fail) (by first | (k_inst) | fail) (by first | (k_is) | fail) (by first | (k_is) | fail) (by first | (k_is) | fail) (by first | (k_is) | fail) (by first | (assumption) | fail) (by first | (rfl) | fail) ?_; k_whole))
  k_with "small" => (first | omega | (simp only [List.length_append, List.length_cons, List.length_nil]; omega))
  k_with "call builtin:list.append" => (k_here; (with_reducible show wpAny _ _ (call (Value.builtin _) [Value.ref _, _]) _ _ _); k_dflt (refine' append_led (by first | (k_asm) | fail) (by first | (k_asm) | fail) (by first | (k_upd) | fail) (by first | (k_extra "small") | fail) ?_; k_whole); intro h' F' N'; (try k_sweep))
  k_with "turn map" => (intro z hz hp9 hs; (try dsimp only [kstB]); first | (simp only [hz, hs, if_false, Bool.false_eq_true]; done) | (have hz2 := hp9 _ (.head _); dsimp only at hz2; simp only [hz, hz2, hs, if_false, Bool.false_eq_true]; done) | (have hz2 := hp9 _ (.head _); have hz3 := hp9 _ (.tail _ (.head _)); dsimp only at hz2 hz3; simp only [hz, hz2, hz3, hs, if_false, Bool.false_eq_true]; done) | (have hs2 := hs; simp only [List.contains_cons, List.contains_nil, Bool.or_false, Bool.or_eq_false_iff, beq_eq_false_iff_ne, ne_eq] at hs2; simp only [hz, hs, hs2, if_false, Bool.false_eq_true]; done) | (have hz2 := hp9 _ (.head _); dsimp only at hz2; have hs2 := hs; simp only [List.contains_cons, List.contains_nil, Bool.or_false, Bool.or_eq_false_iff, beq_eq_false_iff_ne, ne_eq] at hs2; simp only [hz, hz2, hs, hs2, if_false, Bool.false_eq_true]))
  k_with "turn end 1" => (first | refine TurnEnd.next _ (by assumption) (by assumption) ?_ ?_ (by exact fun _ hp => nomatch hp) (by k_extra "turn map") | refine TurnEnd.cont _ (by assumption) (by assumption) ?_ ?_ (by exact fun _ hp => nomatch hp) (by k_extra "turn map"))
  k_with "turn end 2" => (first | refine TurnEnd.next (_, _) (by assumption) (by assumption) ?_ ?_ (by exact fun _ hp => nomatch hp) (by k_extra "turn map") | refine TurnEnd.cont (_, _) (by assumption) (by assumption) ?_ ?_ (by exact fun _ hp => nomatch hp) (by k_extra "turn map"))
  k_with "turn end 3" => (first | refine TurnEnd.next (_, _, _) (by assumption) (by assumption) ?_ ?_ (by exact fun _ hp => nomatch hp) (by k_extra "turn map") | refine TurnEnd.cont (_, _, _) (by assumption) (by assumption) ?_ ?_ (by exact fun _ hp => nomatch hp) (by k_extra "turn map"))
  first | walk1 | exact True.intro
section

local macro_rules | `(tactic| walk_at "enterT") => `(tactic| (refine wpAny_call ?_; k_dflt (refine' code_defT ?k1 ?k2 ?k3 ?k4 ?k5 ?kA ?kF ?kK ?k6 ?k7 ?k8 ?k9 ?kB ?_ ?c2 ?c3 ?c4 ?c5; (case kA => exact rfl); (case kF => exact rfl); (case kK => assumption); (case k1 => k_asm); (case k2 => k_asm); (case k3 => k_asm); (case k4 => k_asm); (case k5 => k_asm); (case k6 => k_is); (case k7 => k_is); (case k8 => ktr_room); (case k9 => exact BindsTo.of_eq rfl); (case c5 => decide); (case kB => exact locs rfl); (case c2 => exact rfl); (case c3 => exact rfl); (case c4 => exact rfl); k_whole; intro g' L' h' FG' F' N' B' X' T' D'; (try dsimp only); (try k_fold)); (try generalize List.length (List.filterMap _ _) = ln9)))
theorem words15 : True := by
  k_with "call ref" => (k_here; (with_reducible show wpAny _ _ (call (Value.ref 114) _) _ _ _); k_dflt (refine' positions_bad (by first | (k_asm) | fail) (by first | (k_asm) | fail) (by first | (k_asm) | fail) (by first | (k_asm) | fail) (by first | (k_asm) | fail) (by first | (rfl) | fail) (by first | (show _ + _ < _; k_extra "room") | fail) (by first | (show _ + _ < _; k_extra "room") | fail) (by first | (assumption) | fail) (by first | (assumption) | fail) (by first | (assumption) | fail) (by first | (assumption) | fail) (by first | (assumption) | fail) (by first | (assumption) | fail) (by first | (assumption) | fail) (by first | (assumption) | fail) (by first | (assumption) | fail) (by first | (assumption) | fail) ?_; k_whole); intro g9 e9 D9 es9 ne9 tk9 news9 h9 tk8 FG9 R9 u9 hm9 hg9 hs9; refine Stop.intro ?_)
  exact True.intro
theorem get_message {prog : Program} {w : World} {A : Around} {E : Value → Shared → Prop} {s : Shared} {h₀ : Heap} {L e D : Addr} {m : Str → Option Value} {news : List (Addr × Obj)} {oe : Obj} {fs : Array Value} {es : List DictEntry} {ne : Nat} {msg : Str} {tk : Tok} {expr : Bool} {Q : Value → Shared → Prop}
    (F : Fr h₀ L s.heap m) (X₀ : (hd.heap_39 w.params).In h₀) (N : News h₀ L s.heap news) (he : (e, oe) ∈ news) (hc : oe.cls = .ref 51) (hdi : oe.dict = some D) (hdat : oe.data = .fields fs) (hD : (D, dictOf es ne) ∈ news)
    (hg : getL (Str.ofString "message") es = some (some (.str msg tk))) (h : Q (.str msg tk) { s with toks := s.toks + 1 }) : wpAny (model prog w) A (getAttr (.ref e) (Str.ofString "message") expr) Q E s :=
  get_exc (od := some (dictOf es ne)) (X₀.keeps F.keep) ⟨(N _ he).1, hc, by unfold notCls; rw [hdat], by rw [hdi]; exact (N _ hD).1⟩ (rf_ga _) (rf_gt _) (rf_mro _) (rf_get _ hg) rfl h
theorem words16 : True := by
  k_with "getAttr ref" => (k_here; k_dflt (refine' get_message (by first | (k_asm) | fail) (by first | (k_asm) | fail) (by first | (k_asm) | fail) (by first | (exact .head _) | fail) (by first | (assumption) | fail) (by first | (assumption) | fail) (by first | (assumption) | fail) (by first | (exact .tail _ (by assumption)) | fail) (by first | (assumption) | fail) ?_; k_whole))
  exact True.intro
section
variable {w : World} {mean : ExcName → Option Value} {mg mb : Str → Option Value} {dp un : Nat} {gd : Option (List Code)} {cn : Str} {cs : Scope} {a : Addr} {ccd : Value} {cl : List (Str × Addr)} {outer : List Env} {A₀ : Around} {base h₀ : Heap} {L : Addr} {m : Str → Option Value} {s : Shared} {Q E : Value → Shared → Prop} {news : List (Addr × Obj)}
theorem said_bad {x dx l : Addr} {es : List DictEntry} {ne nl nn : Nat} {tn tkk : Tok} {vs : List Value} {ds : List (Option Int)} {nv : Value}
    (B : Below A₀ base [] h₀) (F : Fr h₀ L s.heap m) (X : (hd.heap_39 w.params).In h₀) (N : News h₀ L s.heap news) (T : Top hd.view_39 (looseW hd.view_39 []) mean mg mb h₀) (hk : cs.kind = .function) (hd0 : dp + 9 < recursionLimit) (hu : un + 172 < cLine)
    (XB : (hd.heap_39 w.params).In base) (TB : Top hd.view_39 (looseW hd.view_39 []) mean mg mb base)
    (hx : (x, instObj 181 dx) ∈ news) (hdx : (dx, dictOf es ne) ∈ news) (hkd : getL (Str.ofString "kind") es = some (some (.str (Str.ofString "integer") tkk))) (hit : getL (Str.ofString "items") es = some (some (.ref l))) (hl : (l, listOf vs.toArray nl) ∈ news) (hi : OIs vs ds) (hlen : ds.length < 1000) (hnn : nn < 1000) (hok1 : outsOf ds ≠ []) (hok2 : placesOf ds ≠ [])
    (hret : ∀ (tk9 : Tok) (news' : List (Addr × Obj)) (h' : Heap) (tk' : Nat), Fr h₀ L h' m → News h₀ L h' news' → (∀ p ∈ news, p ∈ news') → Q (.str (msgOf ds) tk9) { s with heap := h', toks := tk' }) :
    wpAny (model PySem.Challenge.rw_ov0054_01.row.prog w) (ktrTop dp un gd cn cs L a ccd cl []) (call (.ref 241) [.ref x, .int (nn : Int) tn, nv]) Q E s := by
  revert X XB; k_fill; intro X XB
  walk_at "enterT"
  rename Fr _ _ _ _ => F1
  replace F1 : Fr _ _ _ (fun y => List.lookup y [(Str.ofString "names", nv), (Str.ofString "count", .int (nn : Int) tn), (Str.ofString "ix", .ref x)]) := F1
  k_steps
  rename Below _ _ _ _ => KB
  rename (Fr h₀ L _ m) => FG
  rename KtsDicts _ _ => KD
  rename Fr _ _ _ _ => F7
  rename RaisedD _ _ _ _ _ _ _ _ => R7
  rename Heap.UpToSlots _ _ => u7
  rename (getL (Str.ofString "message") _ = _) => hg7
  refine Stop.of (caughtD R7 F7 KB u7 XB TB KD (rf_name _) (rf_kts _) ?_)
  intro h8 g8 tk8 oe8 fs8 T8 F8 N8 hc8 hdi8 hdat8 hoff8 K8 X8 P8 D8
  rename (∀ p ∈ news, p ∈ _) => hs7
  k_steps
  exact ⟨g8, _, _, _, T8, by assumption, by assumption, fun kF kN => hret _ _ _ _ kF kN (fun p hp => .tail _ (hs7 p hp))⟩
end

end
theorem anew30 : True := by
  w_top off
  k_with_none
  k_with "gen" => (refine cut_genF ?_; intro q9 hq9)
  k_with "CutEnd" => (refine cut_in (by assumption) ?_)
  k_with "allLt" => (first | assumption | (rename _ ∧ _ => h9; obtain ⟨h91, h92⟩ := h9; k_extra "allLt"))
  k_with "call builtin:len" => (k_here; (with_reducible show wpAny _ _ (call (Value.builtin "len") [Value.ref _]) _ _ _); k_dflt (refine' len_led (by first | (k_asm) | fail) (by first | (k_mem) | fail) (by first | (omega) | fail) ?_; k_whole))
  k_with "exec For" => (k_here; (rename Fr _ _ _ _ => lF'); (with_unfolding_all refine' For_invVF lF' (by first | (k_dflt (exact rfl)) | fail) (by first | (k_dflt (exact rfl)) | fail) ?_; k_whole))
  k_with "exec For Name Attribute cons nil" => (walk_at "exec For")
  k_with "exec For Name Name cons nil" => (walk_at "exec For")
  k_with "exec For Name Call cons nil" => (walk_at "exec For")
  k_with "room" => (first | omega | (dsimp only [ktrTop, Around.deeper, Around.in1] at *; omega))
  k_with "enter" => (refine wpAny_call ?_; k_dflt cell_enter; (try generalize List.length (List.filterMap _ _) = ln9); k_extra "gen")
  k_with "getAttr ref" => (k_here; k_dflt (refine' get_own (by first | (k_asm) | fail) (by first | (k_asm) | fail) (by first | (k_inst) | fail) (by first | (k_is) | fail) (by first | (k_is) | fail) (by first | (k_is) | fail) (by first | (k_is) | fail) (by first | (assumption) | fail) (by first | (rfl) | fail) ?_; k_whole))
  k_with "small" => (first | omega | (simp only [List.length_append, List.length_cons, List.length_nil]; omega))
  k_with "call builtin:list.append" => (k_here; (with_reducible show wpAny _ _ (call (Value.builtin _) [Value.ref _, _]) _ _ _); k_dflt (refine' append_led (by first | (k_asm) | fail) (by first | (k_asm) | fail) (by first | (k_upd) | fail) (by first | (k_extra "small") | fail) ?_; k_whole); intro h' F' N'; (try k_sweep))
  k_with "turn map" => (intro z hz hp9 hs; (try dsimp only [kstB]); first | (simp only [hz, hs, if_false, Bool.false_eq_true]; done) | (have hz2 := hp9 _ (.head _); dsimp only at hz2; simp only [hz, hz2, hs, if_false, Bool.false_eq_true]; done) | (have hz2 := hp9 _ (.head _); have hz3 := hp9 _ (.tail _ (.head _)); dsimp only at hz2 hz3; simp only [hz, hz2, hz3, hs, if_false, Bool.false_eq_true]; done) | (have hs2 := hs; simp only [List.contains_cons, List.contains_nil, Bool.or_false, Bool.or_eq_false_iff, beq_eq_false_iff_ne, ne_eq] at hs2; simp only [hz, hs, hs2, if_false, Bool.false_eq_true]; done) | (have hz2 := hp9 _ (.head _); dsimp only at hz2; have hs2 := hs; simp only [List.contains_cons, List.contains_nil, Bool.or_false, Bool.or_eq_false_iff, beq_eq_false_iff_ne, ne_eq] at hs2; simp only [hz, hz2, hs, hs2, if_false, Bool.false_eq_true]))
  k_with "turn end 1" => (first | refine TurnEnd.next _ (by assumption) (by assumption) ?_ ?_ (by exact fun _ hp => nomatch hp) (by k_extra "turn map") | refine TurnEnd.cont _ (by assumption) (by assumption) ?_ ?_ (by exact fun _ hp => nomatch hp) (by k_extra "turn map"))
  k_with "turn end 2" => (first | refine TurnEnd.next (_, _) (by assumption) (by assumption) ?_ ?_ (by exact fun _ hp => nomatch hp) (by k_extra "turn map") | refine TurnEnd.cont (_, _) (by assumption) (by assumption) ?_ ?_ (by exact fun _ hp => nomatch hp) (by k_extra "turn map"))
  k_with "turn end 3" => (first | refine TurnEnd.next (_, _, _) (by assumption) (by assumption) ?_ ?_ (by exact fun _ hp => nomatch hp) (by k_extra "turn map") | refine TurnEnd.cont (_, _, _) (by assumption) (by assumption) ?_ ?_ (by exact fun _ hp => nomatch hp) (by k_extra "turn map"))
  first | walk1 | exact True.intro
section
theorem words17 : True := by
  k_with "sub" => (intro p9 hp9; repeat (first | exact hp9 | refine List.Mem.tail _ ?_))
  k_with "len" => (first | assumption | omega | (simp only [List.length_map, List.length_append, List.length_cons, List.length_nil, List.length_range]; omega))
  k_with "ix" => (first | exact Ix.missing (by k_mem) (by k_mem) (by assumption) | exact Ix.null (by k_mem) (by k_mem) (by assumption) | exact Ix.logical (by k_mem) (by k_mem) (by assumption) (by assumption) (by k_mem) (by assumption) (by k_extra "len") | exact Ix.integer (by k_mem) (by k_mem) (by assumption) (by assumption) (by k_mem) (by assumption) (by k_extra "len") (by assumption) | exact Ix.double (by k_mem) (by k_mem) (by assumption) (by assumption) (by k_mem) (by assumption) (by k_extra "len") (by assumption) | exact Ix.character (by k_mem) (by k_mem) (by assumption) (by assumption) (by k_mem) (by assumption) (by k_extra "len"))
  k_with "call ref" => (k_here; (with_reducible show wpAny _ _ (call (Value.ref 206) _) _ _ _); k_dflt (refine' logical_ok (by first | (k_asm) | fail) (by first | (k_asm) | fail) (by first | (k_asm) | fail) (by first | (k_asm) | fail) (by first | (k_asm) | fail) (by first | (first | assumption | rfl) | fail) (by first | (first | exact Nat.le_of_ble_eq_true rfl | (show _ + _ < _; k_extra "room")) | fail) (by first | (first | exact Nat.le_of_ble_eq_true rfl | (show _ + _ < _; k_extra "room")) | fail) (by first | (k_mem) | fail) (by first | (k_extra "len") | fail) ?_; k_whole); intro x9 dx9 l9 es9 ne9 nl9 tk9 h9 tk8 F9 N9 hkd9 hit9 hx9 hdx9 hl9; (try dsimp only))
  k_with "call ref" => (k_here; (with_reducible show wpAny _ _ (call (Value.ref 213) _) _ _ _); k_dflt (refine' integer_ok (by first | (k_asm) | fail) (by first | (k_asm) | fail) (by first | (k_asm) | fail) (by first | (k_asm) | fail) (by first | (k_asm) | fail) (by first | (first | assumption | rfl) | fail) (by first | (first | exact Nat.le_of_ble_eq_true rfl | (show _ + _ < _; k_extra "room")) | fail) (by first | (first | exact Nat.le_of_ble_eq_true rfl | (show _ + _ < _; k_extra "room")) | fail) (by first | (k_mem) | fail) (by first | (k_extra "len") | fail) ?_; k_whole); intro x9 dx9 l9 es9 ne9 nl9 tk9 h9 tk8 F9 N9 hkd9 hit9 hx9 hdx9 hl9; (try dsimp only))
  k_with "call ref" => (k_here; (with_reducible show wpAny _ _ (call (Value.ref 241) _) _ _ _); k_dflt (refine' said_ok (by first | (k_asm) | fail) (by first | (k_asm) | fail) (by first | (k_asm) | fail) (by first | (k_asm) | fail) (by first | (k_asm) | fail) (by first | (first | assumption | rfl) | fail) (by first | (first | exact Nat.le_of_ble_eq_true rfl | (show _ + _ < _; k_extra "room")) | fail) (by first | (first | exact Nat.le_of_ble_eq_true rfl | (show _ + _ < _; k_extra "room")) | fail) (by first | (exact NamesAre.mono (by assumption) (by k_extra "sub")) | fail) (by first | (k_extra "ix") | fail) (by first | (first | assumption | omega) | fail) ?_; k_whole); intro t9 r9 ws9 nr9 nt9 h9 tk9 F9 N9 hne9 hne8 hi9; (try dsimp only))
  k_with "subscriptTail" => (k_here; (with_reducible show wpAny _ _ (subscriptTail _ _ (Value.ref _) (Value.int _ _)) _ _ _); (with_unfolding_all refine' item_oi (by first | (k_dflt (k_asm)) | fail) (by first | (k_dflt (k_mem)) | fail) (by first | (k_dflt (assumption)) | fail) (by first | (k_dflt (omega)) | fail) (by first | (k_dflt (omega)) | fail) (by first | (k_dflt (omega)) | fail) ?_ (by first | (k_dflt (with_unfolding_all rfl)) | fail); k_whole); intro v9 d9 hd9 hv9; cases hv9)
  k_with "compareOp NotEq ref ref" => (k_here; (with_reducible show wpAny _ _ (compareOp CmpOp.NotEq (Value.ref _) (Value.ref _)) _ _ _); k_dflt (refine' ois_ne_nil (ks := []) (by first | (k_asm) | fail) (by first | (k_mem) | fail) (by first | (assumption) | fail) (by first | (k_mem) | fail) (by first | (show _ + _ < _; k_extra "room") | fail) ?_; k_whole))
  k_with "compareOp Eq ref ref" => (k_here; (with_reducible show wpAny _ _ (compareOp CmpOp.Eq (Value.ref _) (Value.ref _)) _ _ _); k_dflt (refine' said_eq (by first | (k_asm) | fail) (by first | (k_mem) | fail) (by first | (k_mem) | fail) (by first | (assumption) | fail) (by first | (k_mem) | fail) (by first | (k_mem) | fail) (by first | (assumption) | fail) (by first | (show _ + _ < _; k_extra "room") | fail) ?_; k_whole))
  exact True.intro
theorem news_tail {h₀ h : Heap} {L : Addr} {p q : Addr × Obj} {l : List (Addr × Obj)} (N : News h₀ L h (p :: q :: l)) : News h₀ L h ([q] ++ l) := fun x hx => N x (.tail _ hx)
section
variable {w : World} {mean : ExcName → Option Value} {mg mb : Str → Option Value} {dp un : Nat} {gd : Option (List Code)} {cn : Str} {cs : Scope} {a : Addr} {ccd : Value} {cl : List (Str × Addr)} {outer : List Env} {A₀ : Around} {base h₀ : Heap} {L : Addr} {m : Str → Option Value} {s : Shared} {Q E : Value → Shared → Prop} {news : List (Addr × Obj)}
theorem truths_ok {l : Addr} {vs : List Value} {ts : List (Option Int)} {nl nn : Nat} {tn : Tok} {nv : Value} {nm : Option (List (Option Str))} (B : Below A₀ base outer h₀) (F : Fr h₀ L s.heap m) (X : (hd.heap_39 w.params).In h₀) (N : News h₀ L s.heap news) (T : Top hd.view_39 (looseW hd.view_39 []) mean mg mb h₀) (hk : cs.kind = .function) (hd0 : dp + 8 < recursionLimit) (hu : un + 164 < cLine) (hl : (l, listOf vs.toArray nl) ∈ news) (hi : OIs vs ts) (hm : ∀ d ∈ ts, d = some 0 ∨ d = some 1 ∨ d = none) (hlen : ts.length < 100) (hnm : NamesAre news nv nm) (hnn : nn < 100)
    (hret : ∀ (h' : Heap) (tk' : Nat), Fr h₀ L h' m → News h₀ L h' news → Q (.bool true) { s with heap := h', toks := tk' }) : wpAny (model PySem.Challenge.rw_ov0054_01.row.prog w) (ktrTop dp un gd cn cs L a ccd cl outer) (call (.ref 248) [.ref l, .int (nn : Int) tn, nv]) Q E s := by
  revert X; k_fill; intro X
  have hvl := hi.length
  k_extra "enter"
  rename Fr _ _ _ _ => F1
  replace F1 : Fr _ _ _ (fun y => List.lookup y [(Str.ofString "names", nv), (Str.ofString "count", .int (nn : Int) tn), (Str.ofString "truths", .ref l)]) := F1
  k_steps
  · refine Stop.of ?_
    rename Fr _ _ _ _ => F1
    rename News _ _ _ _ => N1
    rename IsRange _ _ _ _ _ _ _ _ => R1
    have hN : truthN ts nn = 0 := by unfold truthN; rw [if_pos (by assumption)]
    refine for_range (σ := List Value × Nat) (n := 0) (fun c => [(_, listOf c.1.toArray c.2)]) (fun _ => []) [Str.ofString "held"] (fun i c => OIs c.1 ((List.range i).flatMap (wholeTurn ts))) ([], 0) rfl R1 (small_range (n := 0) (by omega)) (size_range 0) F1 (news_tail N1) ?_ ?_ ?_ ?_ ?_
    · exact ledOff1 (by k_all)
    · exact fun _ hp => nomatch hp
    · exact OIs.nil
    · clear F1 N1 R1
      intro i k t c u rest h tk hi' hk' hP hsub hoff F N
      exact absurd hi' (Nat.not_lt_zero _)
    · clear F1 N1 R1
      intro c u h tk hP hoff F N
      dsimp only [kstB, List.cons_append, List.nil_append] at F N
      have ho := hoff _ (.head _)
      dsimp only at ho
      have hok : outsOf (wholesOf ts nn) = [] ∨ placesOf (wholesOf ts nn) = [] := .inl (wholes_outs ts nn)
      have hP2 : OIs c.1 (wholesOf ts nn) := by unfold wholesOf; rw [hN]; exact hP
      have hl2 := hP2.length
      have hwl : (wholesOf ts nn).length < 300 := by rw [← hl2]; have h1 := hP.length; have h2 := flat_len _ (wholeTurn_len ts) (truthN ts nn); rw [hN] at h2; rw [h1]; omega
      k_steps
      exact retB (hret _ _ (by assumption) (news_sub (by assumption) (by k_extra "sub"))) (by rw [truths_law hm]; exact decide_eq_true rfl)
  · refine Stop.of ?_
    rename Fr _ _ _ _ => F1
    rename News _ _ _ _ => N1
    rename IsRange _ _ _ _ _ _ _ _ => R1
    have hne : ts.length ≠ 0 := fun e => absurd (List.length_eq_zero_iff.mp e) (by assumption)
    have hN : truthN ts nn = max nn ts.length := by unfold truthN; rw [if_neg (by assumption)]
    rw [show (if (vs.length : Int) > (nn : Int) then (vs.length : Int) else (nn : Int)) = ((max nn ts.length : Nat) : Int) by split <;> omega] at R1
    refine for_range (σ := List Value × Nat) (fun c => [(_, listOf c.1.toArray c.2)]) (fun _ => []) [Str.ofString "held"] (fun i c => OIs c.1 ((List.range i).flatMap (wholeTurn ts))) ([], 0) rfl R1 (small_range (by omega)) (size_range _) F1 (news_tail N1) ?_ ?_ ?_ ?_ ?_
    · exact ledOff1 (by k_all)
    · exact fun _ hp => nomatch hp
    · exact OIs.nil
    · clear F1 N1 R1
      intro i k t c u rest h tk hi' hk' hP hsub hoff F N
      have hki : k = (i : Int) := by omega
      subst hki
      dsimp only [kstB, List.cons_append, List.nil_append] at F N
      have ho := hoff _ (.head _)
      dsimp only at ho
      have hcl : c.1.length < 1000 := by have h1 := hP.length; have h2 := flat_len _ (wholeTurn_len ts) i; omega
      have hl' := hsub _ hl
      have hfm := fmod_in (i : Int) (b := (vs.length : Int)) (by omega)
      have e1 : (Int.fmod (i : Int) (vs.length : Int)).toNat = i % ts.length := by rw [fmod_nat, hvl]; exact Int.toNat_natCast _
      k_steps
      all_goals rename (_[_]? = some _) => hd9
      all_goals rw [e1] at hd9
      · k_extra "turn end 2"
        · rw [flat_range_succ, show wholeTurn ts i = [none] by simp only [wholeTurn, hd9]]; exact hP.snoc .none
        · exact ledOff1 ho
      · k_extra "turn end 2"
        · rw [flat_range_succ, show wholeTurn ts i = [some ((i : Int) + 1)] by simp only [wholeTurn, hd9]; rw [if_pos (by first | assumption | omega)]]; exact hP.snoc (.some _ _)
        · exact ledOff1 ho
      · k_extra "turn end 2"
        · rw [flat_range_succ, show wholeTurn ts i = [] by simp only [wholeTurn, hd9]; rw [if_neg (by first | assumption | omega)], List.append_nil]; exact hP
        · exact ledOff1 ho
    · clear F1 N1 R1
      intro c u h tk hP hoff F N
      dsimp only [kstB, List.cons_append, List.nil_append] at F N
      have ho := hoff _ (.head _)
      dsimp only at ho
      have hok : outsOf (wholesOf ts nn) = [] ∨ placesOf (wholesOf ts nn) = [] := .inl (wholes_outs ts nn)
      have hP2 : OIs c.1 (wholesOf ts nn) := by unfold wholesOf; rw [hN]; exact hP
      have hl2 := hP2.length
      have hwl : (wholesOf ts nn).length < 300 := by rw [← hl2]; have h1 := hP.length; have h2 := flat_len _ (wholeTurn_len ts) (truthN ts nn); rw [hN] at h2; rw [h1]; omega
      k_steps
      exact retB (hret _ _ (by assumption) (news_sub (by assumption) (by k_extra "sub"))) (by rw [truths_law hm]; exact decide_eq_true rfl)
end

end
theorem anew31 : True := by
  w_top off
  k_with_none
  k_with "gen" => (refine cut_genF ?_; intro q9 hq9)
  k_with "CutEnd" => (refine cut_in (by assumption) ?_)
  k_with "allLt" => (first | assumption | (rename _ ∧ _ => h9; obtain ⟨h91, h92⟩ := h9; k_extra "allLt"))
  k_with "call builtin:len" => (k_here; (with_reducible show wpAny _ _ (call (Value.builtin "len") [Value.ref _]) _ _ _); k_dflt (refine' len_led (by first | (k_asm) | fail) (by first | (k_mem) | fail) (by first | (omega) | fail) ?_; k_whole))
  k_with "exec For" => (k_here; (rename Fr _ _ _ _ => lF'); (with_unfolding_all refine' For_invVF lF' (by first | (k_dflt (exact rfl)) | fail) (by first | (k_dflt (exact rfl)) | fail) ?_; k_whole))
  k_with "exec For Name Attribute cons nil" => (walk_at "exec For")
  k_with "exec For Name Name cons nil" => (walk_at "exec For")
  k_with "exec For Name Call cons nil" => (walk_at "exec For")
  k_with "room" => (first | omega | (dsimp only [ktrTop, Around.deeper, Around.in1] at *; omega))
  k_with "enter" => (refine wpAny_call ?_; k_dflt cell_enter; (try generalize List.length (List.filterMap _ _) = ln9); k_extra "gen")
  k_with "getAttr ref" => (k_here; k_dflt (refine' get_own (by first | (k_asm) | fail) (by first | (k_asm) | fail) (by first | (k_inst) | fail) (by first | (k_is) | fail) (by first | (k_is) | fail) (by first | (k_is) | fail) (by first | (k_is) | fail) (by first | (assumption) | fail) (by first | (rfl) | fail) ?_; k_whole))
  k_with "small" => (first | omega | (simp only [List.length_append, List.length_cons, List.length_nil]; omega))
  k_with "call builtin:list.append" => (k_here; (with_reducible show wpAny _ _ (call (Value.builtin _) [Value.ref _, _]) _ _ _); k_dflt (refine' append_led (by first | (k_asm) | fail) (by first | (k_asm) | fail) (by first | (k_upd) | fail) (by first | (k_extra "small") | fail) ?_; k_whole); intro h' F' N'; (try k_sweep))
  k_with "turn map" => (intro z hz hp9 hs; (try dsimp only [kstB]); first | (simp only [hz, hs, if_false, Bool.false_eq_true]; done) | (have hz2 := hp9 _ (.head _); dsimp only at hz2; simp only [hz, hz2, hs, if_false, Bool.false_eq_true]; done) | (have hz2 := hp9 _ (.head _); have hz3 := hp9 _ (.tail _ (.head _)); dsimp only at hz2 hz3; simp only [hz, hz2, hz3, hs, if_false, Bool.false_eq_true]; done) | (have hs2 := hs; simp only [List.contains_cons, List.contains_nil, Bool.or_false, Bool.or_eq_false_iff, beq_eq_false_iff_ne, ne_eq] at hs2; simp only [hz, hs, hs2, if_false, Bool.false_eq_true]; done) | (have hz2 := hp9 _ (.head _); dsimp only at hz2; have hs2 := hs; simp only [List.contains_cons, List.contains_nil, Bool.or_false, Bool.or_eq_false_iff, beq_eq_false_iff_ne, ne_eq] at hs2; simp only [hz, hz2, hs, hs2, if_false, Bool.false_eq_true]))
  k_with "turn end 1" => (first | refine TurnEnd.next _ (by assumption) (by assumption) ?_ ?_ (by exact fun _ hp => nomatch hp) (by k_extra "turn map") | refine TurnEnd.cont _ (by assumption) (by assumption) ?_ ?_ (by exact fun _ hp => nomatch hp) (by k_extra "turn map"))
  k_with "turn end 2" => (first | refine TurnEnd.next (_, _) (by assumption) (by assumption) ?_ ?_ (by exact fun _ hp => nomatch hp) (by k_extra "turn map") | refine TurnEnd.cont (_, _) (by assumption) (by assumption) ?_ ?_ (by exact fun _ hp => nomatch hp) (by k_extra "turn map"))
  k_with "turn end 3" => (first | refine TurnEnd.next (_, _, _) (by assumption) (by assumption) ?_ ?_ (by exact fun _ hp => nomatch hp) (by k_extra "turn map") | refine TurnEnd.cont (_, _, _) (by assumption) (by assumption) ?_ ?_ (by exact fun _ hp => nomatch hp) (by k_extra "turn map"))
  first | walk1 | exact True.intro
section
theorem words18 : True := by
  k_with "sub" => (intro p9 hp9; repeat (first | exact hp9 | refine List.Mem.tail _ ?_))
  k_with "len" => (first | assumption | omega | (simp only [List.length_map, List.length_append, List.length_cons, List.length_nil, List.length_range]; omega))
  k_with "ix" => (first | exact Ix.missing (by k_mem) (by k_mem) (by assumption) | exact Ix.null (by k_mem) (by k_mem) (by assumption) | exact Ix.logical (by k_mem) (by k_mem) (by assumption) (by assumption) (by k_mem) (by assumption) (by k_extra "len") | exact Ix.integer (by k_mem) (by k_mem) (by assumption) (by assumption) (by k_mem) (by assumption) (by k_extra "len") (by assumption) | exact Ix.double (by k_mem) (by k_mem) (by assumption) (by assumption) (by k_mem) (by assumption) (by k_extra "len") (by assumption) | exact Ix.character (by k_mem) (by k_mem) (by assumption) (by assumption) (by k_mem) (by assumption) (by k_extra "len"))
  k_with "call ref" => (k_here; (with_reducible show wpAny _ _ (call (Value.ref 206) _) _ _ _); k_dflt (refine' logical_ok (by first | (k_asm) | fail) (by first | (k_asm) | fail) (by first | (k_asm) | fail) (by first | (k_asm) | fail) (by first | (k_asm) | fail) (by first | (first | assumption | rfl) | fail) (by first | (first | exact Nat.le_of_ble_eq_true rfl | (show _ + _ < _; k_extra "room")) | fail) (by first | (first | exact Nat.le_of_ble_eq_true rfl | (show _ + _ < _; k_extra "room")) | fail) (by first | (k_mem) | fail) (by first | (k_extra "len") | fail) ?_; k_whole); intro x9 dx9 l9 es9 ne9 nl9 tk9 h9 tk8 F9 N9 hkd9 hit9 hx9 hdx9 hl9; (try dsimp only))
  k_with "call ref" => (k_here; (with_reducible show wpAny _ _ (call (Value.ref 213) _) _ _ _); k_dflt (refine' integer_ok (by first | (k_asm) | fail) (by first | (k_asm) | fail) (by first | (k_asm) | fail) (by first | (k_asm) | fail) (by first | (k_asm) | fail) (by first | (first | assumption | rfl) | fail) (by first | (first | exact Nat.le_of_ble_eq_true rfl | (show _ + _ < _; k_extra "room")) | fail) (by first | (first | exact Nat.le_of_ble_eq_true rfl | (show _ + _ < _; k_extra "room")) | fail) (by first | (k_mem) | fail) (by first | (k_extra "len") | fail) ?_; k_whole); intro x9 dx9 l9 es9 ne9 nl9 tk9 h9 tk8 F9 N9 hkd9 hit9 hx9 hdx9 hl9; (try dsimp only))
  k_with "call ref" => (k_here; (with_reducible show wpAny _ _ (call (Value.ref 241) _) _ _ _); k_dflt (refine' said_ok (by first | (k_asm) | fail) (by first | (k_asm) | fail) (by first | (k_asm) | fail) (by first | (k_asm) | fail) (by first | (k_asm) | fail) (by first | (first | assumption | rfl) | fail) (by first | (first | exact Nat.le_of_ble_eq_true rfl | (show _ + _ < _; k_extra "room")) | fail) (by first | (first | exact Nat.le_of_ble_eq_true rfl | (show _ + _ < _; k_extra "room")) | fail) (by first | (exact NamesAre.mono (by assumption) (by k_extra "sub")) | fail) (by first | (k_extra "ix") | fail) (by first | (first | assumption | omega) | fail) ?_; k_whole); intro t9 r9 ws9 nr9 nt9 h9 tk9 F9 N9 hne9 hne8 hi9; (try dsimp only))
  k_with "call ref" => (k_here; (with_reducible show wpAny _ _ (call (Value.ref 114) _) _ _ _); k_dflt (refine' positions_ok (by first | (k_asm) | fail) (by first | (k_asm) | fail) (by first | (k_asm) | fail) (by first | (k_asm) | fail) (by first | (k_asm) | fail) (by first | (first | assumption | rfl) | fail) (by first | (first | exact Nat.le_of_ble_eq_true rfl | (show _ + _ < _; k_extra "room")) | fail) (by first | (first | exact Nat.le_of_ble_eq_true rfl | (show _ + _ < _; k_extra "room")) | fail) (by first | (exact NamesAre.mono (by assumption) (by k_extra "sub")) | fail) (by first | (k_extra "ix") | fail) (by first | (first | assumption | omega) | fail) ?_; k_whole); intro t9 r9 ws9 nr9 nt9 h9 tk9 F9 N9 hne9 hne8 hi9; (try dsimp only))
  k_with "CompSrc" => (refine Stop.intro ?_)
  k_with "CompSrcT" => (refine Stop.intro ?_)
  k_with "CompEnd" => (refine Stop.intro ?_)
  k_with "compareOp Eq ref ref" => (k_here; (with_reducible show wpAny _ _ (compareOp CmpOp.Eq (Value.ref _) (Value.ref _)) _ _ _); k_dflt (first | (refine' ois_eq_nil (ks := []) (by first | (k_asm) | fail) (by first | (k_mem) | fail) (by first | (assumption) | fail) (by first | (k_mem) | fail) (by first | (show _ + _ < _; k_extra "room") | fail) ?_; k_whole) | (refine' ke_eq_ints (by first | (exact News.isList (by assumption) (by k_mem)) | fail) (by first | (exact News.isList (by assumption) (by k_mem)) | fail) (by first | (assumption) | fail) (by first | (assumption) | fail) (by first | (show _ + _ < _; k_extra "room") | fail) ?_; k_whole)))
  k_with "compareOp NotEq ref ref" => (k_here; (with_reducible show wpAny _ _ (compareOp CmpOp.NotEq (Value.ref _) (Value.ref _)) _ _ _); k_dflt (refine' said_ne_same (by first | (k_asm) | fail) (by first | (k_mem) | fail) (by first | (k_mem) | fail) (by first | (assumption) | fail) (by first | (k_mem) | fail) (by first | (k_mem) | fail) (by first | (assumption) | fail) (by first | (show _ + _ < _; k_extra "room") | fail) (by first | (assumption) | fail) ?_; k_whole))
  k_with "compareOp In int ref" => (k_here; (with_reducible show wpAny _ _ (compareOp CmpOp.In (Value.int _ _) (Value.ref _)) _ _ _); k_dflt (refine' ints_in (by first | (k_asm) | fail) (by first | (k_mem) | fail) (by first | (assumption) | fail) (by first | (show _ + _ < _; k_extra "room") | fail) ?_; k_whole); intro c9 hc9)
  k_with "subscriptTail" => (k_here; (with_reducible show wpAny _ _ (subscriptTail _ _ (Value.ref _) (Value.int _ _)) _ _ _); first | (with_unfolding_all refine' item_tup (by first | (k_dflt (k_asm)) | fail) (by first | (k_dflt (k_mem)) | fail) (by first | (k_dflt (decide)) | fail) (by first | (k_dflt (decide)) | fail) (by first | (k_dflt (exact rfl)) | fail) ?_ (by first | (k_dflt (with_unfolding_all rfl)) | fail); k_whole) | (with_unfolding_all refine' item_getD (by first | (k_dflt (k_asm)) | fail) (by first | (k_dflt (k_mem)) | fail) (by first | (k_dflt (assumption)) | fail) (by first | (k_dflt (omega)) | fail) (by first | (k_dflt (omega)) | fail) (by first | (k_dflt (omega)) | fail) ?_ (by first | (k_dflt (with_unfolding_all rfl)) | fail); k_whole; intro t9))
  k_with "call builtin:sorted" => (k_here; (with_reducible show wpAny _ _ (call (Value.builtin _) [Value.ref _]) _ _ _); k_dflt (refine' kso_sorted (by first | (k_asm) | fail) (by first | (k_asm) | fail) (by first | (exact News.isList (by assumption) (by k_mem)) | fail) (by first | (assumption) | fail) (by first | (k_extra "len") | fail) ?_; k_whole); intro D' v' n' c' h' F' N' l1 i' e' p' o' b'; (try k_sweep))
  k_with "binaryOp Add ref ref" => (k_here; (with_reducible show wpAny _ _ (binaryOp _ (Value.ref _) (Value.ref _)) _ _ _); k_dflt (refine' kmk_add_ints (by first | (k_asm) | fail) (by first | (k_asm) | fail) (by first | (exact News.isList (by assumption) (by k_mem)) | fail) (by first | (exact News.isList (by assumption) (by k_mem)) | fail) (by first | (exact OIs.ints (ois_of (by assumption) (by assumption))) | fail) (by first | (exact OIs.ints (ois_of (by assumption) (by assumption))) | fail) ?_ (by first | ((rw [sizeLine_eq]; simp only [List.length_map]; omega)) | fail)); intro D' ws' h' F' N' l1 hI'; (try k_sweep))
  exact True.intro
theorem ints_get {vs : List Value} {as : List Int} (h : IntsAre vs as) {i : Nat} {v : Value} (e : vs.toArray[i]? = some v) : ∃ a t, as[i]? = some a ∧ v = .int a t := by
  rw [List.getElem?_toArray] at e
  have hl := IntsAre.length h
  have hi : i < as.length := by rw [← hl]; exact (List.getElem?_eq_some_iff.mp e).1
  obtain ⟨t, e'⟩ := h.get i as[i] (List.getElem?_eq_getElem hi)
  rw [e] at e'; cases e'
  exact ⟨_, t, List.getElem?_eq_getElem hi, rfl⟩
section
variable {w : World} {mean : ExcName → Option Value} {mg mb : Str → Option Value} {dp un : Nat} {gd : Option (List Code)} {cn : Str} {cs : Scope} {a : Addr} {ccd : Value} {cl : List (Str × Addr)} {outer : List Env} {A₀ : Around} {base h₀ : Heap} {L : Addr} {m : Str → Option Value} {s : Shared} {Q E : Value → Shared → Prop} {news : List (Addr × Obj)}
theorem negatives_ok {l : Addr} {vs : List Value} {as : List Int} {nl nn : Nat} {tn : Tok} {nv : Value} {nm : Option (List (Option Str))} (B : Below A₀ base outer h₀) (F : Fr h₀ L s.heap m) (X : (hd.heap_39 w.params).In h₀) (N : News h₀ L s.heap news) (T : Top hd.view_39 (looseW hd.view_39 []) mean mg mb h₀) (hk : cs.kind = .function) (hd0 : dp + 8 < recursionLimit) (hu : un + 164 < cLine) (hl : (l, listOf vs.toArray nl) ∈ news) (hi : IntsAre vs as) (hm : ∀ a ∈ as, 1 ≤ a) (hlen : as.length < 20) (hnm : NamesAre news nv nm) (hnn : nn < 20)
    (hret : ∀ (h' : Heap) (tk' : Nat), Fr h₀ L h' m → News h₀ L h' news → Q (.bool true) { s with heap := h', toks := tk' }) : wpAny (model PySem.Challenge.rw_ov0054_01.row.prog w) (ktrTop dp un gd cn cs L a ccd cl outer) (call (.ref 253) [.ref l, .int (nn : Int) tn, nv]) Q E s := by
  revert X; k_fill; intro X
  have hvl := hi.length
  walk_at "enterC"
  rename Fr _ _ _ _ => F1
  replace F1 : Fr _ _ _ (fun y => if y = Str.ofString "names" then some nv else none) := F1
  have hoi : OIs vs (as.map some) := OIs.ofInts hi
  k_steps
  · exact hret _ _ (by assumption) (news_sub (by assumption) (by k_extra "sub"))
  refine Stop.of ?_
  have hne : as ≠ [] := fun e => by subst e; exact absurd rfl (by assumption)
  rename Fr _ _ _ _ => F1
  rename News _ _ _ _ => N1
  rename IsRange _ _ _ _ _ _ _ _ => R1
  refine LCg.CompSrc.range rfl F1 N1 R1 (small_range (by omega)) (size_range _) (by rw [sizeLine_eq]; omega) fun g9 => ?_
  refine comp_inv (J := fun i ys nw => nw = _ ∧ OIs ys (truthsOf as i)) ⟨rfl, OIs.nil⟩ ?_ ?_
  · clear F1 N1 R1
    rintro i v ys nw I oI C oC D m₂ h tk E' hin ⟨t, rfl⟩ ⟨rfl, hys⟩ hC hx F N off ne
    have hzi : (0 : Int) + (i : Int) = (i : Int) := by omega
    rw [hzi] at hx
    k_steps
    all_goals rename (_ = true ↔ _) => hc9
    · refine Stop.of (LCg.CompEnd.intro (by assumption) (by assumption) _ (fun p hp => hp) off trivial ⟨rfl, ?_⟩)
      unfold truthsOf at hys ⊢
      rw [List.range_succ, List.map_append, List.map_singleton, if_pos (hc9.mp (by assumption))]
      exact hys.snoc (.some _ _)
    · refine Stop.of (LCg.CompEnd.intro (by assumption) (by assumption) _ (fun p hp => hp) off trivial ⟨rfl, ?_⟩)
      unfold truthsOf at hys ⊢
      rw [List.range_succ, List.map_append, List.map_singleton, if_neg (fun q => by rw [hc9.mpr q] at *; contradiction)]
      exact hys.snoc (.some _ _)
  rintro ys nw ⟨rfl, hys⟩ D h tk F N off
  clear F1 N1 R1
  have hyl : ys.length = nn := by have := hys.length; unfold truthsOf at this; simpa using this
  k_steps
  refine Stop.of ?_
  rename Fr _ _ _ _ => F1
  rename News _ _ _ _ => N1
  refine LCg.CompSrc.ledger rfl F1 N1 (by k_mem) (by rw [sizeLine_eq, List.size_toArray]; omega) fun g9 => ?_
  refine comp_inv (J := fun i ys nw => nw = _ ∧ IntsAre ys ((as.take i).map fun a => 0 - a)) ⟨rfl, .nil⟩ ?_ ?_
  · clear F1 N1
    rintro i v ys nw I oI C oC D m₂ h tk E' hin hv ⟨rfl, hys⟩ hC hx F N off ne
    obtain ⟨a, ta, ha, rfl⟩ := ints_get hi hv
    have ham := hm a (List.mem_of_getElem? ha)
    k_steps
    refine Stop.of (LCg.CompEnd.intro (by assumption) (by assumption) _ (fun p hp => hp) off (.inr ⟨_, by k_mem, rfl, _, rfl⟩) ⟨rfl, ?_⟩)
    rw [take_snoc ha, List.map_append]
    exact IntsAre.snoc hys _ _
  rintro ys2 nw ⟨rfl, hys2⟩ D2 h tk F N off
  clear F1 N1
  rw [List.size_toArray, hvl, List.take_length] at hys2
  have hn2 : OIs ys2 (negsOf as) := by have := OIs.ofInts hys2; rwa [List.map_map] at this
  have hyl2 : ys2.length = as.length := by have := hys2.length; simpa using this
  have hok1 : outsOf (negsOf as) = [] ∨ placesOf (negsOf as) = [] := .inr (negs_places hm)
  have hdl : (negsOf as).length = as.length := by unfold negsOf; simp
  have hdl2 : (truthsOf as nn).length = nn := by unfold truthsOf; simp
  have e1 : wholePlaces (negsOf as) nn = logicalPlaces (truthsOf as nn) nn := by rw [negs_law hm hne, truths_left]
  k_steps
  refine Stop.of ?_
  rename Fr _ _ _ _ => F1
  rename News _ _ _ _ => N1
  rename (IntsAre _ _) => hss
  rename (List.Perm _ as) => hpp
  rename (List.Pairwise _ _) => hso
  have hsl := hpp.length_eq
  rename List Int => ss
  have hvl2 := IntsAre.length hss
  refine LCt.CompSrcT.ledger rfl F1 N1 (by k_mem) (by rw [sizeLine_eq, List.size_toArray]; omega) fun g9 => ?_
  refine compT_inv (J := fun i ys nw => nw = _ ∧ IntsAre ys ((ss.take i).filter fun (x : Int) => decide (x ≤ (nn : Int)))) ⟨rfl, .nil⟩ ?_ ?_
  · clear F1 N1
    rintro i v ys nw I oI C oC D m₂ h tk E' hin hv ⟨rfl, hys⟩ hC hx F N off ne
    obtain ⟨a, ta, ha, rfl⟩ := ints_get hss hv
    k_steps
    · refine Stop.of (LCg.CompEnd.intro (by assumption) (by assumption) _ (fun p hp => hp) off (.inr ⟨_, by k_mem, rfl, _, rfl⟩) ⟨rfl, ?_⟩)
      rw [take_snoc ha, List.filter_append]
      simp only [List.filter_cons, List.filter_nil, decide_eq_true (by assumption : a ≤ (nn : Int)), if_true]
      exact IntsAre.snoc hys _ _
    · refine Stop.of (LCg.CompEnd.intro (by assumption) (by assumption) _ (fun p hp => hp) off (.inr ⟨_, by k_mem, rfl, _, rfl⟩) ⟨rfl, ?_⟩)
      rw [take_snoc ha, List.filter_append]
      simp only [List.filter_cons, List.filter_nil, decide_eq_false (by assumption : ¬ a ≤ (nn : Int)), if_false, Bool.false_eq_true, List.append_nil]
      exact hys
  rintro ys3 nw ⟨rfl, hys3⟩ D3 h tk F N off
  clear F1 N1
  rw [List.size_toArray, hvl2, List.take_length] at hys3
  generalize hkp : (ss.filter fun (x : Int) => decide (x ≤ (nn : Int))) = kp at hys3
  have hkl : kp.length ≤ as.length := by rw [← hkp, ← hsl]; exact List.length_filter_le _ _
  have hyl3 := IntsAre.length hys3
  k_steps
  refine Stop.of ?_
  rename Fr _ _ _ _ => F1
  rename News _ _ _ _ => N1
  rename IsRange _ _ _ _ _ _ _ _ => R1
  refine LCt.CompSrcT.range rfl F1 N1 R1 (small_range (by omega)) (size_range _) (by rw [sizeLine_eq]; omega) fun g9 => ?_
  refine compT_inv (J := fun i ys nw => nw = _ ∧ IntsAre ys ((List.range i).flatMap (onceTurn kp))) ⟨rfl, .nil⟩ ?_ ?_
  · clear F1 N1 R1
    rintro i v ys nw I oI C oC D m₂ h tk E' hin ⟨t, rfl⟩ ⟨rfl, hys⟩ hC hx F N off ne
    have hzi : (0 : Int) + (i : Int) = (i : Int) := by omega
    rw [hzi] at hx
    k_steps
    · refine Stop.of (LCg.CompEnd.intro (by assumption) (by assumption) _ (fun p hp => hp) off trivial ⟨rfl, ?_⟩)
      rw [flat_range_succ, show onceTurn kp i = [kp.getD i 0] from if_pos (.inl (by omega))]
      exact IntsAre.snoc hys _ _
    · rename (kp.getD _ 0 ≠ kp.getD _ 0) => hd7
      rw [Int.toNat_natCast, show ((i : Int) - 1).toNat = i - 1 by omega] at hd7
      refine Stop.of (LCg.CompEnd.intro (by assumption) (by assumption) _ (fun p hp => hp) off trivial ⟨rfl, ?_⟩)
      rw [flat_range_succ, show onceTurn kp i = [kp.getD i 0] from if_pos (.inr hd7)]
      exact IntsAre.snoc hys _ _
    · rename (kp.getD _ 0 = kp.getD _ 0) => hd7
      rw [Int.toNat_natCast, show ((i : Int) - 1).toNat = i - 1 by omega] at hd7
      refine Stop.of (LCg.CompEnd.intro (by assumption) (by assumption) _ (fun p hp => hp) off trivial ⟨rfl, ?_⟩)
      rw [flat_range_succ, show onceTurn kp i = [] from if_neg (by rintro (q | q); omega; exact q hd7), List.append_nil]
      exact hys
  rintro ys4 nw ⟨rfl, hys4⟩ D4 h tk F N off
  clear F1 N1 R1
  have hys4 : IntsAre ys4 (onceOf kp) := hys4
  have hoo : OIs ys4 ((onceOf kp).map some) := OIs.ofInts hys4
  have hyl4 := IntsAre.length hys4
  have hl1 := left_len as nn
  have hl2 := once_len kp
  have hkm : ∀ a ∈ onceOf kp, 1 ≤ a := fun a ha => by
    have h1 := once_mem (by rw [← hkp]; exact hso.filter _) ha
    rw [← hkp] at h1
    exact hm a (hpp.mem_iff.mp (List.mem_filter.mp h1).1)
  have hok2 : outsOf ((onceOf kp).map some) = [] ∨ placesOf ((onceOf kp).map some) = [] := .inl (pos_outs hkm)
  have e2 := negs_law hm hne nn
  have e3 := pos_law hkm nn
  k_steps
  · exact hret _ _ (by assumption) (news_sub (by assumption) (by k_extra "sub"))
  · rename (List.Perm _ (_ ++ _)) => hq
    rename (List.Pairwise _ _) => hqs
    have hj := joined_law hm hpp hso (by rw [hkp]; exact hq) hqs
    refine retB (hret _ _ (by assumption) (news_sub (by assumption) (by k_extra "sub"))) (decide_eq_true (hj.trans ?_))
    rw [show ((nn : Int) - 0).toNat = nn by omega]
    simp [rangeKs]
end

end
theorem anew32 : True := by
  w_top off
  k_with_none
  k_with "gen" => (refine cut_genF ?_; intro q9 hq9)
  k_with "CutEnd" => (refine cut_in (by assumption) ?_)
  k_with "allLt" => (first | assumption | (rename _ ∧ _ => h9; obtain ⟨h91, h92⟩ := h9; k_extra "allLt"))
  k_with "call builtin:len" => (k_here; (with_reducible show wpAny _ _ (call (Value.builtin "len") [Value.ref _]) _ _ _); k_dflt (refine' len_led (by first | (k_asm) | fail) (by first | (k_mem) | fail) (by first | (omega) | fail) ?_; k_whole))
  k_with "exec For" => (k_here; (rename Fr _ _ _ _ => lF'); (with_unfolding_all refine' For_invVF lF' (by first | (k_dflt (exact rfl)) | fail) (by first | (k_dflt (exact rfl)) | fail) ?_; k_whole))
  k_with "exec For Name Attribute cons nil" => (walk_at "exec For")
  k_with "exec For Name Name cons nil" => (walk_at "exec For")
  k_with "exec For Name Call cons nil" => (walk_at "exec For")
  k_with "room" => (first | omega | (dsimp only [ktrTop, Around.deeper, Around.in1] at *; omega))
  k_with "enter" => (refine wpAny_call ?_; k_dflt cell_enter; (try generalize List.length (List.filterMap _ _) = ln9); k_extra "gen")
  k_with "getAttr ref" => (k_here; k_dflt (refine' get_own (by first | (k_asm) | fail) (by first | (k_asm) | fail) (by first | (k_inst) | fail) (by first | (k_is) | fail) (by first | (k_is) | fail) (by first | (k_is) | fail) (by first | (k_is) | fail) (by first | (assumption) | fail) (by first | (rfl) | fail) ?_; k_whole))
  k_with "small" => (first | omega | (simp only [List.length_append, List.length_cons, List.length_nil]; omega))
  k_with "call builtin:list.append" => (k_here; (with_reducible show wpAny _ _ (call (Value.builtin _) [Value.ref _, _]) _ _ _); k_dflt (refine' append_led (by first | (k_asm) | fail) (by first | (k_asm) | fail) (by first | (k_upd) | fail) (by first | (k_extra "small") | fail) ?_; k_whole); intro h' F' N'; (try k_sweep))
  k_with "turn map" => (intro z hz hp9 hs; (try dsimp only [kstB]); first | (simp only [hz, hs, if_false, Bool.false_eq_true]; done) | (have hz2 := hp9 _ (.head _); dsimp only at hz2; simp only [hz, hz2, hs, if_false, Bool.false_eq_true]; done) | (have hz2 := hp9 _ (.head _); have hz3 := hp9 _ (.tail _ (.head _)); dsimp only at hz2 hz3; simp only [hz, hz2, hz3, hs, if_false, Bool.false_eq_true]; done) | (have hs2 := hs; simp only [List.contains_cons, List.contains_nil, Bool.or_false, Bool.or_eq_false_iff, beq_eq_false_iff_ne, ne_eq] at hs2; simp only [hz, hs, hs2, if_false, Bool.false_eq_true]; done) | (have hz2 := hp9 _ (.head _); dsimp only at hz2; have hs2 := hs; simp only [List.contains_cons, List.contains_nil, Bool.or_false, Bool.or_eq_false_iff, beq_eq_false_iff_ne, ne_eq] at hs2; simp only [hz, hz2, hs, hs2, if_false, Bool.false_eq_true]))
  k_with "turn end 1" => (first | refine TurnEnd.next _ (by assumption) (by assumption) ?_ ?_ (by exact fun _ hp => nomatch hp) (by k_extra "turn map") | refine TurnEnd.cont _ (by assumption) (by assumption) ?_ ?_ (by exact fun _ hp => nomatch hp) (by k_extra "turn map"))
  k_with "turn end 2" => (first | refine TurnEnd.next (_, _) (by assumption) (by assumption) ?_ ?_ (by exact fun _ hp => nomatch hp) (by k_extra "turn map") | refine TurnEnd.cont (_, _) (by assumption) (by assumption) ?_ ?_ (by exact fun _ hp => nomatch hp) (by k_extra "turn map"))
  k_with "turn end 3" => (first | refine TurnEnd.next (_, _, _) (by assumption) (by assumption) ?_ ?_ (by exact fun _ hp => nomatch hp) (by k_extra "turn map") | refine TurnEnd.cont (_, _, _) (by assumption) (by assumption) ?_ ?_ (by exact fun _ hp => nomatch hp) (by k_extra "turn map"))
  first | walk1 | exact True.intro
section
theorem words19 : True := by
  k_with "sub" => (intro p9 hp9; repeat (first | exact hp9 | refine List.Mem.tail _ ?_))
  k_with "len" => (first | assumption | omega | (simp only [List.length_map, List.length_append, List.length_cons, List.length_nil, List.length_range]; omega))
  k_with "ix" => (first | exact Ix.missing (by k_mem) (by k_mem) (by assumption) | exact Ix.null (by k_mem) (by k_mem) (by assumption) | exact Ix.logical (by k_mem) (by k_mem) (by assumption) (by assumption) (by k_mem) (by assumption) (by k_extra "len") | exact Ix.integer (by k_mem) (by k_mem) (by assumption) (by assumption) (by k_mem) (by assumption) (by k_extra "len") (by assumption) | exact Ix.double (by k_mem) (by k_mem) (by assumption) (by assumption) (by k_mem) (by assumption) (by k_extra "len") (by assumption) | exact Ix.character (by k_mem) (by k_mem) (by assumption) (by assumption) (by k_mem) (by assumption) (by k_extra "len"))
  k_with "call ref" => (k_here; (with_reducible show wpAny _ _ (call (Value.ref 227) _) _ _ _); k_dflt (refine' character_ok (by first | (k_asm) | fail) (by first | (k_asm) | fail) (by first | (k_asm) | fail) (by first | (k_asm) | fail) (by first | (k_asm) | fail) (by first | (first | assumption | rfl) | fail) (by first | (first | exact Nat.le_of_ble_eq_true rfl | (show _ + _ < _; k_extra "room")) | fail) (by first | (first | exact Nat.le_of_ble_eq_true rfl | (show _ + _ < _; k_extra "room")) | fail) (by first | (k_mem) | fail) (by first | (k_extra "len") | fail) ?_; k_whole); intro x9 dx9 l9 es9 ne9 nl9 tk9 h9 tk8 F9 N9 hkd9 hit9 hx9 hdx9 hl9; (try dsimp only))
  k_with "call ref" => (k_here; (with_reducible show wpAny _ _ (call (Value.ref 213) _) _ _ _); k_dflt (refine' integer_ok (by first | (k_asm) | fail) (by first | (k_asm) | fail) (by first | (k_asm) | fail) (by first | (k_asm) | fail) (by first | (k_asm) | fail) (by first | (first | assumption | rfl) | fail) (by first | (first | exact Nat.le_of_ble_eq_true rfl | (show _ + _ < _; k_extra "room")) | fail) (by first | (first | exact Nat.le_of_ble_eq_true rfl | (show _ + _ < _; k_extra "room")) | fail) (by first | (k_mem) | fail) (by first | (k_extra "len") | fail) ?_; k_whole); intro x9 dx9 l9 es9 ne9 nl9 tk9 h9 tk8 F9 N9 hkd9 hit9 hx9 hdx9 hl9; (try dsimp only))
  k_with "call ref" => (k_here; (with_reducible show wpAny _ _ (call (Value.ref 241) _) _ _ _); k_dflt (refine' said_ok (by first | (k_asm) | fail) (by first | (k_asm) | fail) (by first | (k_asm) | fail) (by first | (k_asm) | fail) (by first | (k_asm) | fail) (by first | (first | assumption | rfl) | fail) (by first | (first | exact Nat.le_of_ble_eq_true rfl | (show _ + _ < _; k_extra "room")) | fail) (by first | (first | exact Nat.le_of_ble_eq_true rfl | (show _ + _ < _; k_extra "room")) | fail) (by first | (exact NamesAre.mono (by assumption) (by k_extra "sub")) | fail) (by first | (k_extra "ix") | fail) (by first | (first | assumption | omega) | fail) ?_; k_whole); intro t9 r9 ws9 nr9 nt9 h9 tk9 F9 N9 hne9 hne8 hi9; (try dsimp only))
  k_with "compareOp Eq ref ref" => (k_here; (with_reducible show wpAny _ _ (compareOp CmpOp.Eq (Value.ref _) (Value.ref _)) _ _ _); k_dflt (refine' said_eq (by first | (k_asm) | fail) (by first | (k_mem) | fail) (by first | (k_mem) | fail) (by first | (assumption) | fail) (by first | (k_mem) | fail) (by first | (k_mem) | fail) (by first | (assumption) | fail) (by first | (show _ + _ < _; k_extra "room") | fail) ?_; k_whole))
  k_with "subscriptTail" => (k_here; (with_reducible show wpAny _ _ (subscriptTail _ _ (Value.ref _) (Value.int _ _)) _ _ _); (with_unfolding_all refine' item_os (by first | (k_dflt (k_asm)) | fail) (by first | (k_dflt (k_mem)) | fail) (by first | (k_dflt (assumption)) | fail) (by first | (k_dflt (omega)) | fail) (by first | (k_dflt (omega)) | fail) (by first | (k_dflt (omega)) | fail) ?_ (by first | (k_dflt (with_unfolding_all rfl)) | fail); k_whole); intro v9 d9 hd9 hv9)
  k_with "compareOp Eq" => (k_here; (with_reducible show wpAny _ _ (compareOp CmpOp.Eq _ (Value.str _ _)) _ _ _); k_dflt (refine' osv_eq (by first | (k_asm) | fail) (by first | (assumption) | fail) (OSv.some _ _) (by first | ((intro z9 hz9; refine strs_at (by assumption) (by assumption) hz9)) | fail) (by first | ((intro z9 hz9; cases hz9; assumption)) | fail) (by first | (show _ + _ < _; k_extra "room") | fail) ?_; k_whole))
  k_with "turn maps" => (intro z hz hp9 hs; (try dsimp only [kstB]); have hs2 := hs; simp only [List.contains_cons, List.contains_nil, Bool.or_false, Bool.or_eq_false_iff, beq_eq_false_iff_ne, ne_eq] at hs2; simp only [hz, hs, hs2, List.contains_nil, if_false, Bool.false_eq_true])
  exact True.intro
section
variable {w : World} {mean : ExcName → Option Value} {mg mb : Str → Option Value} {dp un : Nat} {gd : Option (List Code)} {cn : Str} {cs : Scope} {a : Addr} {ccd : Value} {cl : List (Str × Addr)} {outer : List Env} {A₀ : Around} {base h₀ : Heap} {L : Addr} {m : Str → Option Value} {s : Shared} {Q E : Value → Shared → Prop} {news : List (Addr × Obj)}
theorem names_ok {l : Addr} {vs : List Value} {ts : List (Option Str)} {nl nn : Nat} {tn : Tok} {nv : Value} {nm : Option (List (Option Str))} (B : Below A₀ base outer h₀) (F : Fr h₀ L s.heap m) (X : (hd.heap_39 w.params).In h₀) (N : News h₀ L s.heap news) (T : Top hd.view_39 (looseW hd.view_39 []) mean mg mb h₀) (hk : cs.kind = .function) (hd0 : dp + 8 < recursionLimit) (hu : un + 164 < cLine) (hl : (l, listOf vs.toArray nl) ∈ news) (hs : OSs vs ts) (hso : StrsOk ts) (hlen : ts.length < 20) (hnm : NamesAre news nv nm) (hn : ∀ ns, nm = some ns → ns.length = nn ∧ StrsOk ns) (hnn : nn < 20)
    (hret : ∀ (h' : Heap) (tk' : Nat), Fr h₀ L h' m → News h₀ L h' news → Q (.bool true) { s with heap := h', toks := tk' }) : wpAny (model PySem.Challenge.rw_ov0054_01.row.prog w) (ktrTop dp un gd cn cs L a ccd cl outer) (call (.ref 260) [.ref l, .int (nn : Int) tn, nv]) Q E s := by
  revert X; k_fill; intro X
  have hvl := hs.length
  k_extra "enter"
  rename Fr _ _ _ _ => F1
  replace F1 : Fr _ _ _ (fun y => List.lookup y [(Str.ofString "names", nv), (Str.ofString "count", .int (nn : Int) tn), (Str.ofString "texts", .ref l)]) := F1
  k_steps
  refine Stop.of ?_
  rename Fr _ _ _ _ => F1
  rename News _ _ _ _ => N1
  refine for_list (σ := List Value × Nat) (fun c => [(_, listOf c.1.toArray c.2)]) (fun _ => []) [Str.ofString "first", Str.ofString "at"] (fun i c => OIs c.1 ((ts.take i).map fun d => backOf nm d nn nn)) ([], 0) rfl hl F1 N1 ?_ ?_ ?_ ?_ ?_
  · exact ledOff1 (by k_all)
  · exact fun _ hp => nomatch hp
  · exact OIs.nil
  · clear F1 N1
    intro i v c u rest h tk hv hP hsub hoff F N
    dsimp only [kstB, List.cons_append, List.nil_append] at F N
    have ho := hoff _ (.head _)
    dsimp only at ho
    obtain ⟨d, hd, hvd⟩ := hs.get hv
    have hcl : c.1.length < 1000 := by have h1 := hP.length; have h2 := (List.getElem?_eq_some_iff.mp hv).1; simp only [List.length_map, List.length_take] at h1; omega
    rw [take_snoc hd, List.map_append]
    have hnm' := hnm.mono hsub
    k_steps
    refine Stop.of ?_
    rename Fr _ _ _ _ => F2
    rename News _ _ _ _ => N2
    rename IsRange _ _ _ _ _ _ _ _ => R2
    refine for_range (σ := Value) (n := nn) (fun _ => []) (fun c => [(Str.ofString "first", c)]) [] (fun i c => OIv c (backOf nm d nn i)) Value.none rfl R2 (small_down (by omega) (by omega) (by omega) (by omega)) (by rw [rangeSize_downNat]; omega) F2 N2 ?_ ?_ ?_ ?_ ?_
    · exact fun _ hp => nomatch hp
    · intro p hp; rw [List.mem_singleton.mp hp]; rfl
    · exact .none
    · clear F2 N2 R2
      intro i k t c2 u2 rest2 h2 tk2 hi2 hk2 hP2 hsub2 hoff2 F3 N3
      have hkk : k = ((nn - 1 - i : Nat) : Int) := by omega
      subst hkk
      dsimp only [kstB, List.cons_append, List.nil_append] at F3 N3
      have hnm2 := hnm'.mono fun p hp => hsub2 p (.tail _ hp)
      have hbk : ∀ b, hitAt nm d (nn - 1 - i) = b → backOf nm d nn (i + 1) = if b = true then some (((nn - 1 - i : Nat) : Int) + 1) else backOf nm d nn i := fun b hb => by
        show (if hitAt nm d (nn - 1 - i) = true then _ else _) = _
        rw [hb]
      cases hnm2 with
      | none =>
        k_steps
        refine TurnEnd.next (c' := c2) (F := by assumption) (N := by assumption) ?_ ?_ ?_ ?_
        · rw [hbk false (hit_none _ _), if_neg (by decide)]; exact hP2
        · exact fun _ hp => nomatch hp
        · intro p hp; rw [List.mem_singleton.mp hp]; rfl
        · k_extra "turn map"
      | @some l2 vs2 nl2 ns hl2 hs2 hlen2 =>
        have hnn2 := (hn ns rfl).1
        have hsn := (hn ns rfl).2
        cases hvd with
        | none =>
          k_steps
          refine TurnEnd.next (c' := c2) (F := by assumption) (N := by assumption) ?_ ?_ ?_ ?_
          · rw [hbk false (hit_lack _ _), if_neg (by decide)]; exact hP2
          · exact fun _ hp => nomatch hp
          · intro p hp; rw [List.mem_singleton.mp hp]; rfl
          · k_extra "turn map"
        | some x tx =>
          have hxo : PyData.strOk x = true := hso x (List.mem_of_getElem? hd)
          k_steps
          · rename ((_ != _) = true) => hx9
            rename (_[_]? = some _) => hd9
            rename (_ = some x) => he9
            rw [Int.toNat_natCast] at hd9
            refine' TurnEnd.next (c' := .int (((nn - 1 - i : Nat) : Int) + 1) _) (F := by assumption) (N := by assumption) ?P ?o ?ps ?m
            case ps => intro p hp; rw [List.mem_singleton.mp hp]; rfl
            case P => rw [hbk true (by rw [hit_some (bne_iff_ne.mp hx9) hd9]; exact decide_eq_true he9), if_pos rfl]; exact .some _ _
            case o => exact fun _ hp => nomatch hp
            case m => k_extra "turn map"
          · rename ((_ != _) = true) => hx9
            rename (_[_]? = some _) => hd9
            rename (¬ _ = some x) => he9
            rw [Int.toNat_natCast] at hd9
            refine TurnEnd.next (c' := c2) (F := by assumption) (N := by assumption) ?_ ?_ ?_ ?_
            · rw [hbk false (by rw [hit_some (bne_iff_ne.mp hx9) hd9]; exact decide_eq_false he9), if_neg (by decide)]; exact hP2
            · exact fun _ hp => nomatch hp
            · intro p hp; rw [List.mem_singleton.mp hp]; rfl
            · k_extra "turn map"
          · rename ((_ != _) = false) => hx9
            refine TurnEnd.next (c' := c2) (F := by assumption) (N := by assumption) ?_ ?_ ?_ ?_
            · rw [hbk false (hit_empty (by simpa using hx9)), if_neg (by decide)]; exact hP2
            · exact fun _ hp => nomatch hp
            · intro p hp; rw [List.mem_singleton.mp hp]; rfl
            · k_extra "turn map"
    · clear F2 N2 R2
      intro c2 u2 h2 tk2 hP2 hoff2 F3 N3
      dsimp only [kstB, envOf, List.cons_append, List.nil_append] at F3 N3
      k_steps
      refine TurnEnd.next (c' := (c.1 ++ [c2], c.2 + 1)) (F := by assumption) (N := by assumption) ?_ ?_ ?_ ?_
      · exact hP.snoc hP2
      · exact ledOff1 ho
      · exact fun _ hp => nomatch hp
      · walk_at "turn maps"
  · clear F1 N1
    intro c u h tk hP hoff F N
    dsimp only [kstB, List.cons_append, List.nil_append] at F N
    have ho := hoff _ (.head _)
    dsimp only at ho
    rw [take_all hvl] at hP
    obtain ⟨h1, h2⟩ := names_law (fun ns e => (hn ns e).1) ts
    have hok : outsOf (ts.map fun d => backOf nm d nn nn) = [] ∨ placesOf (ts.map fun d => backOf nm d nn nn) = [] := .inl h1
    have hl2 := hP.length
    rw [List.length_map] at hl2
    k_steps
    exact retB (hret _ _ (by assumption) (news_sub (by assumption) (by k_extra "sub"))) (by rw [h2]; exact decide_eq_true rfl)
end

end
theorem anew33 : True := by
  w_top off
  k_with_none
  k_with "gen" => (refine cut_genF ?_; intro q9 hq9)
  k_with "CutEnd" => (refine cut_in (by assumption) ?_)
  k_with "allLt" => (first | assumption | (rename _ ∧ _ => h9; obtain ⟨h91, h92⟩ := h9; k_extra "allLt"))
  k_with "call builtin:len" => (k_here; (with_reducible show wpAny _ _ (call (Value.builtin "len") [Value.ref _]) _ _ _); k_dflt (refine' len_led (by first | (k_asm) | fail) (by first | (k_mem) | fail) (by first | (omega) | fail) ?_; k_whole))
  k_with "exec For" => (k_here; (rename Fr _ _ _ _ => lF'); (with_unfolding_all refine' For_invVF lF' (by first | (k_dflt (exact rfl)) | fail) (by first | (k_dflt (exact rfl)) | fail) ?_; k_whole))
  k_with "exec For Name Attribute cons nil" => (walk_at "exec For")
  k_with "exec For Name Name cons nil" => (walk_at "exec For")
  k_with "exec For Name Call cons nil" => (walk_at "exec For")
  k_with "room" => (first | omega | (dsimp only [ktrTop, Around.deeper, Around.in1] at *; omega))
  k_with "enter" => (refine wpAny_call ?_; k_dflt cell_enter; (try generalize List.length (List.filterMap _ _) = ln9); k_extra "gen")
  k_with "getAttr ref" => (k_here; k_dflt (refine' get_own (by first | (k_asm) | fail) (by first | (k_asm) | fail) (by first | (k_inst) | fail) (by first | (k_is) | fail) (by first | (k_is) | fail) (by first | (k_is) | fail) (by first | (k_is) | fail) (by first | (assumption) | fail) (by first | (rfl) | fail) ?_; k_whole))
  k_with "small" => (first | omega | (simp only [List.length_append, List.length_cons, List.length_nil]; omega))
  k_with "call builtin:list.append" => (k_here; (with_reducible show wpAny _ _ (call (Value.builtin _) [Value.ref _, _]) _ _ _); k_dflt (refine' append_led (by first | (k_asm) | fail) (by first | (k_asm) | fail) (by first | (k_upd) | fail) (by first | (k_extra "small") | fail) ?_; k_whole); intro h' F' N'; (try k_sweep))
  k_with "turn map" => (intro z hz hp9 hs; (try dsimp only [kstB]); first | (simp only [hz, hs, if_false, Bool.false_eq_true]; done) | (have hz2 := hp9 _ (.head _); dsimp only at hz2; simp only [hz, hz2, hs, if_false, Bool.false_eq_true]; done) | (have hz2 := hp9 _ (.head _); have hz3 := hp9 _ (.tail _ (.head _)); dsimp only at hz2 hz3; simp only [hz, hz2, hz3, hs, if_false, Bool.false_eq_true]; done) | (have hs2 := hs; simp only [List.contains_cons, List.contains_nil, Bool.or_false, Bool.or_eq_false_iff, beq_eq_false_iff_ne, ne_eq] at hs2; simp only [hz, hs, hs2, if_false, Bool.false_eq_true]; done) | (have hz2 := hp9 _ (.head _); dsimp only at hz2; have hs2 := hs; simp only [List.contains_cons, List.contains_nil, Bool.or_false, Bool.or_eq_false_iff, beq_eq_false_iff_ne, ne_eq] at hs2; simp only [hz, hz2, hs, hs2, if_false, Bool.false_eq_true]))
  k_with "turn end 1" => (first | refine TurnEnd.next _ (by assumption) (by assumption) ?_ ?_ (by exact fun _ hp => nomatch hp) (by k_extra "turn map") | refine TurnEnd.cont _ (by assumption) (by assumption) ?_ ?_ (by exact fun _ hp => nomatch hp) (by k_extra "turn map"))
  k_with "turn end 2" => (first | refine TurnEnd.next (_, _) (by assumption) (by assumption) ?_ ?_ (by exact fun _ hp => nomatch hp) (by k_extra "turn map") | refine TurnEnd.cont (_, _) (by assumption) (by assumption) ?_ ?_ (by exact fun _ hp => nomatch hp) (by k_extra "turn map"))
  k_with "turn end 3" => (first | refine TurnEnd.next (_, _, _) (by assumption) (by assumption) ?_ ?_ (by exact fun _ hp => nomatch hp) (by k_extra "turn map") | refine TurnEnd.cont (_, _, _) (by assumption) (by assumption) ?_ ?_ (by exact fun _ hp => nomatch hp) (by k_extra "turn map"))
  first | walk1 | exact True.intro
section
theorem words20 : True := by
  k_with "call ref" => (k_here; (with_reducible show wpAny _ _ (call (Value.ref 107) _) _ _ _); k_dflt (refine' extending_places_ok (by first | (k_asm) | fail) (by first | (k_asm) | fail) (by first | (k_asm) | fail) (by first | (k_asm) | fail) (by first | (k_asm) | fail) (by first | (rfl) | fail) (by first | (show _ + _ < _; k_extra "room") | fail) (by first | (show _ + _ < _; k_extra "room") | fail) (by first | (assumption) | fail) (by first | (assumption) | fail) (by first | (assumption) | fail) (by first | (assumption) | fail) (by first | (assumption) | fail) ?_; k_whole); intro r9 pa9 aa9 pv9 av9 np9 na9 nr9 h9 tk9 F9 N9 hr9 haa9 hpa9 hpv9 hav9; (try dsimp only))
  exact True.intro
section
variable {w : World} {mean : ExcName → Option Value} {mg mb : Str → Option Value} {dp un : Nat} {gd : Option (List Code)} {cn : Str} {cs : Scope} {a : Addr} {ccd : Value} {cl : List (Str × Addr)} {outer : List Env} {A₀ : Around} {base h₀ : Heap} {L : Addr} {m : Str → Option Value} {s : Shared} {Q E : Value → Shared → Prop} {news : List (Addr × Obj)}
theorem positions_ext {x dx l : Addr} {es : List DictEntry} {ne nl nn : Nat} {tn tkk : Tok} {vs : List Value} {ts : List (Option Str)} {nv : Value} {nm : Option (List (Option Str))} (B : Below A₀ base outer h₀) (F : Fr h₀ L s.heap m) (X : (hd.heap_39 w.params).In h₀) (N : News h₀ L s.heap news) (T : Top hd.view_39 (looseW hd.view_39 []) mean mg mb h₀) (hk : cs.kind = .function) (hd0 : dp + 6 < recursionLimit) (hu : un + 148 < cLine) (hx : (x, instObj 181 dx) ∈ news) (hdx : (dx, dictOf es ne) ∈ news) (hkd : getL (Str.ofString "kind") es = some (some (.str (Str.ofString "character") tkk))) (hit : getL (Str.ofString "items") es = some (some (.ref l))) (hl : (l, listOf vs.toArray nl) ∈ news) (hs : OSs vs ts) (hlen : ts.length < 1000) (hnm : NamesAre news nv nm) (hnn : nn < 1000)
    (hret : ∀ (r pa aa : Addr) (pv av : List Value) (np na nr : Nat) (h' : Heap) (tk' : Nat), Fr h₀ L h' m → News h₀ L h' ((r, tupO [.ref pa, .ref aa] nr) :: (aa, listOf av.toArray na) :: (pa, listOf pv.toArray np) :: news) → (∀ p ∈ news, p.1 ≠ r) → (∀ p ∈ news, p.1 ≠ aa) → (∀ p ∈ news, p.1 ≠ pa) → OIs pv (extAll nm nn ts).2.1 → OSs av (extAll nm nn ts).2.2 → Q (.ref r) { s with heap := h', toks := tk' }) : wpAny (model PySem.Challenge.rw_ov0054_01.row.prog w) (ktrTop dp un gd cn cs L a ccd cl outer) (call (.ref 114) [.ref x, .int (nn : Int) tn, nv, .bool true]) Q E s := by
  revert X; k_fill; intro X
  k_extra "enter"
  rename Fr _ _ _ _ => F1
  replace F1 : Fr _ _ _ (fun y => List.lookup y [(Str.ofString "extend", .bool true), (Str.ofString "names", nv), (Str.ofString "n", .int (nn : Int) tn), (Str.ofString "ix", .ref x)]) := F1
  k_steps
  exact hret _ _ _ _ _ _ _ _ _ _ (by assumption) (by assumption) (by assumption) (by assumption) (by assumption) (by assumption) (by assumption)
end

end
theorem anew34 : True := by
  w_top off
  k_with_none
  k_with "gen" => (refine cut_genF ?_; intro q9 hq9)
  k_with "CutEnd" => (refine cut_in (by assumption) ?_)
  k_with "allLt" => (first | assumption | (rename _ ∧ _ => h9; obtain ⟨h91, h92⟩ := h9; k_extra "allLt"))
  k_with "call builtin:len" => (k_here; (with_reducible show wpAny _ _ (call (Value.builtin "len") [Value.ref _]) _ _ _); k_dflt (refine' len_led (by first | (k_asm) | fail) (by first | (k_mem) | fail) (by first | (omega) | fail) ?_; k_whole))
  k_with "exec For" => (k_here; (rename Fr _ _ _ _ => lF'); (with_unfolding_all refine' For_invVF lF' (by first | (k_dflt (exact rfl)) | fail) (by first | (k_dflt (exact rfl)) | fail) ?_; k_whole))
  k_with "exec For Name Attribute cons nil" => (walk_at "exec For")
  k_with "exec For Name Name cons nil" => (walk_at "exec For")
  k_with "exec For Name Call cons nil" => (walk_at "exec For")
  k_with "room" => (first | omega | (dsimp only [ktrTop, Around.deeper, Around.in1] at *; omega))
  k_with "enter" => (refine wpAny_call ?_; k_dflt cell_enter; (try generalize List.length (List.filterMap _ _) = ln9); k_extra "gen")
  k_with "getAttr ref" => (k_here; k_dflt (refine' get_own (by first | (k_asm) | fail) (by first | (k_asm) | fail) (by first | (k_inst) | fail) (by first | (k_is) | fail) (by first | (k_is) | fail) (by first | (k_is) | fail) (by first | (k_is) | fail) (by first | (assumption) | fail) (by first | (rfl) | fail) ?_; k_whole))
  k_with "small" => (first | omega | (simp only [List.length_append, List.length_cons, List.length_nil]; omega))
  k_with "call builtin:list.append" => (k_here; (with_reducible show wpAny _ _ (call (Value.builtin _) [Value.ref _, _]) _ _ _); k_dflt (refine' append_led (by first | (k_asm) | fail) (by first | (k_asm) | fail) (by first | (k_upd) | fail) (by first | (k_extra "small") | fail) ?_; k_whole); intro h' F' N'; (try k_sweep))
  k_with "turn map" => (intro z hz hp9 hs; (try dsimp only [kstB]); first | (simp only [hz, hs, if_false, Bool.false_eq_true]; done) | (have hz2 := hp9 _ (.head _); dsimp only at hz2; simp only [hz, hz2, hs, if_false, Bool.false_eq_true]; done) | (have hz2 := hp9 _ (.head _); have hz3 := hp9 _ (.tail _ (.head _)); dsimp only at hz2 hz3; simp only [hz, hz2, hz3, hs, if_false, Bool.false_eq_true]; done) | (have hs2 := hs; simp only [List.contains_cons, List.contains_nil, Bool.or_false, Bool.or_eq_false_iff, beq_eq_false_iff_ne, ne_eq] at hs2; simp only [hz, hs, hs2, if_false, Bool.false_eq_true]; done) | (have hz2 := hp9 _ (.head _); dsimp only at hz2; have hs2 := hs; simp only [List.contains_cons, List.contains_nil, Bool.or_false, Bool.or_eq_false_iff, beq_eq_false_iff_ne, ne_eq] at hs2; simp only [hz, hz2, hs, hs2, if_false, Bool.false_eq_true]))
  k_with "turn end 1" => (first | refine TurnEnd.next _ (by assumption) (by assumption) ?_ ?_ (by exact fun _ hp => nomatch hp) (by k_extra "turn map") | refine TurnEnd.cont _ (by assumption) (by assumption) ?_ ?_ (by exact fun _ hp => nomatch hp) (by k_extra "turn map"))
  k_with "turn end 2" => (first | refine TurnEnd.next (_, _) (by assumption) (by assumption) ?_ ?_ (by exact fun _ hp => nomatch hp) (by k_extra "turn map") | refine TurnEnd.cont (_, _) (by assumption) (by assumption) ?_ ?_ (by exact fun _ hp => nomatch hp) (by k_extra "turn map"))
  k_with "turn end 3" => (first | refine TurnEnd.next (_, _, _) (by assumption) (by assumption) ?_ ?_ (by exact fun _ hp => nomatch hp) (by k_extra "turn map") | refine TurnEnd.cont (_, _, _) (by assumption) (by assumption) ?_ ?_ (by exact fun _ hp => nomatch hp) (by k_extra "turn map"))
  first | walk1 | exact True.intro
section
local macro_rules | `(tactic| walk_at "compareOp Eq ref ref") => `(tactic| (k_here; (with_reducible show wpAny _ _ (compareOp CmpOp.Eq (Value.ref _) (Value.ref _)) _ _ _); k_dflt (refine' ext_eq ?N ?z ?a ?b ?c ?d ?e ?f ?g ?h ?i ?j ?u ?_; (case N => k_asm); (case a => k_mem); (case b => k_mem); (case c => assumption); (case d => k_mem); (case e => assumption); (case f => k_mem); (case g => k_mem); (case h => assumption); (case i => k_mem); (case j => assumption); (case z => assumption); (case u => show _ + _ < _; k_extra "room"); k_whole)))
theorem words21 : True := by
  k_with "sub" => (intro p9 hp9; repeat (first | exact hp9 | refine List.Mem.tail _ ?_))
  k_with "len" => (first | assumption | omega | (simp only [List.length_map, List.length_append, List.length_cons, List.length_nil, List.length_range]; omega))
  k_with "ix" => (first | exact Ix.missing (by k_mem) (by k_mem) (by assumption) | exact Ix.null (by k_mem) (by k_mem) (by assumption) | exact Ix.logical (by k_mem) (by k_mem) (by assumption) (by assumption) (by k_mem) (by assumption) (by k_extra "len") | exact Ix.integer (by k_mem) (by k_mem) (by assumption) (by assumption) (by k_mem) (by assumption) (by k_extra "len") (by assumption) | exact Ix.double (by k_mem) (by k_mem) (by assumption) (by assumption) (by k_mem) (by assumption) (by k_extra "len") (by assumption) | exact Ix.character (by k_mem) (by k_mem) (by assumption) (by assumption) (by k_mem) (by assumption) (by k_extra "len"))
  k_with "call ref" => (k_here; (with_reducible show wpAny _ _ (call (Value.ref 227) _) _ _ _); k_dflt (refine' character_ok (by first | (k_asm) | fail) (by first | (k_asm) | fail) (by first | (k_asm) | fail) (by first | (k_asm) | fail) (by first | (k_asm) | fail) (by first | (first | assumption | rfl) | fail) (by first | (first | exact Nat.le_of_ble_eq_true rfl | (show _ + _ < _; k_extra "room")) | fail) (by first | (first | exact Nat.le_of_ble_eq_true rfl | (show _ + _ < _; k_extra "room")) | fail) (by first | (k_mem) | fail) (by first | (k_extra "len") | fail) ?_; k_whole); intro x9 dx9 l9 es9 ne9 nl9 tk9 h9 tk8 F9 N9 hkd9 hit9 hx9 hdx9 hl9; (try dsimp only))
  k_with "call ref" => (k_here; (with_reducible show wpAny _ _ (call (Value.ref 114) _) _ _ _); k_dflt (refine' positions_ext (by first | (k_asm) | fail) (by first | (k_asm) | fail) (by first | (k_asm) | fail) (by first | (k_asm) | fail) (by first | (k_asm) | fail) (by first | (rfl) | fail) (by first | (show _ + _ < _; k_extra "room") | fail) (by first | (show _ + _ < _; k_extra "room") | fail) (by first | (k_mem) | fail) (by first | (k_mem) | fail) (by first | (assumption) | fail) (by first | (assumption) | fail) (by first | (k_mem) | fail) (by first | (assumption) | fail) (by first | (k_extra "len") | fail) (by first | (exact NamesAre.mono (by assumption) (by k_extra "sub")) | fail) (by first | (omega) | fail) ?_; k_whole); intro r9 pa9 aa9 pv9 av9 np9 na9 nr9 h9 tk9 F9 N9 hr9 haa9 hpa9 hpv9 hav9; (try dsimp only))
  k_with "compareOp In str ref" => (k_here; (with_reducible show wpAny _ _ (compareOp CmpOp.In (Value.str _ _) (Value.ref _)) _ _ _); k_dflt (refine' oss_in (by first | (k_asm) | fail) (by first | (k_mem) | fail) (by first | (assumption) | fail) (by first | (assumption) | fail) (by first | (assumption) | fail) (by first | (show _ + _ < _; k_extra "room") | fail) ?_; k_whole); intro c9 hc9)
  k_with "call builtin:list.index" => (k_here; (with_reducible show wpAny _ _ (call (Value.builtin _) [Value.ref _, Value.str _ _]) _ _ _); k_dflt (refine' oss_index (by first | (k_asm) | fail) (by first | (k_mem) | fail) (by first | (assumption) | fail) (by first | ((rename (_ = true ↔ _) => hc8; exact hc8.mp (by assumption))) | fail) (by first | (omega) | fail) ?_; k_whole))
  k_with "exec While Compare cons nil" => (refine Stop.intro ?_)
  k_with "WhileStep" => (refine Stop.intro ?_)
  k_with "call type:list" => (k_here; (with_reducible show wpAny _ _ (call (Value.type _) [Value.ref _]) _ _ _); (with_unfolding_all (refine' list_copyK (by first | (k_dflt (k_asm)) | fail) (by first | (k_dflt (k_asm)) | fail) (by first | (k_dflt (exact News.isList (by assumption) (by k_mem))) | fail) ?_ (by first | (k_dflt ((rw [List.size_toArray, sizeLine_eq]; omega))) | fail); k_whole)); intro D' c' h' F' N' l1; (try k_sweep))
  exact True.intro
structure DueSt where
  dv : List Value
  dn : Nat
  av : List Value
  an : Nat
  lv : List Value
  ln : Nat
section
variable {w : World} {mean : ExcName → Option Value} {mg mb : Str → Option Value} {dp un : Nat} {gd : Option (List Code)} {cn : Str} {cs : Scope} {a : Addr} {ccd : Value} {cl : List (Str × Addr)} {outer : List Env} {A₀ : Around} {base h₀ : Heap} {L : Addr} {m : Str → Option Value} {s : Shared} {Q E : Value → Shared → Prop} {news : List (Addr × Obj)}
theorem extended_ok {l : Addr} {vs : List Value} {ts : List (Option Str)} {nl nn : Nat} {tn : Tok} {nv : Value} {nm : Option (List (Option Str))} (B : Below A₀ base outer h₀) (F : Fr h₀ L s.heap m) (X : (hd.heap_39 w.params).In h₀) (N : News h₀ L s.heap news) (T : Top hd.view_39 (looseW hd.view_39 []) mean mg mb h₀) (hk : cs.kind = .function) (hd0 : dp + 8 < recursionLimit) (hu : un + 164 < cLine) (hl : (l, listOf vs.toArray nl) ∈ news) (hs : OSs vs ts) (hso : StrsOk ts) (hlen : ts.length < 20) (hnm : NamesAre news nv nm) (hn : ∀ ns, nm = some ns → ns.length = nn ∧ StrsOk ns) (hnn : nn < 20)
    (hret : ∀ (h' : Heap) (tk' : Nat), Fr h₀ L h' m → News h₀ L h' news → Q (.bool true) { s with heap := h', toks := tk' }) : wpAny (model PySem.Challenge.rw_ov0054_01.row.prog w) (ktrTop dp un gd cn cs L a ccd cl outer) (call (.ref 267) [.ref l, .int (nn : Int) tn, nv]) Q E s := by
  revert X; k_fill; intro X
  have hvl := hs.length
  k_extra "enter"
  rename Fr _ _ _ _ => F1
  replace F1 : Fr _ _ _ (fun y => List.lookup y [(Str.ofString "names", nv), (Str.ofString "count", .int (nn : Int) tn), (Str.ofString "texts", .ref l)]) := F1
  walk1
  refine cut_stateF F1 (fun g9 L9 f h' tk' => f = Flow.next ∧ ∃ (D : Addr) (vs2 : List Value) (c2 : Nat) (ns : List (Option Str)), Fr g9 L9 h' (fun y => if y = Str.ofString "longer" then some (.ref D) else List.lookup y [(Str.ofString "names", nv), (Str.ofString "count", .int (nn : Int) tn), (Str.ofString "texts", .ref l)]) ∧ News g9 L9 h' ((D, listOf vs2.toArray c2) :: news) ∧ (∀ p ∈ news, p.1 ≠ D) ∧ OSs vs2 ns ∧ longOf nm nn = ns ++ List.replicate (nn - ns.length) (some (Str.ofString "")) ∧ ns.length ≤ nn ∧ (longOf nm nn).length = nn ∧ StrsOk (longOf nm nn)) ?_ ?_
  · intro Q9 hQ9
    have hnmc := hnm
    cases hnmc with
    | none =>
      have hlol : (longOf none nn).length = nn := by simp [longOf]
      have hsl : StrsOk (longOf none nn) := fun x hx => by
        have := List.eq_of_mem_replicate hx
        cases this; decide +kernel
      k_steps
      exact hQ9 _ _ _ ⟨rfl, _, [], _, [], by assumption, news_sub (by assumption) (by k_extra "sub"), by k_all, OSs.nil, rfl, Nat.zero_le _, hlol, hsl⟩
    | @some l2 vs2 nl2 ns hl2 hs2 hlen2 =>
      have hnn2 := (hn ns rfl).1
      have hvl2 := hs2.length
      have hlo : longOf (some ns) nn = ns ++ List.replicate (nn - ns.length) (some (Str.ofString "")) := by rw [hnn2, Nat.sub_self]; simp [longOf]
      k_steps
      exact hQ9 _ _ _ ⟨rfl, _, vs2, _, ns, by assumption, news_sub (by assumption) (by k_extra "sub"), by k_all, hs2, hlo, by omega, hnn2, (hn ns rfl).2⟩
  intro Q9 hQ9
  rintro f h' tk' ⟨rfl, D, vs2, c2, ns, F2, N2, hD, hst, hlo, hle, hlol, hsl⟩
  refine hQ9 _ _ ?_
  dsimp only
  clear F1 hQ9
  k_steps
  refine Stop.of ?_
  rename Fr _ _ _ _ => F1
  rename News _ _ _ _ => N1
  refine While_inv (J := fun k m₁ nw => ∃ (ws : List Value) (c j : Nat), m₁ = _ ∧ nw = (_, listOf ws.toArray c) :: news ∧ OSs ws (ns ++ List.replicate j (some (Str.ofString ""))) ∧ ns.length + j + k = nn) (n₀ := nn - ns.length) F1 N1 ⟨_, _, 0, rfl, rfl, by simpa using hst, by omega⟩ ?_
  rintro k m₁ nw h tk F N ⟨ws, c, j, rfl, rfl, hws, hk⟩
  clear F1 N1
  have hwl := hws.length
  simp only [List.length_append, List.length_replicate] at hwl
  k_steps
  · refine Stop.of (WhileStep.intro (by assumption) (by assumption) (n' := k - 1) (by omega) ⟨_, _, j + 1, rfl, rfl, ?_, by omega⟩)
    rw [List.replicate_succ', ← List.append_assoc]
    exact hws.snoc (.some _ _)
  refine Stop.of ?_
  have hj : j = nn - ns.length := by omega
  rw [hj, ← hlo] at hws
  rename Fr _ _ _ _ => F1
  rename News _ _ _ _ => N1
  refine for_list (σ := DueSt) (news := news) (fun c => [(_, listOf c.dv.toArray c.dn), (_, listOf c.av.toArray c.an), (_, listOf c.lv.toArray c.ln)]) (fun _ => []) []
    (fun i c => OSs c.lv ((ts.take i).foldl dueStep (longOf nm nn, [], [])).1 ∧ OIs c.dv ((ts.take i).foldl dueStep (longOf nm nn, [], [])).2.1 ∧ OSs c.av ((ts.take i).foldl dueStep (longOf nm nn, [], [])).2.2) ⟨[], 0, [], 0, ws, _⟩ rfl hl F1 N1 ?_ ?_ ?_ ?_ ?_
  · exact ledOff3 (by k_all) (by k_all) (by k_all)
  · exact fun _ hp => nomatch hp
  · exact ⟨hws, OIs.nil, OSs.nil⟩
  · clear F1 N1
    intro i v c u rest h tk hv hP hsub hoff F N
    dsimp only [kstB, List.cons_append, List.nil_append] at F N
    have ho1 := hoff _ (.head _)
    have ho2 := hoff _ (.tail _ (.head _))
    have ho3 := hoff _ (.tail _ (.tail _ (.head _)))
    dsimp only at ho1 ho2 ho3
    obtain ⟨d, hd, hvd⟩ := hs.get hv
    have hil : i < ts.length := (List.getElem?_eq_some_iff.mp hd).1
    have hdl := due_len (nm := nm) (n := nn) (ts.take i) (longOf nm nn, [], [])
    have hds := due_strs (ts.take i) (longOf nm nn, [], [])
    rw [take_snoc hd, List.foldl_append]
    generalize (ts.take i).foldl dueStep (longOf nm nn, [], []) = st at hP hdl hds
    obtain ⟨hP1, hP2, hP3⟩ := hP
    have hll := hP1.length
    have hdl2 := hP2.length
    have hal := hP3.length
    have htk : (ts.take i).length ≤ i := List.length_take_le _ _
    dsimp only [List.length_nil] at hdl
    rw [hlol] at hdl
    have hlok : StrsOk st.1 := fun x hx => (hds (some x)).1 hx |>.elim (fun q => hsl x q) fun q => hso x (List.mem_of_mem_take q)
    cases hvd with
    | none =>
      k_steps
      refine TurnEnd.next (c' := ⟨c.dv ++ [.int (c.lv.length : Int) _], c.dn + 1, c.av ++ [.none], c.an + 1, c.lv ++ [.none], c.ln + 1⟩) (F := by assumption) (N := by assumption) ?_ ?_ ?_ ?_
      · rw [due_else (by simp)]; exact ⟨hP1.snoc .none, OIs.snocZ hP2 (by omega), hP3.snoc .none⟩
      · exact ledOff3 ho1 ho2 ho3
      · exact fun _ hp => nomatch hp
      · k_extra "turn map"
    | some x t =>
      have hxo : PyData.strOk x = true := hso x (List.mem_of_getElem? hd)
      k_steps
      · rename ((_ != _) = true) => hx9
        rename (_ = true ↔ _) => hc8
        have hm9 := hc8.mp (by assumption)
        refine TurnEnd.next (c' := ⟨c.dv ++ [.int ((st.1.idxOf (some x) : Nat) : Int) _], c.dn + 1, c.av, c.an, c.lv, c.ln⟩) (F := by assumption) (N := by assumption) ?_ ?_ ?_ ?_
        · rw [due_then ⟨by simp, by simpa using bne_iff_ne.mp hx9, hm9⟩]; exact ⟨hP1, hP2.snoc (.some _ _), hP3⟩
        · exact ledOff3 ho1 ho2 ho3
        · exact fun _ hp => nomatch hp
        · k_extra "turn map"
      · rename (_ = true ↔ _) => hc8
        have hm9 : ¬ some x ∈ st.1 := fun q => by rw [hc8.mpr q] at *; contradiction
        refine TurnEnd.next (c' := ⟨c.dv ++ [.int (c.lv.length : Int) _], c.dn + 1, c.av ++ [.str x t], c.an + 1, c.lv ++ [.str x t], c.ln + 1⟩) (F := by assumption) (N := by assumption) ?_ ?_ ?_ ?_
        · rw [due_else (by simp [hm9])]; exact ⟨hP1.snoc (.some _ _), OIs.snocZ hP2 (by omega), hP3.snoc (.some _ _)⟩
        · exact ledOff3 ho1 ho2 ho3
        · exact fun _ hp => nomatch hp
        · k_extra "turn map"
      · rename ((_ != _) = false) => hx9
        have hx8 : x = Str.ofString "" := by simpa using hx9
        refine TurnEnd.next (c' := ⟨c.dv ++ [.int (c.lv.length : Int) _], c.dn + 1, c.av ++ [.str x t], c.an + 1, c.lv ++ [.str x t], c.ln + 1⟩) (F := by assumption) (N := by assumption) ?_ ?_ ?_ ?_
        · rw [due_else (by simp [hx8])]; exact ⟨hP1.snoc (.some _ _), OIs.snocZ hP2 (by omega), hP3.snoc (.some _ _)⟩
        · exact ledOff3 ho1 ho2 ho3
        · exact fun _ hp => nomatch hp
        · k_extra "turn map"
  · clear F1 N1
    intro c u h tk hP hoff F N
    dsimp only [kstB, List.cons_append, List.nil_append] at F N
    rw [take_all hvl] at hP
    have hdl := due_len (nm := nm) (n := nn) ts (longOf nm nn, [], [])
    have hds := due_strs ts (longOf nm nn, [], [])
    have hlaw : (extAll nm nn ts).2 = (ts.foldl dueStep (longOf nm nn, [], [])).2 := due_law (fun ns e => (hn ns e).1) ts
    obtain ⟨hP1, hP2, hP3⟩ := hP
    rw [← hlaw] at hP2 hP3
    have hol : StrsOk (extAll nm nn ts).2.2 := by
      rw [hlaw]
      exact fun x hx => (hds (some x)).2 hx |>.elim (fun q => nomatch q) fun q => hso x q
    k_steps
    exact hret _ _ (by assumption) (news_sub (by assumption) (by k_extra "sub"))
end

end
theorem anew35 : True := by
  w_top off
  k_with_none
  k_with "gen" => (refine cut_genF ?_; intro q9 hq9)
  k_with "CutEnd" => (refine cut_in (by assumption) ?_)
  k_with "allLt" => (first | assumption | (rename _ ∧ _ => h9; obtain ⟨h91, h92⟩ := h9; k_extra "allLt"))
  k_with "call builtin:len" => (k_here; (with_reducible show wpAny _ _ (call (Value.builtin "len") [Value.ref _]) _ _ _); k_dflt (refine' len_led (by first | (k_asm) | fail) (by first | (k_mem) | fail) (by first | (omega) | fail) ?_; k_whole))
  k_with "exec For" => (k_here; (rename Fr _ _ _ _ => lF'); (with_unfolding_all refine' For_invVF lF' (by first | (k_dflt (exact rfl)) | fail) (by first | (k_dflt (exact rfl)) | fail) ?_; k_whole))
  k_with "exec For Name Attribute cons nil" => (walk_at "exec For")
  k_with "exec For Name Name cons nil" => (walk_at "exec For")
  k_with "exec For Name Call cons nil" => (walk_at "exec For")
  k_with "room" => (first | omega | (dsimp only [ktrTop, Around.deeper, Around.in1] at *; omega))
  k_with "enter" => (refine wpAny_call ?_; k_dflt cell_enter; (try generalize List.length (List.filterMap _ _) = ln9); k_extra "gen")
  k_with "getAttr ref" => (k_here; k_dflt (refine' get_own (by first | (k_asm) | fail) (by first | (k_asm) | fail) (by first | (k_inst) | fail) (by first | (k_is) | fail) (by first | (k_is) | fail) (by first | (k_is) | fail) (by first | (k_is) | fail) (by first | (assumption) | fail) (by first | (rfl) | fail) ?_; k_whole))
  k_with "small" => (first | omega | (simp only [List.length_append, List.length_cons, List.length_nil]; omega))
  k_with "call builtin:list.append" => (k_here; (with_reducible show wpAny _ _ (call (Value.builtin _) [Value.ref _, _]) _ _ _); k_dflt (refine' append_led (by first | (k_asm) | fail) (by first | (k_asm) | fail) (by first | (k_upd) | fail) (by first | (k_extra "small") | fail) ?_; k_whole); intro h' F' N'; (try k_sweep))
  k_with "turn map" => (intro z hz hp9 hs; (try dsimp only [kstB]); first | (simp only [hz, hs, if_false, Bool.false_eq_true]; done) | (have hz2 := hp9 _ (.head _); dsimp only at hz2; simp only [hz, hz2, hs, if_false, Bool.false_eq_true]; done) | (have hz2 := hp9 _ (.head _); have hz3 := hp9 _ (.tail _ (.head _)); dsimp only at hz2 hz3; simp only [hz, hz2, hz3, hs, if_false, Bool.false_eq_true]; done) | (have hs2 := hs; simp only [List.contains_cons, List.contains_nil, Bool.or_false, Bool.or_eq_false_iff, beq_eq_false_iff_ne, ne_eq] at hs2; simp only [hz, hs, hs2, if_false, Bool.false_eq_true]; done) | (have hz2 := hp9 _ (.head _); dsimp only at hz2; have hs2 := hs; simp only [List.contains_cons, List.contains_nil, Bool.or_false, Bool.or_eq_false_iff, beq_eq_false_iff_ne, ne_eq] at hs2; simp only [hz, hz2, hs, hs2, if_false, Bool.false_eq_true]))
  k_with "turn end 1" => (first | refine TurnEnd.next _ (by assumption) (by assumption) ?_ ?_ (by exact fun _ hp => nomatch hp) (by k_extra "turn map") | refine TurnEnd.cont _ (by assumption) (by assumption) ?_ ?_ (by exact fun _ hp => nomatch hp) (by k_extra "turn map"))
  k_with "turn end 2" => (first | refine TurnEnd.next (_, _) (by assumption) (by assumption) ?_ ?_ (by exact fun _ hp => nomatch hp) (by k_extra "turn map") | refine TurnEnd.cont (_, _) (by assumption) (by assumption) ?_ ?_ (by exact fun _ hp => nomatch hp) (by k_extra "turn map"))
  k_with "turn end 3" => (first | refine TurnEnd.next (_, _, _) (by assumption) (by assumption) ?_ ?_ (by exact fun _ hp => nomatch hp) (by k_extra "turn map") | refine TurnEnd.cont (_, _, _) (by assumption) (by assumption) ?_ ?_ (by exact fun _ hp => nomatch hp) (by k_extra "turn map"))
  first | walk1 | exact True.intro
section
/-- the bucket's object: what is left, how far, the script's list -/
def Bk (K : Int) (c : Addr) (o : Obj) : Prop := ∃ (x a : Int) (tx ta : Tok) (nb : Nat), o = listOf [.int x tx, .int a ta, .ref c].toArray nb ∧ 0 ≤ x ∧ 0 ≤ a ∧ a ≤ K
theorem Bk.up {K K' : Int} {c : Addr} {o : Obj} (h : Bk K c o) (hk : K ≤ K') : Bk K' c o := by
  obtain ⟨x, a, tx, ta, nb, e, h1, h2, h3⟩ := h
  exact ⟨x, a, tx, ta, nb, e, h1, h2, Int.le_trans h3 hk⟩
section
variable {w : World} {mean : ExcName → Option Value} {mg mb : Str → Option Value} {dp un : Nat} {gd : Option (List Code)} {cn : Str} {cs : Scope} {a : Addr} {ccd : Value} {cl : List (Str × Addr)} {outer : List Env} {A₀ : Around} {base h₀ : Heap} {L : Addr} {m : Str → Option Value} {s : Shared} {Q E : Value → Shared → Prop} {news : List (Addr × Obj)}
theorem drop_bk {b c : Addr} {ob : Obj} {g : Obj → List (Addr × Obj)} {vs : List Value} {ns : List Int} {nc : Nat} {K k : Int} {tk : Tok}
    (B : Below A₀ base outer h₀) (F : Fr h₀ L s.heap m) (X : (hd.heap_39 w.params).In h₀) (N : News h₀ L s.heap news) (T : Top hd.view_39 (looseW hd.view_39 []) mean mg mb h₀) (hk : cs.kind = .function)
    (hd0 : dp + 1 < recursionLimit) (hu : un + 108 < cLine)
    (U : UpdF b ob news g) (hB : Bk K c ob) (hK : K < 900000) (hc : (c, listOf vs.toArray nc) ∈ news) (hcb : c ≠ b) (hi : IntsAre vs ns) (hne : 0 < ns.length) (hle : ns.length ≤ 40) (hk1 : 1 ≤ k) (hk2 : k < 1000)
    (hret : ∀ (r : Int) (t : Tok) (h' : Heap) (tk' : Nat) (ob' : Obj), 0 ≤ r → r < k → Bk (K + 1) c ob' → Fr h₀ L h' m → News h₀ L h' (g ob') → Q (.int r t) { s with heap := h', toks := tk' }) :
    wpAny (model PySem.Challenge.rw_ov0054_01.row.prog w) (ktrTop dp un gd cn cs L a ccd cl outer) (call (.ref 234) [.ref b, .int k tk]) Q E s := by
  obtain ⟨pre, post, rfl, hg, h1, h2⟩ := U.split
  obtain ⟨x, a, tx, ta, nb, rfl, hx, ha, haK⟩ := hB
  have hN : News h₀ L s.heap ((b, listOf [.int x tx, .int a ta, .ref c].toArray nb) :: (pre ++ post)) := fun p hp => N p (by
    rcases List.mem_cons.mp hp with rfl | hp
    · exact List.mem_append_right _ (.head _)
    · rcases List.mem_append.mp hp with hp | hp
      · exact List.mem_append_left _ hp
      · exact List.mem_append_right _ (.tail _ hp))
  have hc' : (c, listOf vs.toArray nc) ∈ pre ++ post := by
    rcases List.mem_append.mp hc with hc | hc
    · exact List.mem_append_left _ hc
    · rcases List.mem_cons.mp hc with e | hc
      · exact absurd (congrArg Prod.fst e) hcb
      · exact List.mem_append_right _ hc
  refine drop_ok B F X hN T hk (fun p hp => ?_) hc' hi hne hle hx ha (by omega) hk1 hk2 hd0 hu ?_
  · rcases List.mem_append.mp hp with hp | hp
    · exact h1 p hp
    · exact h2 p hp
  · intro r t h' tk' x' a' tx' ta' nb' hr0 hr1 hx' ha1 ha2 F' N'
    refine hret r t h' tk' (listOf [.int x' tx', .int a' ta', .ref c].toArray nb') hr0 hr1 ⟨x', a', tx', ta', nb', rfl, hx', by omega, by omega⟩ F' ?_
    rw [hg]
    intro p hp
    rcases List.mem_append.mp hp with hp | hp
    · exact N' p (.tail _ (List.mem_append_left _ hp))
    · rcases List.mem_cons.mp hp with rfl | hp
      · exact N' _ (.head _)
      · exact N' p (.tail _ (List.mem_append_right _ hp))
end
theorem fr_eq {h₀ h : Heap} {L : Addr} {m m' : Str → Option Value} (F : Fr h₀ L h m) (e : ∀ y, m y = m' y) : Fr h₀ L h m' := by
  rw [← funext e]; exact F
def menuN : List (Option Str) := [some (Str.ofString "x"), some (Str.ofString "y"), some (Str.ofString "xy"), some (Str.ofString ""), none, some (Str.ofString "x")]
def menuT : List (Option Str) := [some (Str.ofString "x"), some (Str.ofString "y"), some (Str.ofString "xy"), some (Str.ofString ""), none, some (Str.ofString "new"), some (Str.ofString "more")]
theorem menuN_ok : StrsOk menuN := strsOk_of (by decide +kernel)
theorem menuT_ok : StrsOk menuT := strsOk_of (by decide +kernel)
theorem strs_menu {l k : List (Option Str)} (h : ∀ d ∈ l, d ∈ k) (hk : StrsOk k) : StrsOk l := fun x hx => hk x (h _ hx)
theorem snoc_mem {α : Type} {ds k : List α} {d : α} (h : ∀ x ∈ ds, x ∈ k) (hd : d ∈ k) : ∀ x ∈ ds ++ [d], x ∈ k := fun x hx => by
  rcases List.mem_append.mp hx with hx | hx
  · exact h x hx
  · rw [List.mem_singleton.mp hx]; exact hd
theorem fr_twice {h₀ h : Heap} {L : Addr} {a : Str} {u v : Option Value} {r : Str → Option Value} (F : Fr h₀ L h (fun y => if y = a then u else if y = a then v else r y)) : Fr h₀ L h (fun y => if y = a then u else r y) :=
  fr_eq F fun y => by
    by_cases e : y = a
    · simp [e]
    · simp [e]
def menuI : List (Option Int) := [some 1, some 0, none]
theorem menuI_ok {ds : List (Option Int)} (h : ∀ d ∈ ds, d ∈ menuI) : ∀ d ∈ ds, d = some 0 ∨ d = some 1 ∨ d = none := fun d hd => by
  have := h d hd
  simp only [menuI, List.mem_cons, List.not_mem_nil, or_false] at this
  rcases this with e | e | e
  · exact .inr (.inl e)
  · exact .inl e
  · exact .inr (.inr e)
theorem fdiv5 {a : Int} (h0 : 0 ≤ a) (h1 : a < 5) : 0 ≤ Int.fdiv a 4 ∧ Int.fdiv a 4 < 2 := by
  rw [Int.fdiv_eq_ediv_of_nonneg _ (by decide)]; omega
/-- whole numbers from 1 to 9, or lacking -/
def OnesOk (ds : List (Option Int)) : Prop := ∀ k, some k ∈ ds → 1 ≤ k ∧ k ≤ 9
theorem OnesOk.nil : OnesOk [] := fun k h => nomatch h
theorem OnesOk.snoc {ds : List (Option Int)} {d : Option Int} {k : Int} {i : Nat} (h : OnesOk ds) (hd : [some (1 + k), none][i]? = some d) (h0 : 0 ≤ k) (h1 : k < 9) : OnesOk (ds ++ [d]) := fun j hj => by
  rcases List.mem_append.mp hj with hj | hj
  · exact h j hj
  · have e := List.mem_singleton.mp hj
    subst e
    have := List.mem_of_getElem? hd
    simp only [List.mem_cons, List.not_mem_nil, or_false, Option.some.injEq, reduceCtorEq] at this
    omega
def down1 (d : Option Int) : Option Int := d.map (· - 1)
theorem pos_snoc {as : List Int} {k : Int} (h : ∀ a ∈ as, 1 ≤ a) (hk : 0 ≤ k) : ∀ a ∈ as ++ [1 + k], 1 ≤ a := fun a ha => by
  rcases List.mem_append.mp ha with ha | ha
  · exact h a ha
  · rw [List.mem_singleton.mp ha]; omega
theorem item_two {prog : Program} {w : World} {A : Around} {E : Value → Shared → Prop} {s : Shared} {h₀ : Heap} {L l : Addr} {news : List (Addr × Obj)} {n : Nat} {Q : Value → Shared → Prop} {value slice : PySem.Expr} {x k : Int} {t u : Tok}
    (N : News h₀ L s.heap news) (hm : (l, listOf [.int x t, .none].toArray n) ∈ news) (h0 : 0 ≤ k) (h1 : k < 5) (h : ∀ v d, [some x, none][(Int.fdiv k 4).toNat]? = some d → OIv v d → Q v s)
    (hs : subscripted slice false (.ref l) (.int (Int.fdiv k 4) u) = operate [.ref l, .int (Int.fdiv k 4) u] (getItem (.ref l) (.int (Int.fdiv k 4) u)) := by with_unfolding_all rfl) :
    wpAny (model prog w) A (subscriptTail value slice (.ref l) (.int (Int.fdiv k 4) u)) Q E s := by
  obtain ⟨a, b⟩ := fdiv5 h0 h1
  exact item_oi (ds := [some x, none]) N hm (OIs.cons (.some _ _) (OIs.cons .none OIs.nil)) a b (by omega) h hs

end
theorem anew36 : True := by
  w_top off
  k_with_none
  k_with "gen" => (refine cut_genF ?_; intro q9 hq9)
  k_with "CutEnd" => (refine cut_in (by assumption) ?_)
  k_with "allLt" => (first | assumption | (rename _ ∧ _ => h9; obtain ⟨h91, h92⟩ := h9; k_extra "allLt"))
  k_with "call builtin:len" => (k_here; (with_reducible show wpAny _ _ (call (Value.builtin "len") [Value.ref _]) _ _ _); k_dflt (refine' len_led (by first | (k_asm) | fail) (by first | (k_mem) | fail) (by first | (omega) | fail) ?_; k_whole))
  k_with "exec For" => (k_here; (rename Fr _ _ _ _ => lF'); (with_unfolding_all refine' For_invVF lF' (by first | (k_dflt (exact rfl)) | fail) (by first | (k_dflt (exact rfl)) | fail) ?_; k_whole))
  k_with "exec For Name Attribute cons nil" => (walk_at "exec For")
  k_with "exec For Name Name cons nil" => (walk_at "exec For")
  k_with "exec For Name Call cons nil" => (walk_at "exec For")
  k_with "room" => (first | omega | (dsimp only [ktrTop, Around.deeper, Around.in1] at *; omega))
  k_with "enter" => (refine wpAny_call ?_; k_dflt cell_enter; (try generalize List.length (List.filterMap _ _) = ln9); k_extra "gen")
  k_with "getAttr ref" => (k_here; k_dflt (refine' get_own (by first | (k_asm) | fail) (by first | (k_asm) | fail) (by first | (k_inst) | fail) (by first | (k_is) | fail) (by first | (k_is) | fail) (by first | (k_is) | fail) (by first | (k_is) | fail) (by first | (assumption) | fail) (by first | (rfl) | fail) ?_; k_whole))
  k_with "small" => (first | omega | (simp only [List.length_append, List.length_cons, List.length_nil]; omega))
  k_with "call builtin:list.append" => (k_here; (with_reducible show wpAny _ _ (call (Value.builtin _) [Value.ref _, _]) _ _ _); k_dflt (refine' append_led (by first | (k_asm) | fail) (by first | (k_asm) | fail) (by first | (k_upd) | fail) (by first | (k_extra "small") | fail) ?_; k_whole); intro h' F' N'; (try k_sweep))
  k_with "turn map" => (intro z hz hp9 hs; (try dsimp only [kstB]); first | (simp only [hz, hs, if_false, Bool.false_eq_true]; done) | (have hz2 := hp9 _ (.head _); dsimp only at hz2; simp only [hz, hz2, hs, if_false, Bool.false_eq_true]; done) | (have hz2 := hp9 _ (.head _); have hz3 := hp9 _ (.tail _ (.head _)); dsimp only at hz2 hz3; simp only [hz, hz2, hz3, hs, if_false, Bool.false_eq_true]; done) | (have hs2 := hs; simp only [List.contains_cons, List.contains_nil, Bool.or_false, Bool.or_eq_false_iff, beq_eq_false_iff_ne, ne_eq] at hs2; simp only [hz, hs, hs2, if_false, Bool.false_eq_true]; done) | (have hz2 := hp9 _ (.head _); dsimp only at hz2; have hs2 := hs; simp only [List.contains_cons, List.contains_nil, Bool.or_false, Bool.or_eq_false_iff, beq_eq_false_iff_ne, ne_eq] at hs2; simp only [hz, hz2, hs, hs2, if_false, Bool.false_eq_true]))
  k_with "turn end 1" => (first | refine TurnEnd.next _ (by assumption) (by assumption) ?_ ?_ (by exact fun _ hp => nomatch hp) (by k_extra "turn map") | refine TurnEnd.cont _ (by assumption) (by assumption) ?_ ?_ (by exact fun _ hp => nomatch hp) (by k_extra "turn map"))
  k_with "turn end 2" => (first | refine TurnEnd.next (_, _) (by assumption) (by assumption) ?_ ?_ (by exact fun _ hp => nomatch hp) (by k_extra "turn map") | refine TurnEnd.cont (_, _) (by assumption) (by assumption) ?_ ?_ (by exact fun _ hp => nomatch hp) (by k_extra "turn map"))
  k_with "turn end 3" => (first | refine TurnEnd.next (_, _, _) (by assumption) (by assumption) ?_ ?_ (by exact fun _ hp => nomatch hp) (by k_extra "turn map") | refine TurnEnd.cont (_, _, _) (by assumption) (by assumption) ?_ ?_ (by exact fun _ hp => nomatch hp) (by k_extra "turn map"))
  first | walk1 | exact True.intro
section
/-- whole numbers with noughts among them -/
def Thin (tv : List Value) (ws : List (Option Int)) : Prop := ∃ td, OIs tv td ∧ outsOf td = [] ∧ placesOf td = ws.map down1 ∧ td.length ≤ 2 * ws.length
theorem Thin.nil : Thin [] [] := ⟨[], OIs.nil, rfl, rfl, Nat.le_refl _⟩
theorem Thin.len {tv : List Value} {ws : List (Option Int)} (h : Thin tv ws) : tv.length ≤ 2 * ws.length := by
  obtain ⟨td, h1, _, _, h4⟩ := h
  rw [h1.length]; exact h4
theorem Thin.put {tv : List Value} {ws : List (Option Int)} {v : Value} {d : Option Int} (h : Thin tv ws) (hv : OIv v d) (hd : ∀ k, d = some k → 1 ≤ k) : Thin (tv ++ [v]) (ws ++ [d]) := by
  obtain ⟨td, h1, h2, h3, h4⟩ := h
  refine ⟨td ++ [d], h1.snoc hv, ?_, ?_, ?_⟩
  · unfold outsOf at h2 ⊢
    rw [flatMap_snoc, h2, List.nil_append]
    cases d with
    | none => rfl
    | some k => exact if_neg (by have := hd k rfl; omega)
  · unfold placesOf at h3 ⊢
    rw [flatMap_snoc, h3, List.map_append]
    cases d with
    | none => rfl
    | some k => have := hd k rfl; simp only [placeOf, down1, List.map_cons, List.map_nil, Option.map_some]; rw [if_pos (by omega)]
  · simp only [List.length_append, List.length_cons, List.length_nil]; omega
theorem Thin.put2 {tv : List Value} {ws : List (Option Int)} {v : Value} {d : Option Int} (h : Thin tv ws) (t : Tok) (hv : OIv v d) (hd : ∀ k, d = some k → 1 ≤ k) : Thin (tv ++ [.int 0 t] ++ [v]) (ws ++ [d]) := by
  obtain ⟨td, h1, h2, h3, h4⟩ := h
  refine ⟨td ++ [some 0] ++ [d], (h1.snoc (.some _ _)).snoc hv, ?_, ?_, ?_⟩
  · unfold outsOf at h2 ⊢
    rw [flatMap_snoc, flatMap_snoc, h2, List.nil_append]
    cases d with
    | none => rfl
    | some k => exact if_neg (by have := hd k rfl; omega)
  · unfold placesOf at h3 ⊢
    rw [flatMap_snoc, flatMap_snoc, h3, List.map_append]
    cases d with
    | none => simp [placeOf, down1]
    | some k =>
      have h6 := hd k rfl
      have h7 : (0 : Int) < k := by omega
      simp [placeOf, down1, h7]
  · simp only [List.length_append, List.length_cons, List.length_nil]; omega
theorem toWhole_one {k : Int} (h : 1 ≤ k) : toWhole k 1 = k := by
  unfold toWhole
  rw [if_pos (by omega), if_neg (by omega), Int.fdiv_eq_ediv_of_nonneg _ (by decide)]; omega
theorem toWhole_five {k o : Int} (h : 1 ≤ k) (h0 : 0 ≤ o) (h1 : o < 5) : toWhole (5 * k + o) 5 = k := by
  unfold toWhole
  rw [if_pos (by omega), if_neg (by omega), Int.fdiv_eq_ediv_of_nonneg _ (by decide)]; omega
theorem Fracs.nil (news : List (Addr × Obj)) : Fracs news [] [] := ⟨rfl, fun i v h => by simp at h⟩
theorem Fracs.mono {news news' : List (Addr × Obj)} {vs : List Value} {ds : List (Option (Int × Int))} (h : Fracs news vs ds) (hs : ∀ p ∈ news, p ∈ news') : Fracs news' vs ds := by
  refine ⟨h.1, fun i v hv => ?_⟩
  rcases h.2 i v hv with e | ⟨p, q, a, tp, tq, n, h1, h2, h3, h4⟩
  · exact .inl e
  · exact .inr ⟨p, q, a, tp, tq, n, h1, h2, hs _ h3, h4⟩
theorem get_snoc {α : Type} {l : List α} {x v : α} {i : Nat} (h : (l ++ [x])[i]? = some v) : (i < l.length ∧ l[i]? = some v) ∨ (i = l.length ∧ v = x) := by
  by_cases hi : i < l.length
  · rw [List.getElem?_append_left hi] at h; exact .inl ⟨hi, h⟩
  · have hl := (List.getElem?_eq_some_iff.mp h).1
    simp only [List.length_append, List.length_cons, List.length_nil] at hl
    have e : i = l.length := by omega
    subst e
    refine .inr ⟨rfl, ?_⟩
    simpa using h.symm
theorem Fracs.none {news : List (Addr × Obj)} {vs : List Value} {ds : List (Option (Int × Int))} (h : Fracs news vs ds) : Fracs news (vs ++ [Value.none]) (ds ++ [none]) := by
  refine ⟨by simp [h.1], fun i v hv => ?_⟩
  rcases get_snoc hv with ⟨hi, hv⟩ | ⟨rfl, rfl⟩
  · rw [List.getElem?_append_left (by rw [← h.1]; exact hi)]; exact h.2 i v hv
  · exact .inl ⟨by rw [h.1]; simp, rfl⟩
theorem Fracs.pair {news : List (Addr × Obj)} {vs : List Value} {ds : List (Option (Int × Int))} (h : Fracs news vs ds) {a : Addr} {p q : Int} {tp tq : Tok} {n : Nat} (ha : (a, tupO [.int p tp, .int q tq] n) ∈ news) (h0 : 0 < q) (h1 : q < 1000) : Fracs news (vs ++ [.ref a]) (ds ++ [some (p, q)]) := by
  refine ⟨by simp [h.1], fun i v hv => ?_⟩
  rcases get_snoc hv with ⟨hi, hv⟩ | ⟨rfl, rfl⟩
  · rw [List.getElem?_append_left (by rw [← h.1]; exact hi)]; exact h.2 i v hv
  · exact .inr ⟨p, q, a, tp, tq, n, by rw [h.1]; simp, rfl, ha, h0, h1⟩
/-- whole numbers as fractions -/
def Brok (news : List (Addr × Obj)) (bv : List Value) (ws : List (Option Int)) : Prop := ∃ bd, Fracs news bv bd ∧ bd.map wholeOf = ws
theorem Brok.nil (news : List (Addr × Obj)) : Brok news [] [] := ⟨[], Fracs.nil _, rfl⟩
theorem Brok.len {news : List (Addr × Obj)} {bv : List Value} {ws : List (Option Int)} (h : Brok news bv ws) : bv.length = ws.length := by
  obtain ⟨bd, h1, h2⟩ := h
  rw [h1.1, ← h2, List.length_map]
theorem Brok.none {news : List (Addr × Obj)} {bv : List Value} {ws : List (Option Int)} (h : Brok news bv ws) : Brok news (bv ++ [Value.none]) (ws ++ [none]) := by
  obtain ⟨bd, h1, h2⟩ := h
  exact ⟨bd ++ [Option.none], h1.none, by rw [List.map_append, h2]; rfl⟩
theorem Brok.pair {news : List (Addr × Obj)} {bv : List Value} {ws : List (Option Int)} (h : Brok news bv ws) (a : Addr) (p q : Int) (tp tq : Tok) (n : Nat) {k : Int} (e : toWhole p q = k) (h0 : 0 < q) (h1 : q < 1000) :
    Brok ((a, tupO [.int p tp, .int q tq] n) :: news) (bv ++ [.ref a]) (ws ++ [some k]) := by
  obtain ⟨bd, h2, h3⟩ := h
  exact ⟨bd ++ [some (p, q)], (h2.mono fun p hp => .tail _ hp).pair (.head _) h0 h1, by rw [List.map_append, h3, ← e]; rfl⟩
structure LoopSt where
  tv : List Value
  tn : Nat
  bv : List Value
  bn : Nat
  ob : Obj
  pairs : List (Addr × Obj)
/-- what holds after some turns -/
def LoopOk (b c Tt Tb : Addr) (ws : List (Option Int)) (i : Nat) (st : LoopSt) : Prop :=
  Bk (100 + 2 * (i : Int)) c st.ob ∧ Thin st.tv ws ∧ Brok st.pairs st.bv ws ∧ ∀ p ∈ st.pairs, (@Ne Nat p.1 b) ∧ (@Ne Nat p.1 Tt) ∧ (@Ne Nat p.1 Tb)
/-- the fractions that come to nothing -/
def lostOf : List (Option (Int × Int)) := [some (-3, 4), some (3, 4), some (0, 1)]
theorem lost_outs : outsOf (lostOf.map wholeOf) = [] := by decide
theorem lost_law (n : Nat) : wholePlaces (lostOf.map wholeOf) n = [] := by
  unfold wholePlaces; rw [if_pos lost_outs]; decide
theorem lost_fracs {news : List (Addr × Obj)} {x y z : Addr} {t1 t2 t3 t4 t5 t6 : Tok} {n1 n2 n3 : Nat} (hx : (x, tupO [.int (-3) t1, .int 4 t2] n1) ∈ news) (hy : (y, tupO [.int 3 t3, .int 4 t4] n2) ∈ news) (hz : (z, tupO [.int 0 t5, .int 1 t6] n3) ∈ news) :
    Fracs news [.ref x, .ref y, .ref z] lostOf :=
  (((Fracs.nil news).pair hx (by decide) (by decide)).pair hy (by decide) (by decide)).pair hz (by decide) (by decide)
def midOf : List (Option Int) := [some 0, some (-1), some 0]
theorem mid_places : placesOf midOf = [] := by decide
theorem mid_outs : outsOf midOf = [0] := by decide
theorem mid_law (n : Nat) : wholePlaces midOf n = (List.range (n - 1)).map fun (i : Nat) => some (1 + (i : Int)) := by
  unfold wholePlaces
  rw [mid_outs, if_neg (by decide)]
  cases n with
  | zero => rfl
  | succ n =>
    rw [List.range_succ_eq_map, List.flatMap_cons, Nat.add_sub_cancel]
    have e : ∀ l : List Nat, (l.map Nat.succ).flatMap (fun (i : Nat) => if (i : Int) ∈ [(0 : Int)] then [] else [some (i : Int)]) = l.map fun (i : Nat) => some (1 + (i : Int)) := by
      intro l
      induction l with
      | nil => rfl
      | cons x r ih =>
        rw [List.map_cons, List.flatMap_cons, ih, List.map_cons, if_neg (by simp; omega)]
        simp only [List.singleton_append, List.cons.injEq, Option.some.injEq, and_true]
        omega
    rw [e, if_pos (by simp)]
    rfl
section
variable {h₀ : Heap} {L b c Tt Tb : Addr} {x : Str} {stored : List Str} {m₀ : Str → Option Value} {rest pairs rs : List (Addr × Obj)} {s₁ : Shared} {Q : Flow → Shared → Prop} {h' : Heap} {tk' : Nat} {m' : Str → Option Value} {tv bv : List Value} {tn bn : Nat} {ob : Obj} {ws : List (Option Int)} {i : Nat}
theorem loop_none (F : Fr h₀ L h' m') (N : News h₀ L h' ((b, ob) :: (Tt, listOf tv.toArray tn) :: (Tb, listOf (bv ++ [Value.none]).toArray bn) :: rs)) (hrs : pairs ++ rest = rs) (hB : Bk (100 + 2 * (i : Int) + 1 + 1) c ob)
    (hT : Thin tv (ws ++ [none])) (hK : Brok pairs bv ws) (hpo : ∀ p ∈ pairs, (@Ne Nat p.1 b) ∧ (@Ne Nat p.1 Tt) ∧ (@Ne Nat p.1 Tb)) (hoff : ∀ o₁ o₂ o₃, LedOff ((b, o₁) :: (Tt, o₂) :: (Tb, o₃) :: pairs) rest)
    (hm : ∀ z, z ≠ x → (∀ p ∈ ([] : List (Str × Value)), z ≠ p.1) → stored.contains z = false → m' z = m₀ z) :
    TurnEnd h₀ L x stored m₀ (fun st : LoopSt => (b, st.ob) :: (Tt, listOf st.tv.toArray st.tn) :: (Tb, listOf st.bv.toArray st.bn) :: st.pairs) (fun _ => []) (fun st => LoopOk b c Tt Tb (ws ++ [none]) (i + 1) st) rest s₁ Q .next { s₁ with heap := h', toks := tk' } := by
  subst hrs
  refine TurnEnd.next (c' := LoopSt.mk tv tn (bv ++ [Value.none]) bn ob pairs) F (news_sub N fun p hp => hp) ⟨hB.up (by omega), hT, hK.none, hpo⟩ (hoff _ _ _) (fun _ hp => nomatch hp) hm
theorem loop_some {D : Addr} {p q k : Int} {tp tq : Tok} {n : Nat} (F : Fr h₀ L h' m') (N : News h₀ L h' ((D, tupO [.int p tp, .int q tq] n) :: (b, ob) :: (Tt, listOf tv.toArray tn) :: (Tb, listOf (bv ++ [Value.ref D]).toArray bn) :: rs)) (hrs : pairs ++ rest = rs) (hB : Bk (100 + 2 * (i : Int) + 1 + 1) c ob)
    (hT : Thin tv (ws ++ [some k])) (hK : Brok pairs bv ws) (hpo : ∀ p ∈ pairs, (@Ne Nat p.1 b) ∧ (@Ne Nat p.1 Tt) ∧ (@Ne Nat p.1 Tb)) (hoff : ∀ o₁ o₂ o₃, LedOff ((b, o₁) :: (Tt, o₂) :: (Tb, o₃) :: pairs) rest)
    (hl : b < D ∧ Tt < D ∧ Tb < D ∧ AllLt D rs) (e : toWhole p q = k) (h0 : 0 < q) (h1 : q < 1000)
    (hm : ∀ z, z ≠ x → (∀ p ∈ ([] : List (Str × Value)), z ≠ p.1) → stored.contains z = false → m' z = m₀ z) :
    TurnEnd h₀ L x stored m₀ (fun st : LoopSt => (b, st.ob) :: (Tt, listOf st.tv.toArray st.tn) :: (Tb, listOf st.bv.toArray st.bn) :: st.pairs) (fun _ => []) (fun st => LoopOk b c Tt Tb (ws ++ [some k]) (i + 1) st) rest s₁ Q .next { s₁ with heap := h', toks := tk' } := by
  subst hrs
  obtain ⟨hl1, hl2, hl3, hl4⟩ := hl
  have hN := allLt_all hl4
  refine TurnEnd.next (c' := LoopSt.mk tv tn (bv ++ [Value.ref D]) bn ob ((D, tupO [.int p tp, .int q tq] n) :: pairs)) F (news_sub N fun r hr => ?_) ⟨hB.up (by omega), hT, hK.pair _ _ _ _ _ _ e h0 h1, fun r hr => ?_⟩ (fun r hr s hs => ?_) (fun _ hp => nomatch hp) hm
  · rcases List.mem_cons.mp hr with rfl | hr
    · exact .tail _ (.head _)
    rcases List.mem_cons.mp hr with rfl | hr
    · exact .tail _ (.tail _ (.head _))
    rcases List.mem_cons.mp hr with rfl | hr
    · exact .tail _ (.tail _ (.tail _ (.head _)))
    rcases List.mem_cons.mp hr with rfl | hr
    · exact .head _
    exact .tail _ (.tail _ (.tail _ (.tail _ hr)))
  · rcases List.mem_cons.mp hr with rfl | hr
    · exact ⟨Nat.ne_of_gt hl1, Nat.ne_of_gt hl2, Nat.ne_of_gt hl3⟩
    · exact hpo r hr
  · rcases List.mem_cons.mp hr with rfl | hr
    · exact hoff ob ob ob (b, ob) (.head _) s hs
    rcases List.mem_cons.mp hr with rfl | hr
    · exact hoff ob ob ob (Tt, ob) (.tail _ (.head _)) s hs
    rcases List.mem_cons.mp hr with rfl | hr
    · exact hoff ob ob ob (Tb, ob) (.tail _ (.tail _ (.head _))) s hs
    rcases List.mem_cons.mp hr with rfl | hr
    · exact Nat.ne_of_lt (hN s (List.mem_append_right _ hs))
    · exact hoff ob ob ob r (.tail _ (.tail _ (.tail _ hr))) s hs
theorem loop_off {st : LoopSt} {news : List (Addr × Obj)} (h : LedOff ((b, st.ob) :: (Tt, listOf st.tv.toArray st.tn) :: (Tb, listOf st.bv.toArray st.bn) :: st.pairs) news) : ∀ o₁ o₂ o₃, LedOff ((b, o₁) :: (Tt, o₂) :: (Tb, o₃) :: st.pairs) news := by
  intro o₁ o₂ o₃ r hr s hs
  rcases List.mem_cons.mp hr with rfl | hr
  · exact h _ (.head _) s hs
  rcases List.mem_cons.mp hr with rfl | hr
  · exact h _ (.tail _ (.head _)) s hs
  rcases List.mem_cons.mp hr with rfl | hr
  · exact h _ (.tail _ (.tail _ (.head _))) s hs
  exact h _ (.tail _ (.tail _ (.tail _ hr))) s hs
end
theorem ones_outs {dw : List (Option Int)} (h : OnesOk dw) : outsOf dw = [] := by
  unfold outsOf
  rw [List.flatMap_eq_nil_iff]
  intro d hd
  cases d with
  | none => rfl
  | some k => exact if_neg (by have := (h k hd).1; omega)
theorem ones_places {dw : List (Option Int)} (h : OnesOk dw) : placesOf dw = dw.map down1 := by
  unfold placesOf
  induction dw with
  | nil => rfl
  | cons d r ih =>
    rw [List.flatMap_cons, List.map_cons, ih fun k hk => h k (.tail _ hk)]
    cases d with
    | none => rfl
    | some k => have := (h k (.head _)).1; simp only [placeOf, down1, Option.map_some]; rw [if_pos (by omega)]; rfl
theorem thin_law {td dw : List (Option Int)} (h1 : outsOf td = []) (h2 : placesOf td = dw.map down1) (n : Nat) : wholePlaces td n = dw.map down1 := by
  unfold wholePlaces; rw [if_pos h1, h2]
theorem ones_law {dw : List (Option Int)} (h : OnesOk dw) (n : Nat) : wholePlaces dw n = dw.map down1 := thin_law (ones_outs h) (ones_places h) n
theorem fr_put {h₀ h : Heap} {L : Addr} {m : Str → Option Value} (F : Fr h₀ L h m) (a : Str) (v : Value) (e : m a = some v) : Fr h₀ L h (fun y => if y = a then some v else m y) := fr_eq F fun y => by
  by_cases h : y = a
  · simp [h, e]
  · simp [h]
theorem sub_cons {α : Type} {a : α} {l k : List α} (h : ∀ p ∈ l, p ∈ k) : ∀ p ∈ a :: l, p ∈ a :: k := fun p hp => by
  rcases List.mem_cons.mp hp with rfl | hp
  · exact .head _
  · exact .tail _ (h p hp)
theorem sub_left {α : Type} {j l k : List α} (h : ∀ p ∈ l, p ∈ k) : ∀ p ∈ j ++ l, p ∈ j ++ k := fun p hp => by
  rcases List.mem_append.mp hp with hp | hp
  · exact List.mem_append_left _ hp
  · exact List.mem_append_right _ (h p hp)

end
theorem anew37 : True := by
  w_top off
  k_with_none
  k_with "gen" => (refine cut_genF ?_; intro q9 hq9)
  k_with "CutEnd" => (refine cut_in (by assumption) ?_)
  k_with "allLt" => (first | assumption | (rename _ ∧ _ => h9; obtain ⟨h91, h92⟩ := h9; k_extra "allLt"))
  k_with "call builtin:len" => (k_here; (with_reducible show wpAny _ _ (call (Value.builtin "len") [Value.ref _]) _ _ _); k_dflt (refine' len_led (by first | (k_asm) | fail) (by first | (k_mem) | fail) (by first | (omega) | fail) ?_; k_whole))
  k_with "exec For" => (k_here; (rename Fr _ _ _ _ => lF'); (with_unfolding_all refine' For_invVF lF' (by first | (k_dflt (exact rfl)) | fail) (by first | (k_dflt (exact rfl)) | fail) ?_; k_whole))
  k_with "exec For Name Attribute cons nil" => (walk_at "exec For")
  k_with "exec For Name Name cons nil" => (walk_at "exec For")
  k_with "exec For Name Call cons nil" => (walk_at "exec For")
  k_with "room" => (first | omega | (dsimp only [ktrTop, Around.deeper, Around.in1] at *; omega))
  k_with "enter" => (refine wpAny_call ?_; k_dflt cell_enter; (try generalize List.length (List.filterMap _ _) = ln9); k_extra "gen")
  k_with "getAttr ref" => (k_here; k_dflt (refine' get_own (by first | (k_asm) | fail) (by first | (k_asm) | fail) (by first | (k_inst) | fail) (by first | (k_is) | fail) (by first | (k_is) | fail) (by first | (k_is) | fail) (by first | (k_is) | fail) (by first | (assumption) | fail) (by first | (rfl) | fail) ?_; k_whole))
  k_with "small" => (first | omega | (simp only [List.length_append, List.length_cons, List.length_nil]; omega))
  k_with "call builtin:list.append" => (k_here; (with_reducible show wpAny _ _ (call (Value.builtin _) [Value.ref _, _]) _ _ _); k_dflt (refine' append_led (by first | (k_asm) | fail) (by first | (k_asm) | fail) (by first | (k_upd) | fail) (by first | (k_extra "small") | fail) ?_; k_whole); intro h' F' N'; (try k_sweep))
  k_with "turn map" => (intro z hz hp9 hs; (try dsimp only [kstB]); first | (simp only [hz, hs, if_false, Bool.false_eq_true]; done) | (have hz2 := hp9 _ (.head _); dsimp only at hz2; simp only [hz, hz2, hs, if_false, Bool.false_eq_true]; done) | (have hz2 := hp9 _ (.head _); have hz3 := hp9 _ (.tail _ (.head _)); dsimp only at hz2 hz3; simp only [hz, hz2, hz3, hs, if_false, Bool.false_eq_true]; done) | (have hs2 := hs; simp only [List.contains_cons, List.contains_nil, Bool.or_false, Bool.or_eq_false_iff, beq_eq_false_iff_ne, ne_eq] at hs2; simp only [hz, hs, hs2, if_false, Bool.false_eq_true]; done) | (have hz2 := hp9 _ (.head _); dsimp only at hz2; have hs2 := hs; simp only [List.contains_cons, List.contains_nil, Bool.or_false, Bool.or_eq_false_iff, beq_eq_false_iff_ne, ne_eq] at hs2; simp only [hz, hz2, hs, hs2, if_false, Bool.false_eq_true]))
  k_with "turn end 1" => (first | refine TurnEnd.next _ (by assumption) (by assumption) ?_ ?_ (by exact fun _ hp => nomatch hp) (by k_extra "turn map") | refine TurnEnd.cont _ (by assumption) (by assumption) ?_ ?_ (by exact fun _ hp => nomatch hp) (by k_extra "turn map"))
  k_with "turn end 2" => (first | refine TurnEnd.next (_, _) (by assumption) (by assumption) ?_ ?_ (by exact fun _ hp => nomatch hp) (by k_extra "turn map") | refine TurnEnd.cont (_, _) (by assumption) (by assumption) ?_ ?_ (by exact fun _ hp => nomatch hp) (by k_extra "turn map"))
  k_with "turn end 3" => (first | refine TurnEnd.next (_, _, _) (by assumption) (by assumption) ?_ ?_ (by exact fun _ hp => nomatch hp) (by k_extra "turn map") | refine TurnEnd.cont (_, _, _) (by assumption) (by assumption) ?_ ?_ (by exact fun _ hp => nomatch hp) (by k_extra "turn map"))
  first | walk1 | exact True.intro
section

theorem OIs.ofRange1 {vs : List Value} {n : Nat} (h : IntsAre vs (rangeKs 1 ((n : Int) - 1).toNat)) : OIs vs ((List.range (n - 1)).map fun (i : Nat) => some (1 + (i : Int))) := by
  have e : (rangeKs 1 ((n : Int) - 1).toNat).map some = (List.range (n - 1)).map fun (i : Nat) => some (1 + (i : Int)) := by
    rw [show ((n : Int) - 1).toNat = n - 1 by omega]; simp [rangeKs]
  rw [← e]; exact OIs.ofInts h
theorem NamesAre.one {news : List (Addr × Obj)} {v : Value} {nm : Option (List (Option Str))} (h : NamesAre news v nm) (p : Addr × Obj) : ∃ q, (q = p ∨ q ∈ news) ∧ NamesAre [q] v nm := by
  cases h with
  | none => exact ⟨p, .inl rfl, .none⟩
  | some a b c => exact ⟨_, .inr a, .some (.head _) b c⟩
section
variable {w : World} {mean : ExcName → Option Value} {mg mb : Str → Option Value} {dp un : Nat} {gd : Option (List Code)} {cn : Str} {cs : Scope} {a : Addr} {ccd : Value} {cl : List (Str × Addr)} {outer : List Env} {A₀ : Around} {base h₀ : Heap} {L : Addr} {m : Str → Option Value} {s : Shared} {Q E : Value → Shared → Prop} {news : List (Addr × Obj)}
theorem said_bad2 {x dx l : Addr} {es : List DictEntry} {ne nl nn : Nat} {tn tkk : Tok} {vs : List Value} {ds : List (Option Int)} {nv : Value} {msg : Str}
    (B : Below A₀ base [] h₀) (F : Fr h₀ L s.heap m) (X : (hd.heap_39 w.params).In h₀) (N : News h₀ L s.heap news) (T : Top hd.view_39 (looseW hd.view_39 []) mean mg mb h₀) (hk : cs.kind = .function) (hd0 : dp + 9 < recursionLimit) (hu : un + 172 < cLine)
    (XB : (hd.heap_39 w.params).In base) (TB : Top hd.view_39 (looseW hd.view_39 []) mean mg mb base)
    (hx : (x, instObj 181 dx) ∈ news) (hdx : (dx, dictOf es ne) ∈ news) (hkd : getL (Str.ofString "kind") es = some (some (.str (Str.ofString "integer") tkk))) (hit : getL (Str.ofString "items") es = some (some (.ref l))) (hl : (l, listOf vs.toArray nl) ∈ news) (hi : OIs vs ds) (hlen : ds.length < 1000) (hnn : nn < 1000) (hok1 : outsOf ds ≠ []) (hok2 : placesOf ds ≠ [])
    (hm : msgOf ds = msg)
    (hret : ∀ (tk9 : Tok) (news' : List (Addr × Obj)) (h' : Heap) (tk' : Nat), Fr h₀ L h' m → News h₀ L h' news' → (∀ p ∈ news, p ∈ news') → Q (.str msg tk9) { s with heap := h', toks := tk' }) :
    wpAny (model PySem.Challenge.rw_ov0054_01.row.prog w) (ktrTop dp un gd cn cs L a ccd cl []) (call (.ref 241) [.ref x, .int (nn : Int) tn, nv]) Q E s := by
  subst hm
  exact said_bad B F X N T hk hd0 hu XB TB hx hdx hkd hit hl hi hlen hnn hok1 hok2 hret
end
local macro_rules | `(tactic| k_ne) => `(tactic| first | exact (ne_of_off3 (by assumption) (by k_mem)).1 | exact (ne_of_off3 (by assumption) (by k_mem)).2.1 | exact (ne_of_off3 (by assumption) (by k_mem)).2.2)
local macro_rules | `(tactic| walk_at "compareOp NotEq ref ref") => `(tactic| (k_here; (with_reducible show wpAny _ _ (compareOp CmpOp.NotEq (Value.ref _) (Value.ref _)) _ _ _); k_dflt (refine' said_ne_same ?N ?a ?b ?c ?d ?e ?f ?u ?g ?_; (case N => k_asm); (case a => k_mem); (case b => k_mem); (case c => assumption); (case d => k_mem); (case e => k_mem); (first | ((case f => first | assumption | exact OIs.nil); (case g => first | assumption | rfl)) | ((case g => rfl); (case f => first | exact OIs.nil | exact OIs.ofRange (by assumption) | exact OIs.ofInts (by assumption)))); (case u => first | exact Nat.le_of_ble_eq_true rfl | (show _ + _ < _; k_extra "room")); k_whole)))
theorem words22 : True := by
  k_with "call ref" => (refine Stop.intro ?_)
  k_with "sub" => (intro p9 hp9; repeat (first | exact hp9 | refine List.Mem.tail _ ?_))
  k_with "len" => (first | assumption | omega | (simp only [List.length_map, List.length_append, List.length_cons, List.length_nil, List.length_range]; omega))
  k_with "ix" => (first | exact Ix.missing (by k_mem) (by k_mem) (by assumption) | exact Ix.null (by k_mem) (by k_mem) (by assumption) | exact Ix.logical (by k_mem) (by k_mem) (by assumption) (by assumption) (by k_mem) (by assumption) (by k_extra "len") | exact Ix.integer (by k_mem) (by k_mem) (by assumption) (by assumption) (by k_mem) (by assumption) (by k_extra "len") (by assumption) | exact Ix.double (by k_mem) (by k_mem) (by assumption) (by assumption) (by k_mem) (by assumption) (by k_extra "len") (by assumption) | exact Ix.character (by k_mem) (by k_mem) (by assumption) (by assumption) (by k_mem) (by assumption) (by k_extra "len"))
  k_with "call ref" => (k_here; (with_reducible show wpAny _ _ (call (Value.ref 267) _) _ _ _); k_dflt (refine' extended_ok (by first | (k_asm) | fail) (by first | (k_asm) | fail) (by first | (k_asm) | fail) (by first | (k_asm) | fail) (by first | (k_asm) | fail) (by first | (first | assumption | rfl) | fail) (by first | (first | exact Nat.le_of_ble_eq_true rfl | (show _ + _ < _; k_extra "room")) | fail) (by first | (first | exact Nat.le_of_ble_eq_true rfl | (show _ + _ < _; k_extra "room")) | fail) (by first | (k_mem) | fail) (by first | (assumption) | fail) (by first | (assumption) | fail) (by first | (k_extra "len") | fail) (by first | (exact NamesAre.mono (by assumption) (by k_extra "sub")) | fail) (by first | (assumption) | fail) (by first | (first | assumption | omega) | fail) ?_; k_whole); intro h9 tk9 F9 N9; (try dsimp only))
  k_with "call ref" => (k_here; (with_reducible show wpAny _ _ (call (Value.ref 260) _) _ _ _); k_dflt (refine' names_ok (by first | (k_asm) | fail) (by first | (k_asm) | fail) (by first | (k_asm) | fail) (by first | (k_asm) | fail) (by first | (k_asm) | fail) (by first | (first | assumption | rfl) | fail) (by first | (first | exact Nat.le_of_ble_eq_true rfl | (show _ + _ < _; k_extra "room")) | fail) (by first | (first | exact Nat.le_of_ble_eq_true rfl | (show _ + _ < _; k_extra "room")) | fail) (by first | (k_mem) | fail) (by first | (assumption) | fail) (by first | (assumption) | fail) (by first | (k_extra "len") | fail) (by first | (exact NamesAre.mono (by assumption) (by k_extra "sub")) | fail) (by first | (assumption) | fail) (by first | (first | assumption | omega) | fail) ?_; k_whole); intro h9 tk9 F9 N9; (try dsimp only))
  k_with "call ref" => (k_here; (with_reducible show wpAny _ _ (call (Value.ref 234) _) _ _ _); k_dflt (refine' drop_bk (by first | (k_asm) | fail) (by first | (k_asm) | fail) (by first | (k_asm) | fail) (by first | (k_asm) | fail) (by first | (k_asm) | fail) (by first | (first | assumption | rfl) | fail) (by first | (first | exact Nat.le_of_ble_eq_true rfl | (show _ + _ < _; k_extra "room")) | fail) (by first | (first | exact Nat.le_of_ble_eq_true rfl | (show _ + _ < _; k_extra "room")) | fail) (by first | (k_updF) | fail) (by first | (assumption) | fail) (by first | (omega) | fail) (by first | (k_mem) | fail) (by first | (assumption) | fail) (by first | (assumption) | fail) (by first | (assumption) | fail) (by first | (assumption) | fail) (by first | (decide) | fail) (by first | (decide) | fail) ?_; k_whole); intro r9 t9 h9 tk9 ob9 hr9 hr8 hB9 F9 N9; (try dsimp only))
  k_with "call ref" => (k_here; (with_reducible show wpAny _ _ (call (Value.ref 199) _) _ _ _); k_dflt (refine' missing_ok (by first | (k_asm) | fail) (by first | (k_asm) | fail) (by first | (k_asm) | fail) (by first | (k_asm) | fail) (by first | (k_asm) | fail) (by first | (first | assumption | rfl) | fail) (by first | (first | exact Nat.le_of_ble_eq_true rfl | (show _ + _ < _; k_extra "room")) | fail) (by first | (first | exact Nat.le_of_ble_eq_true rfl | (show _ + _ < _; k_extra "room")) | fail)  ?_; k_whole); intro x9 dx9 es9 ne9 tk9 h9 tk8 F9 N9 hkd9 hx9 hdx9; (try dsimp only))
  k_with "call ref" => (k_here; (with_reducible show wpAny _ _ (call (Value.ref 192) _) _ _ _); k_dflt (refine' null_ok (by first | (k_asm) | fail) (by first | (k_asm) | fail) (by first | (k_asm) | fail) (by first | (k_asm) | fail) (by first | (k_asm) | fail) (by first | (first | assumption | rfl) | fail) (by first | (first | exact Nat.le_of_ble_eq_true rfl | (show _ + _ < _; k_extra "room")) | fail) (by first | (first | exact Nat.le_of_ble_eq_true rfl | (show _ + _ < _; k_extra "room")) | fail)  ?_; k_whole); intro x9 dx9 es9 ne9 tk9 h9 tk8 F9 N9 hkd9 hx9 hdx9; (try dsimp only))
  k_with "call ref" => (k_here; (with_reducible show wpAny _ _ (call (Value.ref 241) _) _ _ _); k_dflt (refine' said_ok (by first | (k_asm) | fail) (by first | (k_asm) | fail) (by first | (k_asm) | fail) (by first | (k_asm) | fail) (by first | (k_asm) | fail) (by first | (first | assumption | rfl) | fail) (by first | (first | exact Nat.le_of_ble_eq_true rfl | (show _ + _ < _; k_extra "room")) | fail) (by first | (first | exact Nat.le_of_ble_eq_true rfl | (show _ + _ < _; k_extra "room")) | fail) (by first | (exact NamesAre.mono (by assumption) (by k_extra "sub")) | fail) (by first | (k_extra "ix") | fail) (by first | (first | assumption | omega) | fail) ?_; k_whole); intro t9 r9 ws9 nr9 nt9 h9 tk9 F9 N9 hne9 hne8 hi9; (try dsimp only))
  k_with "call ref" => (k_here; (with_reducible show wpAny _ _ (call (Value.ref 248) _) _ _ _); k_dflt (refine' truths_ok (by first | (k_asm) | fail) (by first | (k_asm) | fail) (by first | (k_asm) | fail) (by first | (k_asm) | fail) (by first | (k_asm) | fail) (by first | (first | assumption | rfl) | fail) (by first | (first | exact Nat.le_of_ble_eq_true rfl | (show _ + _ < _; k_extra "room")) | fail) (by first | (first | exact Nat.le_of_ble_eq_true rfl | (show _ + _ < _; k_extra "room")) | fail) (by first | (k_mem) | fail) (by first | (assumption) | fail) (by first | (assumption) | fail) (by first | (k_extra "len") | fail) (by first | (exact NamesAre.mono (by assumption) (by k_extra "sub")) | fail) (by first | (first | assumption | omega) | fail) ?_; k_whole); intro h9 tk9 F9 N9; (try dsimp only))
  k_with "call ref" => (k_here; (with_reducible show wpAny _ _ (call (Value.ref 253) _) _ _ _); k_dflt (refine' negatives_ok (by first | (k_asm) | fail) (by first | (k_asm) | fail) (by first | (k_asm) | fail) (by first | (k_asm) | fail) (by first | (k_asm) | fail) (by first | (first | assumption | rfl) | fail) (by first | (first | exact Nat.le_of_ble_eq_true rfl | (show _ + _ < _; k_extra "room")) | fail) (by first | (first | exact Nat.le_of_ble_eq_true rfl | (show _ + _ < _; k_extra "room")) | fail) (by first | (k_mem) | fail) (by first | (assumption) | fail) (by first | (assumption) | fail) (by first | (k_extra "len") | fail) (by first | (exact NamesAre.mono (by assumption) (by k_extra "sub")) | fail) (by first | (first | assumption | omega) | fail) ?_; k_whole); intro h9 tk9 F9 N9; (try dsimp only))
  k_with "call ref" => (k_here; (with_reducible show wpAny _ _ (call (Value.ref 213) _) _ _ _); k_dflt (refine' integer_ok (by first | (k_asm) | fail) (by first | (k_asm) | fail) (by first | (k_asm) | fail) (by first | (k_asm) | fail) (by first | (k_asm) | fail) (by first | (first | assumption | rfl) | fail) (by first | (first | exact Nat.le_of_ble_eq_true rfl | (show _ + _ < _; k_extra "room")) | fail) (by first | (first | exact Nat.le_of_ble_eq_true rfl | (show _ + _ < _; k_extra "room")) | fail) (by first | (k_mem) | fail) (by first | (k_extra "len") | fail) ?_; k_whole); intro x9 dx9 l9 es9 ne9 nl9 tk9 h9 tk8 F9 N9 hkd9 hit9 hx9 hdx9 hl9; (try dsimp only))
  k_with "call ref" => (k_here; (with_reducible show wpAny _ _ (call (Value.ref 220) _) _ _ _); k_dflt (refine' double_ok (by first | (k_asm) | fail) (by first | (k_asm) | fail) (by first | (k_asm) | fail) (by first | (k_asm) | fail) (by first | (k_asm) | fail) (by first | (first | assumption | rfl) | fail) (by first | (first | exact Nat.le_of_ble_eq_true rfl | (show _ + _ < _; k_extra "room")) | fail) (by first | (first | exact Nat.le_of_ble_eq_true rfl | (show _ + _ < _; k_extra "room")) | fail) (by first | (k_mem) | fail) (by first | (k_extra "len") | fail) ?_; k_whole); intro x9 dx9 l9 es9 ne9 nl9 tk9 h9 tk8 F9 N9 hkd9 hit9 hx9 hdx9 hl9; (try dsimp only))
  k_with "CompSrc" => (refine Stop.intro ?_)
  k_with "CompSrcT" => (refine Stop.intro ?_)
  k_with "CompEnd" => (refine Stop.intro ?_)
  k_with "subscriptTail" => (k_here; (with_reducible show wpAny _ _ (subscriptTail _ (PySem.Expr.Slice _ _ none _) (Value.ref _) (Value.ref _)) _ _ _); (refine kba_turn (value' := PySem.Expr.Name (PySem.Str.ofString "x") ⟨0, 0, 0, 0⟩) (fun _ => rfl) ?_); k_dflt (refine' kmk_slice_ints (by first | (k_asm) | fail) (by first | (k_asm) | fail) (by first | (exact News.isList (by assumption) (by k_mem)) | fail) (by first | (kmk_part) | fail) (by first | (kmk_part) | fail) (by first | (assumption) | fail) (by first | (exact kmk_upto (by assumption) (by decide)) | fail) (by first | (exact rfl) | fail) ?_ (by first | (with_unfolding_all rfl) | fail) (by first | (kmk_pure) | fail) (by first | (exact kmk_sz (by assumption) (by rw [sizeLine_eq, List.length_append, List.length_singleton]; omega)) | fail)); intro D' ws' h' F' N' l1 hI' hC' hL'; (try k_lt l1); (try k_sweep))
  k_with "call ref" => (k_here; (with_reducible show wpAny _ _ (call (Value.ref 260) _) _ _ _); k_dflt (refine' names_ok (nn := 3) (ts := [some (Str.ofString "x"), some (Str.ofString "y"), some (Str.ofString "z")]) (nm := some [some (Str.ofString "x"), some (Str.ofString "y"), some (Str.ofString "x")]) (by first | (k_asm) | fail) (by first | (k_asm) | fail) (by first | (k_asm) | fail) (by first | (k_asm) | fail) (by first | (k_asm) | fail) (by first | (rfl) | fail) (by first | (exact Nat.le_of_ble_eq_true rfl) | fail) (by first | (exact Nat.le_of_ble_eq_true rfl) | fail) (by first | (k_mem) | fail) (by first | (exact OSs.cons (.some _ _) (OSs.cons (.some _ _) (OSs.cons (.some _ _) OSs.nil))) | fail) (by first | (exact strsOk_of (by decide +kernel)) | fail) (by first | (decide) | fail) (by first | (exact NamesAre.some (by k_mem) (OSs.cons (.some _ _) (OSs.cons (.some _ _) (OSs.cons (.some _ _) OSs.nil))) (by decide)) | fail) (by first | ((intro ns9 hns9; cases hns9; exact ⟨rfl, strsOk_of (by decide +kernel)⟩)) | fail) (by first | (decide) | fail) ?_; k_whole); intro h9 tk9 F9 N9)
  k_with "exec If" => (k_here; (with_reducible show wpAny _ _ (exec (Stmt.If (Expr.Compare _ [CmpOp.Gt] _ _) _ _ _) _) _ _ _); (fail_if_success (with_reducible show wpAny _ _ _ (CutEnd _) _ _)); refine Stop.intro ?_)
  k_with "pick" => (repeat (first | exact List.forall_mem_nil _ | (refine List.forall_mem_cons.mpr ⟨by k_mem, ?_⟩) | k_extra "sub"))
  k_with "call type:list" => (k_here; (with_reducible show wpAny _ _ (call (Value.type _) [Value.ref _]) _ _ _); (rename IsRange _ _ _ _ _ _ _ _ => rgX); (with_unfolding_all refine' kll_range (by first | (k_dflt (rfl)) | fail) (by first | (k_dflt (k_asm)) | fail) (by first | (k_dflt (k_asm)) | fail) (by first | (k_dflt (exact rgX)) | fail) (by first | (k_dflt (exact small_one (by omega) (by omega) (by omega) (by omega))) | fail) (by first | (k_dflt (exact rangeSize_nat _ _)) | fail) (by first | (k_dflt (omega)) | fail) ?_; k_whole); intro D' vs' c' h' tk' F' N' l1 hI'; (try k_sweep))
  k_with "compareOp NotEq ref ref" => (refine Stop.intro ?_)
  k_with "exec Assign cons ListComp" => (k_here; k_dflt (refine LCg.Assign_ListComp_U (F₀ := by k_asm) (by rfl) (by with_unfolding_all rfl) (by with_unfolding_all rfl) (by decide) (by rfl) (by decide) (by rfl) (by rfl) (by rfl) ?_))
  k_with "ix" => (exact Ix.double (by k_mem) (by k_mem) (by assumption) (by assumption) (by k_mem) (Fracs.mono (by assumption) (by k_extra "sub")) (by k_extra "len") (by assumption))
  exact True.intro
--menus
local macro_rules | `(tactic| walk_at "compareOp NotEq ref ref") => `(tactic| (k_here; (with_reducible show wpAny _ _ (compareOp CmpOp.NotEq (Value.ref _) (Value.ref _)) _ _ _); (rename (OIs _ (wholePlaces midOf _)) => hmid9); k_dflt (refine' said_ne_same ?N ?a ?b ?c ?d ?e ?f ?u ?g ?_; (case N => k_asm); (case a => k_mem); (case b => k_mem); (case c => exact hmid9); (case d => k_mem); (case e => k_mem); (case f => exact OIs.ofRange1 (by assumption)); (case g => exact mid_law _); (case u => exact Nat.le_of_ble_eq_true rfl); k_whole)))
local macro_rules | `(tactic| k_qdec) => `(tactic| decide +kernel)
theorem words23 : True := by
  k_with "subscriptTail" => ((with_reducible show wpAny _ _ (subscriptTail _ _ (Value.ref _) (Value.int _ _)) _ _ _); refine Stop.intro ?_)
  k_with "subscriptTail" => (k_here; (with_reducible show wpAny _ _ (subscriptTail _ _ (Value.ref _) (Value.int _ _)) _ _ _); (with_unfolding_all refine' item_two (by first | (k_dflt (k_asm)) | fail) (by first | (k_dflt (k_mem)) | fail) (by first | (k_dflt (assumption)) | fail) (by first | (k_dflt (assumption)) | fail) ?_ (by first | (k_dflt (with_unfolding_all rfl)) | fail); k_whole); intro v9 d9 hd9 hv9)
  k_with "subscriptTail" => (k_here; (with_reducible show wpAny _ _ (subscriptTail _ _ (Value.ref _) (Value.int _ _)) _ _ _); (with_unfolding_all refine' item_oi (ds := menuI) (by first | (k_dflt (k_asm)) | fail) (by first | (k_dflt (k_mem)) | fail) (by first | (k_dflt (exact OIs.cons (.some _ _) (OIs.cons (.some _ _) (OIs.cons .none (OIs.nil))))) | fail) (by first | (k_dflt (assumption)) | fail) (by first | (k_dflt ((have e9 : menuI.length = 3 := rfl; omega))) | fail) (by first | (k_dflt (omega)) | fail) ?_ (by first | (k_dflt (with_unfolding_all rfl)) | fail); k_whole); intro v9 d9 hd9 hv9)
  k_with "subscriptTail" => (k_here; (with_reducible show wpAny _ _ (subscriptTail _ _ (Value.ref _) (Value.int _ _)) _ _ _); (with_unfolding_all refine' item_os (ds := menuN) (by first | (k_dflt (k_asm)) | fail) (by first | (k_dflt (k_mem)) | fail) (by first | (k_dflt (exact OSs.cons (.some _ _) (OSs.cons (.some _ _) (OSs.cons (.some _ _) (OSs.cons (.some _ _) (OSs.cons .none (OSs.cons (.some _ _) (OSs.nil)))))))) | fail) (by first | (k_dflt (assumption)) | fail) (by first | (k_dflt ((have e9 : menuN.length = 6 := rfl; omega))) | fail) (by first | (k_dflt (omega)) | fail) ?_ (by first | (k_dflt (with_unfolding_all rfl)) | fail); k_whole); intro v9 d9 hd9 hv9)
  k_with "subscriptTail" => (k_here; (with_reducible show wpAny _ _ (subscriptTail _ _ (Value.ref _) (Value.int _ _)) _ _ _); (with_unfolding_all refine' item_os (ds := menuT) (by first | (k_dflt (k_asm)) | fail) (by first | (k_dflt (k_mem)) | fail) (by first | (k_dflt (exact OSs.cons (.some _ _) (OSs.cons (.some _ _) (OSs.cons (.some _ _) (OSs.cons (.some _ _) (OSs.cons .none (OSs.cons (.some _ _) (OSs.cons (.some _ _) (OSs.nil))))))))) | fail) (by first | (k_dflt (assumption)) | fail) (by first | (k_dflt ((have e9 : menuT.length = 7 := rfl; omega))) | fail) (by first | (k_dflt (omega)) | fail) ?_ (by first | (k_dflt (with_unfolding_all rfl)) | fail); k_whole); intro v9 d9 hd9 hv9)
  k_with "call ref" => (k_here; (with_reducible show wpAny _ _ (call (Value.ref 241) _) _ _ _); k_dflt (refine' said_bad2 (by first | (k_asm) | fail) (by first | (k_asm) | fail) (by first | (k_asm) | fail) (by first | (k_asm) | fail) (by first | (k_asm) | fail) (by first | (rfl) | fail) (by first | (exact Nat.le_of_ble_eq_true rfl) | fail) (by first | (exact Nat.le_of_ble_eq_true rfl) | fail) (by first | (assumption) | fail) (by first | (assumption) | fail) (by first | (k_mem) | fail) (by first | (k_mem) | fail) (by first | (assumption) | fail) (by first | (assumption) | fail) (by first | (k_mem) | fail) (by first | (first | exact OIs.cons (.some _ _) (OIs.cons (.some _ _) (OIs.cons (.some _ _) OIs.nil)) | exact OIs.cons (.some _ _) (OIs.cons (.some _ _) (OIs.cons .none OIs.nil))) | fail) (by first | (decide) | fail) (by first | (omega) | fail) (by first | (decide) | fail) (by first | (decide) | fail) (by first | (first | exact if_neg (by decide) | exact if_pos (by decide)) | fail) ?_; k_whole); intro t9 news9 h9 tk9 F9 N9 hs9; (replace N9 := news_sub N9 hs9); clear hs9)
  k_with "ix" => (exact Ix.integer (ds := midOf) (by k_mem) (by k_mem) (by assumption) (by assumption) (by k_mem) (OIs.cons (.some _ _) (OIs.cons (.some _ _) (OIs.cons (.some _ _) OIs.nil))) (by decide) (.inr mid_places))
  exact True.intro
theorem law_ok : PySem.Challenge.rw_ov0054_01.Holds := by
  refine hd ?_
  k_go0
  all_goals (try k_fold)
  rename Fr _ _ _ _ => F1
  rename News _ _ _ _ => N1
  rename Below _ _ _ _ => K0
  rename Top _ _ _ _ _ _ => T0
  rename Frag.In _ _ => X0
  rename (¬ (63 : Int) < _) => hlen
  rename List Int => sc
  rename Shared => s1
  dsimp only at F1 N1 ⊢
  try (rename (Heap.CodeRec _ _ _) => hcd9; clear hcd9)
  try (rename (Dflts _ _ _ _) => hcd9; clear hcd9)
  try (rename (Ground _ _ _ _ _ _ _ _ _) => gd9; clear gd9)
  try (rename (Hook.says _ _ _) => hs9; clear hs9)
  replace F1 : Fr _ _ _ (fun y => if y = Str.ofString "script" then some (.ref _) else none) := F1
  have mark : True := trivial
  iterate 26 (walk1)
  rename Fr _ _ _ _ => F2
  rename News _ _ _ _ => N2
  rename (Obj.data _ = Data.cell (some _)) => hq2
  rename (IntsAre _ (List.take _ _)) => hi2
  have pk : ∃ b c ob oq cs scs nc, News _ _ _ [(b, ob), (c, listOf cs.toArray nc), (s1.heap.objs.size + 1, oq)] ∧ Bk 0 c ob ∧ (@Ne Nat c b) ∧ (@Ne Nat (s1.heap.objs.size + 1) b) ∧ oq.data = .cell (some (.ref b)) ∧ IntsAre cs scs ∧ 0 < scs.length ∧ scs.length ≤ 40 :=
    ⟨_, _, _, _, _, _, _, news_sub N2 (fun p hp => by
      rcases List.mem_cons.mp hp with rfl | hp
      · exact .head _
      rcases List.mem_cons.mp hp with rfl | hp
      · exact .tail _ (.head _)
      rw [List.mem_singleton.mp hp]
      exact .tail _ (.tail _ (.tail _ (.tail _ (.head _))))), ⟨0, 0, _, _, _, rfl, Int.le_refl _, Int.le_refl _, Int.le_refl _⟩, by k_ne, by k_ne, hq2, hi2, by rw [List.length_take, List.length_append]; simp; omega, List.length_take_le _ _⟩
  obtain ⟨b, c, ob, oq, cs, scs, nc, N3, hB3, hcb, hqb, hq3, hi3, hne3, hle3⟩ := pk
  clear N2
  iterate 31 (walk1)
  k_steps
  refine Stop.of ?_
  rename Fr _ _ _ _ => F2
  rename News _ _ _ _ => N2
  rename (Bk (0 + 1) _ _) => hB4
  rename Obj => ob4
  rename (_ < (7 : Int)) => hn7
  rename ((0 : Int) ≤ _) => hn0
  obtain ⟨n, hn⟩ := Int.eq_ofNat_of_zero_le hn0
  subst hn
  have hnn : n < 7 := by omega
  have N4 : News _ _ _ [(b, ob4), (c, listOf cs.toArray nc), (s1.heap.objs.size + 1, oq)] := news_sub N2 (by k_extra "pick")
  clear N2
  refine cut_state (fun f h' tk' => f = Flow.next ∧ ∃ (nv : Value) (tn : Tok) (r : Str → Option Value) (nm : Option (List (Option Str))) (ob' : Obj) (nws : List (Addr × Obj)), Fr s1.heap s1.heap.objs.size h' (fun y => if y = Str.ofString "names" then some nv else if y = Str.ofString "count" then some (.int (n : Int) tn) else r y) ∧ News s1.heap s1.heap.objs.size h' ((b, ob') :: (c, listOf cs.toArray nc) :: (s1.heap.objs.size + 1, oq) :: nws) ∧ Bk 20 c ob' ∧ NamesAre nws nv nm ∧ (∀ ns, nm = some ns → ns.length = n ∧ StrsOk ns) ∧ (∀ p ∈ nws, p.1 ≠ b)) ?_ ?_
  · intro Q9 hQ9
    have mark : True := trivial
    k_steps
    · refine Stop.of ?_
      rename IsRange _ _ _ _ _ _ _ _ => R1
      rename Fr _ _ _ _ => F1
      rename News _ _ _ _ => N1
      rename (Bk (0 + 1 + 1) _ _) => hB5
      rename (Bk (0 + 1) _ _) => hB6
      clear hB6
      refine LCg.CompSrc.range rfl F1 N1 R1 (small_range (by omega)) (size_range _) (by rw [sizeLine_eq]; omega) fun g9 => ?_
      refine comp_inv (J := fun i ys nw => ∃ ob' ds, nw = [(b, ob'), (c, listOf cs.toArray nc), (s1.heap.objs.size + 1, oq)] ∧ Bk (2 + i) c ob' ∧ OSs ys ds ∧ ds.length = i ∧ ∀ d ∈ ds, d ∈ menuN) ⟨_, [], rfl, hB5.up (by omega), OSs.nil, rfl, fun _ h => nomatch h⟩ ?_ ?_
      · clear F1 N1 R1 hB5
        rintro i v ys nw I oI C oC D m₂ h tk E' hin ⟨t, rfl⟩ ⟨ob', ds, rfl, hB, hys, hdl, hdm⟩ hC hx F N off ne
        have hzi : (0 : Int) + (i : Int) = (i : Int) := by omega
        rw [hzi] at hx
        k_steps
        all_goals (rename (Bk (2 + (i : Int) + 1) _ _) => hB9; replace hB9 := hB9.up (K' := 2 + ((i + 1 : Nat) : Int)) (by omega); refine Stop.of (LCg.CompEnd.intro (by assumption) (by assumption) _ (by k_extra "pick") (by exact off) trivial ⟨_, ds ++ [_], rfl, hB9, hys.snoc (by assumption), by simp [hdl], snoc_mem hdm (List.mem_of_getElem? (by assumption))⟩))
      rintro ys nw ⟨ob', ds, rfl, hB, hys, hdl, hdm⟩ D h tk F N off
      clear F1 N1 R1 hB5
      k_steps
      refine hQ9 _ _ _ ⟨rfl, .ref D, _, _, some ds, ob', [(D, LCg.lst ys)], fr_twice F, news_sub (by assumption) (by k_extra "pick"), hB.up (by omega), .some (.head _) hys (by omega), fun ns e => (by cases e; exact ⟨hdl, strs_menu hdm menuN_ok⟩), fun p hp => (by rw [List.mem_singleton.mp hp]; exact (off.1).symm)⟩
    · refine hQ9 _ _ _ ⟨rfl, .none, _, _, none, _, [], by assumption, news_sub (by assumption) (by k_extra "pick"), (by assumption : Bk (0 + 1 + 1) c _).up (by omega), .none, (fun ns e => nomatch e), (fun p hp => nomatch hp)⟩
  intro Q8 hQ8
  rintro f h' tk' ⟨rfl, nv, tn, r, nm, ob5, nws, F5, N5, hB5, hnm, hn, hnws⟩
  refine hQ8 _ _ ?_
  clear hQ8
  dsimp only
  clear F2 N4 hB4
  walk1
  refine cut_state (fun f h' tk' => f = Flow.next ∧ Fr s1.heap s1.heap.objs.size h' (fun y => if y = Str.ofString "names" then some nv else if y = Str.ofString "count" then some (.int (n : Int) tn) else r y) ∧ News s1.heap s1.heap.objs.size h' ((b, ob5) :: (c, listOf cs.toArray nc) :: (s1.heap.objs.size + 1, oq) :: nws)) ?_ ?_
  · intro Q9 hQ9
    k_steps
    exact hQ9 _ _ _ ⟨rfl, by assumption, news_sub (by assumption) (by k_extra "pick")⟩
  try clear F5 N5
  intro Q8 hQ8
  rintro f h' tk' ⟨rfl, F5, N5⟩
  refine hQ8 _ _ ?_
  clear hQ8
  dsimp only
  walk1
  refine cut_state (fun f h' tk' => f = Flow.next ∧ ∃ (ob' : Obj) (D : Addr) (ys : List Value) (ds : List (Option Int)), Fr s1.heap s1.heap.objs.size h' (fun y => if y = Str.ofString "truths" then some (.ref D) else if y = Str.ofString "names" then some nv else if y = Str.ofString "count" then some (.int (n : Int) tn) else r y) ∧ News s1.heap s1.heap.objs.size h' ((b, ob') :: (c, listOf cs.toArray nc) :: (s1.heap.objs.size + 1, oq) :: (D, LCg.lst ys) :: nws) ∧ Bk 40 c ob' ∧ D ≠ b ∧ OIs ys ds ∧ ds.length < 9 ∧ ∀ d ∈ ds, d ∈ menuI) ?_ ?_
  · intro Q9 hQ9
    k_steps
    refine Stop.of ?_
    rename IsRange _ _ _ _ _ _ _ _ => R1
    rename Fr _ _ _ _ => F1
    rename News _ _ _ _ => N1
    rename (Bk (20 + 1) _ _) => hB6
    rename Obj => ob6
    rename (_ < (9 : Int)) => ht7
    rename ((0 : Int) ≤ _) => ht0
    obtain ⟨nt, hnt⟩ := Int.eq_ofNat_of_zero_le ht0
    subst hnt
    have htt : nt < 9 := by omega
    refine LCg.CompSrc.range rfl F1 N1 R1 (small_range (by omega)) (size_range _) (by rw [sizeLine_eq]; omega) fun g9 => ?_
    refine comp_inv (J := fun i ys nw => ∃ ob' ds, nw = (b, ob') :: (c, listOf cs.toArray nc) :: (s1.heap.objs.size + 1, oq) :: nws ∧ Bk (21 + i) c ob' ∧ OIs ys ds ∧ ds.length = i ∧ ∀ d ∈ ds, d ∈ menuI) ⟨_, [], rfl, hB6.up (by omega), OIs.nil, rfl, fun _ h => nomatch h⟩ ?_ ?_
    · clear F1 N1 R1 hB6
      rintro i v ys nw I oI C oC D m₂ h tk E' hin ⟨t, rfl⟩ ⟨ob', ds, rfl, hB, hys, hdl, hdm⟩ hC hx F N off ne
      have hzi : (0 : Int) + (i : Int) = (i : Int) := by omega
      rw [hzi] at hx
      k_steps
      all_goals (rename (Bk (21 + (i : Int) + 1) _ _) => hB9; replace hB9 := hB9.up (K' := 21 + ((i + 1 : Nat) : Int)) (by omega); refine Stop.of (LCg.CompEnd.intro (by assumption) (by assumption) _ (by k_extra "pick") (by exact off) trivial ⟨_, ds ++ [_], rfl, hB9, hys.snoc (by assumption), by simp [hdl], snoc_mem hdm (List.mem_of_getElem? (by assumption))⟩))
    rintro ys nw ⟨ob', ds, rfl, hB, hys, hdl, hdm⟩ D h tk F N off
    clear F1 N1 R1 hB6
    k_steps
    refine hQ9 _ _ _ ⟨rfl, ob', D, ys, ds, by assumption, news_sub (by assumption) (by k_extra "pick"), hB.up (by omega), off.1.symm, hys, by omega, hdm⟩
  try clear F5 N5
  intro Q8 hQ8
  rintro f h' tk' ⟨rfl, ob6, Dt, vt, dt, F5, N5, hB6, hdb, hit, hlt, hmt⟩
  refine hQ8 _ _ ?_
  clear hQ8
  dsimp only
  walk1
  refine cut_state (fun f h' tk' => f = Flow.next ∧ Fr s1.heap s1.heap.objs.size h' (fun y => if y = Str.ofString "truths" then some (.ref Dt) else if y = Str.ofString "names" then some nv else if y = Str.ofString "count" then some (.int (n : Int) tn) else r y) ∧ News s1.heap s1.heap.objs.size h' ((b, ob6) :: (c, listOf cs.toArray nc) :: (s1.heap.objs.size + 1, oq) :: nws)) ?_ ?_
  · intro Q9 hQ9
    have hmt' := menuI_ok hmt
    k_steps
    exact hQ9 _ _ _ ⟨rfl, by assumption, news_sub (by assumption) (by k_extra "pick")⟩
  try clear F5 N5
  intro Q8 hQ8
  rintro f h' tk' ⟨rfl, F5, N5⟩
  refine hQ8 _ _ ?_
  clear hQ8
  clear hit hlt hmt hdb
  dsimp only
  walk1
  refine cut_state (fun f h' tk' => f = Flow.next ∧ ∃ (ob' : Obj) (D : Addr) (ys : List Value) (ds : List Int), Fr s1.heap s1.heap.objs.size h' (fun y => if y = Str.ofString "away" then some (.ref D) else if y = Str.ofString "truths" then some (.ref Dt) else if y = Str.ofString "names" then some (nv) else if y = Str.ofString "count" then some (.int (n : Int) tn) else r y) ∧ News s1.heap s1.heap.objs.size h' ((b, ob') :: (c, listOf cs.toArray nc) :: (s1.heap.objs.size + 1, oq) :: (D, LCg.lst ys) :: nws) ∧ Bk 60 c ob' ∧ D ≠ b ∧ IntsAre ys ds ∧ ds.length < 9 ∧ ∀ d ∈ ds, 1 ≤ d) ?_ ?_
  · intro Q9 hQ9
    k_steps
    refine Stop.of ?_
    rename IsRange _ _ _ _ _ _ _ _ => R1
    rename Fr _ _ _ _ => F1
    rename News _ _ _ _ => N1
    rename (Bk (40 + 1) _ _) => hB7
    rename (_ < (5 : Int)) => ht7
    rename ((0 : Int) ≤ _) => ht0
    obtain ⟨nt, hnt⟩ := Int.eq_ofNat_of_zero_le ht0
    subst hnt
    have htt : nt < 5 := by omega
    refine LCg.CompSrc.range rfl F1 N1 R1 (small_range (by omega)) (size_range _) (by rw [sizeLine_eq]; omega) fun g9 => ?_
    refine comp_inv (J := fun i ys nw => ∃ ob' ds, nw = (b, ob') :: (c, listOf cs.toArray nc) :: (s1.heap.objs.size + 1, oq) :: nws ∧ Bk (41 + i) c ob' ∧ IntsAre ys ds ∧ ds.length = i ∧ ∀ d ∈ ds, 1 ≤ d) ⟨_, [], rfl, hB7.up (by omega), .nil, rfl, fun _ h => nomatch h⟩ ?_ ?_
    · clear F1 N1 R1 hB7
      rintro i v ys nw I oI C oC D m₂ h tk E' hin ⟨t, rfl⟩ ⟨ob', ds, rfl, hB, hys, hdl, hdm⟩ hC hx F N off ne
      have hzi : (0 : Int) + (i : Int) = (i : Int) := by omega
      rw [hzi] at hx
      k_steps
      all_goals (rename (Bk (41 + (i : Int) + 1) _ _) => hB9; replace hB9 := hB9.up (K' := 41 + ((i + 1 : Nat) : Int)) (by omega); refine Stop.of (LCg.CompEnd.intro (by assumption) (by assumption) _ (by k_extra "pick") (by exact off) trivial ⟨_, ds ++ [_], rfl, hB9, IntsAre.snoc hys _ _, by simp [hdl], pos_snoc hdm (by assumption)⟩))
    rintro ys nw ⟨ob', ds, rfl, hB, hys, hdl, hdm⟩ D h tk F N off
    clear F1 N1 R1 hB7
    k_steps
    refine hQ9 _ _ _ ⟨rfl, ob', D, ys, ds, by assumption, news_sub (by assumption) (by k_extra "pick"), hB.up (by omega), off.1.symm, hys, by omega, hdm⟩
  try clear F5 N5
  intro Q8 hQ8
  rintro f h' tk' ⟨rfl, ob7, Da, va, da, F5, N5, hB7, hdb, hia, hla, hma⟩
  refine hQ8 _ _ ?_
  clear hQ8
  dsimp only
  try clear hB6
  walk1
  refine cut_state (fun f h' tk' => f = Flow.next ∧ Fr s1.heap s1.heap.objs.size h' (fun y => if y = Str.ofString "away" then some (.ref Da) else if y = Str.ofString "truths" then some (.ref Dt) else if y = Str.ofString "names" then some (nv) else if y = Str.ofString "count" then some (.int (n : Int) tn) else r y) ∧ News s1.heap s1.heap.objs.size h' ((b, ob7) :: (c, listOf cs.toArray nc) :: (s1.heap.objs.size + 1, oq) :: nws)) ?_ ?_
  · intro Q9 hQ9
    k_steps
    exact hQ9 _ _ _ ⟨rfl, by assumption, news_sub (by assumption) (by k_extra "pick")⟩
  try clear F5 N5
  intro Q8 hQ8
  rintro f h' tk' ⟨rfl, F5, N5⟩
  refine hQ8 _ _ ?_
  clear hQ8
  dsimp only
  clear hdb hia hla hma
  try clear hB6
  walk1
  refine cut_state (fun f h' tk' => f = Flow.next ∧ ∃ (ob' : Obj) (D : Addr) (ys : List Value) (ds : List (Option Int)), Fr s1.heap s1.heap.objs.size h' (fun y => if y = Str.ofString "whole_ones" then some (.ref D) else if y = Str.ofString "away" then some (.ref Da) else if y = Str.ofString "truths" then some (.ref Dt) else if y = Str.ofString "names" then some (nv) else if y = Str.ofString "count" then some (.int (n : Int) tn) else r y) ∧ News s1.heap s1.heap.objs.size h' ((b, ob') :: (c, listOf cs.toArray nc) :: (s1.heap.objs.size + 1, oq) :: (D, LCg.lst ys) :: nws) ∧ Bk 100 c ob' ∧ D ≠ b ∧ OIs ys ds ∧ ds.length < 6 ∧ OnesOk ds) ?_ ?_
  · intro Q9 hQ9
    k_steps
    refine Stop.of ?_
    rename IsRange _ _ _ _ _ _ _ _ => R1
    rename Fr _ _ _ _ => F1
    rename News _ _ _ _ => N1
    rename (Bk (60 + 1) _ _) => hB8
    rename (_ < (6 : Int)) => ht7
    rename ((0 : Int) ≤ _) => ht0
    obtain ⟨nt, hnt⟩ := Int.eq_ofNat_of_zero_le ht0
    subst hnt
    have htt : nt < 6 := by omega
    refine LCg.CompSrc.range rfl F1 N1 R1 (small_range (by omega)) (size_range _) (by rw [sizeLine_eq]; omega) fun g9 => ?_
    refine comp_inv (J := fun i ys nw => ∃ ob' ds, nw = (b, ob') :: (c, listOf cs.toArray nc) :: (s1.heap.objs.size + 1, oq) :: nws ∧ Bk (61 + 2 * i) c ob' ∧ OIs ys ds ∧ ds.length = i ∧ OnesOk ds) ⟨_, [], rfl, hB8.up (by omega), OIs.nil, rfl, OnesOk.nil⟩ ?_ ?_
    · clear F1 N1 R1 hB8
      rintro i v ys nw I oI C oC D m₂ h tk E' hin ⟨t, rfl⟩ ⟨ob', ds, rfl, hB, hys, hdl, hdm⟩ hC hx F N off ne
      have hzi : (0 : Int) + (i : Int) = (i : Int) := by omega
      rw [hzi] at hx
      have mark : True := trivial
      k_steps
      all_goals (rename (Bk (61 + 2 * (i : Int) + 1 + 1) _ _) => hB9; replace hB9 := hB9.up (K' := 61 + 2 * ((i + 1 : Nat) : Int)) (by omega); refine Stop.of (LCg.CompEnd.intro (by assumption) (by assumption) _ (by k_extra "pick") (by exact off) trivial ⟨_, ds ++ [_], rfl, hB9, hys.snoc (by assumption), by simp [hdl], OnesOk.snoc hdm (by assumption) (by assumption) (by assumption)⟩))
    rintro ys nw ⟨ob', ds, rfl, hB, hys, hdl, hdm⟩ D h tk F N off
    clear F1 N1 R1 hB8
    k_steps
    refine hQ9 _ _ _ ⟨rfl, ob', D, ys, ds, by assumption, news_sub (by assumption) (by k_extra "pick"), hB.up (by omega), off.1.symm, hys, by omega, hdm⟩
  try clear F5 N5
  intro Q8 hQ8
  rintro f h' tk' ⟨rfl, ob8, Dw, vw, dw, F5, N5, hB8, hwb, hiw, hlw, hmw⟩
  refine hQ8 _ _ ?_
  clear hQ8
  dsimp only
  try clear hB7
  walk1
  refine cut_state (fun f h' tk' => f = Flow.next ∧ ∃ (D : Addr) (ys : List Value), Fr s1.heap s1.heap.objs.size h' (fun y => if y = Str.ofString "places" then some (.ref D) else if y = Str.ofString "whole_ones" then some (.ref Dw) else if y = Str.ofString "away" then some (.ref Da) else if y = Str.ofString "truths" then some (.ref Dt) else if y = Str.ofString "names" then some (nv) else if y = Str.ofString "count" then some (.int (n : Int) tn) else r y) ∧ News s1.heap s1.heap.objs.size h' ((b, ob8) :: (c, listOf cs.toArray nc) :: (s1.heap.objs.size + 1, oq) :: (D, LCg.lst ys) :: (Dw, LCg.lst vw) :: nws) ∧ D ≠ b ∧ OIs ys (dw.map down1)) ?_ ?_
  · intro Q9 hQ9
    k_steps
    refine Stop.of ?_
    rename Fr _ _ _ _ => F1
    rename News _ _ _ _ => N1
    have hvl := hiw.length
    refine LCg.CompSrc.ledger rfl F1 N1 (by k_mem) (by rw [sizeLine_eq, List.size_toArray]; omega) fun g9 => ?_
    refine comp_inv (J := fun i ys nw => nw = (b, ob8) :: (c, listOf cs.toArray nc) :: (s1.heap.objs.size + 1, oq) :: (Dw, LCg.lst vw) :: nws ∧ OIs ys ((dw.take i).map down1)) ⟨rfl, OIs.nil⟩ ?_ ?_
    · clear F1 N1
      rintro i v ys nw I oI C oC D m₂ h tk E' hin hv ⟨rfl, hys⟩ hC hx F N off ne
      rw [List.getElem?_toArray] at hv
      obtain ⟨d, hd, hvd⟩ := hiw.get hv
      rw [take_snoc hd, List.map_append]
      cases hvd with
      | none =>
        k_steps
        exact Stop.of (LCg.CompEnd.intro (by assumption) (by assumption) _ (by k_extra "pick") (by exact off) (.inr ⟨_, by k_mem, rfl, _, rfl⟩) ⟨rfl, hys.snoc .none⟩)
      | some k tk9 =>
        k_steps
        exact Stop.of (LCg.CompEnd.intro (by assumption) (by assumption) _ (by k_extra "pick") (by exact off) (.inr ⟨_, by k_mem, rfl, _, rfl⟩) ⟨rfl, hys.snoc (.some _ _)⟩)
    rintro ys nw ⟨rfl, hys⟩ D h tk F N off
    clear F1 N1
    rw [List.size_toArray, take_all hvl] at hys
    k_steps
    refine hQ9 _ _ _ ⟨rfl, D, ys, by assumption, news_sub (by assumption) (by k_extra "pick"), off.1.symm, hys⟩
  try clear F5 N5
  intro Q8 hQ8
  rintro f h' tk' ⟨rfl, Dp, vp, F5, N5, hpb, hip⟩
  refine hQ8 _ _ ?_
  clear hQ8
  dsimp only
  walk1
  refine cut_state (fun f h' tk' => f = Flow.next ∧ ∃ (Tt : Addr) (n0 : Nat), Fr s1.heap s1.heap.objs.size h' (fun y => if y = Str.ofString "thinned" then some (.ref Tt) else if y = Str.ofString "places" then some (.ref Dp) else if y = Str.ofString "whole_ones" then some (.ref Dw) else if y = Str.ofString "away" then some (.ref Da) else if y = Str.ofString "truths" then some (.ref Dt) else if y = Str.ofString "names" then some (nv) else if y = Str.ofString "count" then some (.int (n : Int) tn) else r y) ∧ News s1.heap s1.heap.objs.size h' ((b, ob8) :: (Tt, listOf ([] : List Value).toArray n0) :: (c, listOf cs.toArray nc) :: (s1.heap.objs.size + 1, oq) :: (Dp, LCg.lst vp) :: (Dw, LCg.lst vw) :: nws) ∧ ∀ p ∈ (b, ob8) :: (c, listOf cs.toArray nc) :: (s1.heap.objs.size + 1, oq) :: (Dp, LCg.lst vp) :: (Dw, LCg.lst vw) :: nws, p.1 ≠ Tt) ?_ ?_
  · intro Q9 hQ9
    k_steps
    exact hQ9 _ _ _ ⟨rfl, _, _, by assumption, news_sub (by assumption) (by k_extra "pick"), by k_all⟩
  try clear F5 N5
  intro Q8 hQ8
  rintro f h' tk' ⟨rfl, Tt, n0, F5, N5, hoT⟩
  refine hQ8 _ _ ?_
  clear hQ8
  dsimp only
  walk1
  refine cut_state (fun f h' tk' => f = Flow.next ∧ ∃ (Tb : Addr) (n1 : Nat), Fr s1.heap s1.heap.objs.size h' (fun y => if y = Str.ofString "broken" then some (.ref Tb) else if y = Str.ofString "thinned" then some (.ref Tt) else if y = Str.ofString "places" then some (.ref Dp) else if y = Str.ofString "whole_ones" then some (.ref Dw) else if y = Str.ofString "away" then some (.ref Da) else if y = Str.ofString "truths" then some (.ref Dt) else if y = Str.ofString "names" then some (nv) else if y = Str.ofString "count" then some (.int (n : Int) tn) else r y) ∧ News s1.heap s1.heap.objs.size h' ((b, ob8) :: (Tt, listOf ([] : List Value).toArray n0) :: (Tb, listOf ([] : List Value).toArray n1) :: (c, listOf cs.toArray nc) :: (s1.heap.objs.size + 1, oq) :: (Dp, LCg.lst vp) :: (Dw, LCg.lst vw) :: nws) ∧ ∀ p ∈ (b, ob8) :: (Tt, listOf ([] : List Value).toArray n0) :: (c, listOf cs.toArray nc) :: (s1.heap.objs.size + 1, oq) :: (Dp, LCg.lst vp) :: (Dw, LCg.lst vw) :: nws, p.1 ≠ Tb) ?_ ?_
  · intro Q9 hQ9
    k_steps
    exact hQ9 _ _ _ ⟨rfl, _, _, by assumption, news_sub (by assumption) (by k_extra "pick"), by k_all⟩
  try clear F5 N5
  intro Q8 hQ8
  rintro f h' tk' ⟨rfl, Tb, n1, F5, N5, hoB⟩
  refine hQ8 _ _ ?_
  clear hQ8
  dsimp only
  walk1
  have hob : @Ne Nat b Tb := hoB _ (.head _)
  have hot : @Ne Nat b Tt := hoT _ (.head _)
  have htb : @Ne Nat Tt Tb := hoB _ (.tail _ (.head _))
  refine cut_state (fun f h' tk' => f = Flow.next ∧ ∃ (st : LoopSt) (r' : Str → Option Value), Fr s1.heap s1.heap.objs.size h' (fun y => if y = Str.ofString "broken" then some (.ref Tb) else if y = Str.ofString "thinned" then some (.ref Tt) else if y = Str.ofString "places" then some (.ref Dp) else if y = Str.ofString "names" then some nv else if y = Str.ofString "count" then some (.int (n : Int) tn) else r' y) ∧ News s1.heap s1.heap.objs.size h' ((b, st.ob) :: (Tt, listOf st.tv.toArray st.tn) :: (Tb, listOf st.bv.toArray st.bn) :: st.pairs ++ ((c, listOf cs.toArray nc) :: (s1.heap.objs.size + 1, oq) :: (Dp, LCg.lst vp) :: nws)) ∧ LoopOk b c Tt Tb dw 6 st ∧ ∀ p ∈ st.pairs ++ ((c, listOf cs.toArray nc) :: (s1.heap.objs.size + 1, oq) :: (Dp, LCg.lst vp) :: nws), (@Ne Nat p.1 b)) ?_ ?_
  · intro Q9 hQ9
    k_steps
    refine Stop.of ?_
    rename Fr _ _ _ _ => F1
    rename News _ _ _ _ => N1
    have hvl := hiw.length
    refine for_list (σ := LoopSt) (news := (c, listOf cs.toArray nc) :: (s1.heap.objs.size + 1, oq) :: (Dp, LCg.lst vp) :: (Dw, LCg.lst vw) :: nws) (fun st => (b, st.ob) :: (Tt, listOf st.tv.toArray st.tn) :: (Tb, listOf st.bv.toArray st.bn) :: st.pairs) (fun _ => []) [Str.ofString "over"] (fun i st => LoopOk b c Tt Tb (dw.take i) i st) ⟨[], n0, [], n1, ob8, []⟩ rfl (by k_mem) F1 N1 ?_ ?_ ?_ ?_ ?_
    · exact ledOff3 (List.forall_mem_cons.mpr ⟨hcb, List.forall_mem_cons.mpr ⟨hqb, List.forall_mem_cons.mpr ⟨hpb, List.forall_mem_cons.mpr ⟨hwb, hnws⟩⟩⟩⟩) (fun q hq => hoT q (.tail _ hq)) (fun q hq => hoB q (.tail _ (.tail _ hq)))
    · exact fun _ hp => nomatch hp
    · exact ⟨hB8.up (by omega), Thin.nil, Brok.nil _, fun _ hp => nomatch hp⟩
    · clear F1 N1
      intro i v st u rest h tk hv hP hsub hoff F N
      have hoffA := loop_off hoff
      obtain ⟨tv, tn', bv, bn, ob, pairs⟩ := st
      obtain ⟨hB, hT, hK, hpo⟩ := hP
      dsimp only [kstB, List.cons_append, List.nil_append] at F N hB hT hK hpo hoff hoffA
      obtain ⟨d, hd, hvd⟩ := hiw.get hv
      have hTl := hT.len
      have hKl := hK.len
      have hil := (List.getElem?_eq_some_iff.mp hd).1
      rw [List.length_take] at hTl hKl
      rw [take_snoc hd]
      have hoffb := hoff _ (.head _)
      have hoffT := hoff _ (.tail _ (.head _))
      have hoffB := hoff _ (.tail _ (.tail _ (.head _)))
      dsimp only at hoffb hoffT hoffB
      clear hoff
      generalize hrs : pairs ++ rest = rs at N
      have hcm : (c, listOf cs.toArray nc) ∈ rs := by rw [← hrs]; exact List.mem_append_right _ (hsub _ (by k_mem))
      have hqm : (s1.heap.objs.size + 1, oq) ∈ rs := by rw [← hrs]; exact List.mem_append_right _ (hsub _ (by k_mem))
      have hro1 : ∀ p ∈ rs, @Ne Nat p.1 b := by
        rw [← hrs]; intro p hp
        rcases List.mem_append.mp hp with hp | hp
        · exact (hpo p hp).1
        · exact hoffb p hp
      have hro2 : ∀ p ∈ rs, @Ne Nat p.1 Tt := by
        rw [← hrs]; intro p hp
        rcases List.mem_append.mp hp with hp | hp
        · exact (hpo p hp).2.1
        · exact hoffT p hp
      have hro3 : ∀ p ∈ rs, @Ne Nat p.1 Tb := by
        rw [← hrs]; intro p hp
        rcases List.mem_append.mp hp with hp | hp
        · exact (hpo p hp).2.2
        · exact hoffB p hp
      clear hoffb hoffT hoffB
      have hk0 : ∀ k, d = some k → 1 ≤ k := fun k e => (hmw k (e ▸ List.mem_of_getElem? hd)).1
      cases hvd with
      | none =>
        k_steps
        all_goals (rename (Bk (100 + 2 * (i : Int) + 1 + 1) _ _) => hB9)
        · exact loop_none (by assumption) (by assumption) hrs hB9 (hT.put2 _ .none hk0) hK hpo hoffA (by k_extra "turn map")
        · exact loop_none (by assumption) (by assumption) hrs hB9 (hT.put .none hk0) hK hpo hoffA (by k_extra "turn map")
      | some k tk9 =>
        have hk1 := hk0 k rfl
        k_steps
        all_goals (rename (Bk (100 + 2 * (i : Int) + 1 + 1) _ _) => hB9)
        all_goals (rename (_ ∧ _ ∧ _ ∧ AllLt _ _) => hl9)
        · exact loop_some (by assumption) (by assumption) hrs hB9 (hT.put2 _ (.some _ _) hk0) hK hpo hoffA hl9 (toWhole_one hk1) (by decide) (by decide) (by k_extra "turn map")
        · exact loop_some (by assumption) (by assumption) hrs hB9 (hT.put2 _ (.some _ _) hk0) hK hpo hoffA hl9 (toWhole_five hk1 (by assumption) (by assumption)) (by decide) (by decide) (by k_extra "turn map")
        · exact loop_some (by assumption) (by assumption) hrs hB9 (hT.put (.some _ _) hk0) hK hpo hoffA hl9 (toWhole_one hk1) (by decide) (by decide) (by k_extra "turn map")
        · exact loop_some (by assumption) (by assumption) hrs hB9 (hT.put (.some _ _) hk0) hK hpo hoffA hl9 (toWhole_five hk1 (by assumption) (by assumption)) (by decide) (by decide) (by k_extra "turn map")
    · clear F1 N1
      intro st u h tk hP hoff F N
      dsimp only [kstB, List.cons_append, List.nil_append] at F N hP
      rw [hvl, List.take_length] at hP
      have G1 := fr_put F (Str.ofString "count") (.int (n : Int) tn) rfl
      have G2 := fr_put G1 (Str.ofString "names") nv rfl
      have G3 := fr_put G2 (Str.ofString "places") (.ref Dp) rfl
      have G4 := fr_put G3 (Str.ofString "thinned") (.ref Tt) rfl
      have G5 := fr_put G4 (Str.ofString "broken") (.ref Tb) rfl
      refine hQ9 _ _ _ ⟨rfl, st, _, G5, news_sub N (sub_cons (sub_cons (sub_cons (sub_left (sub_cons (sub_cons (sub_cons fun p hp => .tail _ hp))))))), ⟨hP.1.up (by omega), hP.2⟩, fun p hp => ?_⟩
      rcases List.mem_append.mp hp with hp | hp
      · exact (hP.2.2.2 p hp).1
      · exact hoff _ (.head _) p (sub_cons (sub_cons (sub_cons fun p hp => .tail _ hp)) p hp)
  try clear F5 N5
  intro Q8 hQ8
  rintro f h' tk' ⟨rfl, st, r', F5, N5, hst, hbo⟩
  obtain ⟨tv, tn', bv, bn, ob9, pairs⟩ := st
  obtain ⟨hB9, hT9, hK9, hpo9⟩ := hst
  refine hQ8 _ _ ?_
  clear hQ8
  dsimp only
  dsimp only [List.cons_append] at F5 N5 hB9 hT9 hK9 hpo9 hbo
  walk1
  refine cut_state (fun f h' tk' => f = Flow.next ∧ ∃ (r' : Str → Option Value), Fr s1.heap s1.heap.objs.size h' (fun y => if y = Str.ofString "names" then some nv else if y = Str.ofString "count" then some (.int (n : Int) tn) else r' y) ∧ News s1.heap s1.heap.objs.size h' ((b, ob9) :: (c, listOf cs.toArray nc) :: (s1.heap.objs.size + 1, oq) :: nws)) ?_ ?_
  · intro Q9 hQ9
    obtain ⟨td, htd1, htd2, htd3, htd4⟩ := hT9
    obtain ⟨bd, hbd1, hbd2⟩ := hK9
    have hew1 : wholePlaces td n = dw.map down1 := thin_law htd2 htd3 n
    have hew2 : wholePlaces (bd.map wholeOf) n = dw.map down1 := by rw [hbd2]; exact ones_law hmw n
    have hok1 : outsOf td = [] ∨ placesOf td = [] := .inl htd2
    have hok2 : outsOf (bd.map wholeOf) = [] ∨ placesOf (bd.map wholeOf) = [] := .inl (by rw [hbd2]; exact ones_outs hmw)
    have htl : td.length < 20 := by omega
    have hbl : bd.length < 20 := by have := congrArg List.length hbd2; rw [List.length_map] at this; omega
    have htv : tv.length < 20 := by rw [htd1.length]; exact htl
    have hbv : bv.length < 20 := by rw [hbd1.1]; exact hbl
    generalize hrs : pairs ++ ((c, listOf cs.toArray nc) :: (s1.heap.objs.size + 1, oq) :: (Dp, LCg.lst vp) :: nws) = rs at N5
    have hcm : (c, listOf cs.toArray nc) ∈ rs := by rw [← hrs]; exact List.mem_append_right _ (.head _)
    have hqm : (s1.heap.objs.size + 1, oq) ∈ rs := by rw [← hrs]; exact List.mem_append_right _ (.tail _ (.head _))
    have hpm : (Dp, LCg.lst vp) ∈ rs := by rw [← hrs]; exact List.mem_append_right _ (.tail _ (.tail _ (.head _)))
    have hsb : ∀ p ∈ nws, p ∈ rs := by rw [← hrs]; exact fun p hp => List.mem_append_right _ (.tail _ (.tail _ (.tail _ hp)))
    have hnm9 : NamesAre rs nv nm := hnm.mono hsb
    have hfr9 : Fracs rs bv bd := hbd1.mono (by rw [← hrs]; exact fun p hp => List.mem_append_left _ hp)
    clear hnm hbd1 hrs hbo hpo9 hoB hoT
    have mark2 : True := trivial
    k_steps
    rename Fr _ _ _ _ => F9
    have G1 := fr_put F9 (Str.ofString "count") (.int (n : Int) tn) rfl
    have G2 := fr_put G1 (Str.ofString "names") nv rfl
    exact hQ9 _ _ _ ⟨rfl, _, G2, news_sub (by assumption) (List.forall_mem_cons.mpr ⟨by k_mem, List.forall_mem_cons.mpr ⟨by k_mem, List.forall_mem_cons.mpr ⟨by k_mem, fun p hp => by have h9 := hsb p hp; repeat (first | exact h9 | refine List.Mem.tail _ ?_)⟩⟩⟩)⟩
  clear F5 N5 hT9 hK9 hpo9 hbo hoB hoT hip hpb hiw hwb hlw hmw hob hot htb
  intro Q8 hQ8
  rintro f h' tk' ⟨rfl, r', F5, N5⟩
  refine hQ8 _ _ ?_
  clear hQ8
  dsimp only
  walk1
  refine cut_state (fun f h' tk' => f = Flow.next ∧ ∃ (D x y z : Addr) (nl : Nat) (n1 n2 n3 : Nat) (t1 t2 t3 t4 t5 t6 : Tok), Fr s1.heap s1.heap.objs.size h' (fun y => if y = Str.ofString "lost" then some (.ref D) else if y = Str.ofString "names" then some nv else if y = Str.ofString "count" then some (.int (n : Int) tn) else r' y) ∧ News s1.heap s1.heap.objs.size h' ((b, ob9) :: (c, listOf cs.toArray nc) :: (s1.heap.objs.size + 1, oq) :: (D, listOf [Value.ref x, .ref y, .ref z].toArray nl) :: (x, tupO [.int (-3) t1, .int 4 t2] n1) :: (y, tupO [.int 3 t3, .int 4 t4] n2) :: (z, tupO [.int 0 t5, .int 1 t6] n3) :: nws)) ?_ ?_
  · intro Q9 hQ9
    have mark2 : True := trivial
    k_steps
    exact hQ9 _ _ _ ⟨rfl, _, _, _, _, _, _, _, _, _, _, _, _, _, _, by assumption, news_sub (by assumption) (by k_extra "pick")⟩
  clear F5 N5
  intro Q8 hQ8
  rintro f h' tk' ⟨rfl, Dl, x1, y1, z1, nl, n1, n2, n3, t1, t2, t3, t4, t5, t6, F5, N5⟩
  refine hQ8 _ _ ?_
  clear hQ8
  dsimp only
  walk1
  refine cut_state (fun f h' tk' => f = Flow.next ∧ Fr s1.heap s1.heap.objs.size h' (fun y => if y = Str.ofString "lost" then some (.ref Dl) else if y = Str.ofString "names" then some nv else if y = Str.ofString "count" then some (.int (n : Int) tn) else r' y) ∧ News s1.heap s1.heap.objs.size h' ((b, ob9) :: (c, listOf cs.toArray nc) :: (s1.heap.objs.size + 1, oq) :: nws)) ?_ ?_
  · intro Q9 hQ9
    generalize hrs : (x1, tupO [.int (-3) t1, .int 4 t2] n1) :: (y1, tupO [.int 3 t3, .int 4 t4] n2) :: (z1, tupO [.int 0 t5, .int 1 t6] n3) :: nws = rs at N5
    have hfr9 : Fracs rs [.ref x1, .ref y1, .ref z1] lostOf := lost_fracs (by rw [← hrs]; exact .head _) (by rw [← hrs]; exact .tail _ (.head _)) (by rw [← hrs]; exact .tail _ (.tail _ (.head _)))
    have hsb : ∀ p ∈ nws, p ∈ rs := by rw [← hrs]; exact fun p hp => .tail _ (.tail _ (.tail _ hp))
    have hnm9 : NamesAre rs nv nm := hnm.mono hsb
    have hok9 : outsOf (lostOf.map wholeOf) = [] ∨ placesOf (lostOf.map wholeOf) = [] := .inl lost_outs
    have hew9 : wholePlaces (lostOf.map wholeOf) n = [] := lost_law n
    have hbl : lostOf.length < 20 := by decide
    clear hnm hrs
    have mark2 : True := trivial
    k_steps
    exact hQ9 _ _ _ ⟨rfl, by assumption, news_sub (by assumption) (List.forall_mem_cons.mpr ⟨by k_mem, List.forall_mem_cons.mpr ⟨by k_mem, List.forall_mem_cons.mpr ⟨by k_mem, fun p hp => by have h9 := hsb p hp; repeat (first | exact h9 | refine List.Mem.tail _ ?_)⟩⟩⟩)⟩
  clear F5 N5
  intro Q8 hQ8
  rintro f h' tk' ⟨rfl, F5, N5⟩
  refine hQ8 _ _ ?_
  clear hQ8
  dsimp only
  walk1
  obtain ⟨⟨la, lo⟩, hla, hnmA⟩ := NamesAre.one hnm (c, listOf cs.toArray nc)
  have hlb : @Ne Nat la b := by
    rcases hla with e | h
    · cases e; exact hcb
    · exact hnws _ h
  have N6 : News s1.heap s1.heap.objs.size h' [(b, ob9), (c, listOf cs.toArray nc), (s1.heap.objs.size + 1, oq), (la, lo)] := by
    refine news_sub N5 (List.forall_mem_cons.mpr ⟨by k_mem, List.forall_mem_cons.mpr ⟨by k_mem, List.forall_mem_cons.mpr ⟨by k_mem, List.forall_mem_cons.mpr ⟨?_, fun _ h => nomatch h⟩⟩⟩⟩)
    rcases hla with e | h
    · rw [e]; exact .tail _ (.head _)
    · exact .tail _ (.tail _ (.tail _ h))
  clear N5 hnm hnws hla
  refine cut_state (fun f h' tk' => f = Flow.next ∧ ∃ (r' : Str → Option Value), Fr s1.heap s1.heap.objs.size h' (fun y => if y = Str.ofString "names" then some nv else if y = Str.ofString "count" then some (.int (n : Int) tn) else r' y) ∧ News s1.heap s1.heap.objs.size h' [(b, ob9), (c, listOf cs.toArray nc), (s1.heap.objs.size + 1, oq), (la, lo)]) ?_ ?_
  · intro Q9 hQ9
    have mark2 : True := trivial
    k_steps
    rename Fr _ _ _ _ => F9
    have G1 := fr_put F9 (Str.ofString "count") (.int (n : Int) tn) rfl
    have G2 := fr_put G1 (Str.ofString "names") nv rfl
    exact hQ9 _ _ _ ⟨rfl, _, G2, news_sub (by assumption) (by k_extra "pick")⟩
  clear F5 N6
  intro Q8 hQ8
  rintro f h' tk' ⟨rfl, r', F5, N5⟩
  refine hQ8 _ _ ?_
  clear hQ8
  dsimp only
  walk1
  refine cut_state (fun f h' tk' => f = Flow.next ∧ Fr s1.heap s1.heap.objs.size h' (fun y => if y = Str.ofString "names" then some nv else if y = Str.ofString "count" then some (.int (n : Int) tn) else r' y) ∧ News s1.heap s1.heap.objs.size h' [(b, ob9), (c, listOf cs.toArray nc), (s1.heap.objs.size + 1, oq), (la, lo)]) ?_ ?_
  · intro Q9 hQ9
    have mark2 : True := trivial
    k_steps
    exact hQ9 _ _ _ ⟨rfl, by assumption, news_sub (by assumption) (by k_extra "pick")⟩
  clear F5 N5
  intro Q8 hQ8
  rintro f h' tk' ⟨rfl, F5, N5⟩
  refine hQ8 _ _ ?_
  clear hQ8
  dsimp only
  walk1
  refine cut_state (fun f h' tk' => f = Flow.next ∧ ∃ (D : Addr) (ys : List Value) (ds : List (Option Str)) (ob' : Obj), Fr s1.heap s1.heap.objs.size h' (fun y => if y = Str.ofString "texts" then some (.ref D) else if y = Str.ofString "names" then some nv else if y = Str.ofString "count" then some (.int (n : Int) tn) else r' y) ∧ News s1.heap s1.heap.objs.size h' [(D, LCg.lst ys), (b, ob'), (c, listOf cs.toArray nc), (s1.heap.objs.size + 1, oq), (la, lo)] ∧ OSs ys ds ∧ ds.length < 6 ∧ StrsOk ds) ?_ ?_
  · intro Q9 hQ9
    have mark2 : True := trivial
    k_steps
    refine Stop.of ?_
    rename IsRange _ _ _ _ _ _ _ _ => R1
    rename Fr _ _ _ _ => F1
    rename News _ _ _ _ => N1
    rename (Bk (100 + 2 * ((6 : Nat) : Int) + 1) _ _) => hB6
    rename (_ < (6 : Int)) => ht7
    rename ((0 : Int) ≤ _) => ht0
    obtain ⟨nt, hnt⟩ := Int.eq_ofNat_of_zero_le ht0
    subst hnt
    have htt : nt < 6 := by omega
    refine LCg.CompSrc.range rfl F1 N1 R1 (small_range (by omega)) (size_range _) (by rw [sizeLine_eq]; omega) fun g9 => ?_
    refine comp_inv (J := fun i ys nw => ∃ ob' ds, nw = [(b, ob'), (c, listOf cs.toArray nc), (s1.heap.objs.size + 1, oq), (la, lo)] ∧ Bk (113 + i) c ob' ∧ OSs ys ds ∧ ds.length = i ∧ ∀ d ∈ ds, d ∈ menuT) ⟨_, [], rfl, hB6.up (by omega), OSs.nil, rfl, fun _ h => nomatch h⟩ ?_ ?_
    · clear F1 N1 R1 hB6
      rintro i v ys nw I oI C oC D m₂ h tk E' hin ⟨t, rfl⟩ ⟨ob', ds, rfl, hB, hys, hdl, hdm⟩ hC hx F N off ne
      have hzi : (0 : Int) + (i : Int) = (i : Int) := by omega
      rw [hzi] at hx
      k_steps
      all_goals (rename (Bk (113 + (i : Int) + 1) _ _) => hB9; replace hB9 := hB9.up (K' := 113 + ((i + 1 : Nat) : Int)) (by omega); refine Stop.of (LCg.CompEnd.intro (by assumption) (by assumption) _ (by k_extra "pick") (by exact off) trivial ⟨_, ds ++ [_], rfl, hB9, hys.snoc (by assumption), by simp [hdl], snoc_mem hdm (List.mem_of_getElem? (by assumption))⟩))
    rintro ys nw ⟨ob', ds, rfl, hB, hys, hdl, hdm⟩ D h tk F N off
    clear F1 N1 R1 hB6
    k_steps
    exact hQ9 _ _ _ ⟨rfl, D, ys, ds, ob', by assumption, news_sub (by assumption) (by k_extra "pick"), hys, by omega, strs_menu hdm menuT_ok⟩
  clear F5 N5
  intro Q8 hQ8
  rintro f h' tk' ⟨rfl, Dx, vx, dx, ob', F5, N5, hix, hlx, hsx⟩
  refine hQ8 _ _ ?_
  clear hQ8
  dsimp only
  walk1
  have mark2 : True := trivial
  k_steps

end
end Mine
theorem PySem.Challenge.cw_ov0054_01_holds : PySem.Challenge.rw_ov0054_01.Holds := by
  exact Mine.law_ok
