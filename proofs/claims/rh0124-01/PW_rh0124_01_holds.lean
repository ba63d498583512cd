import PyProof.Rows.All
import Wide.All
import OpenK.AllK
import Wide.FinOn
import PySem.Challenge.RW_rh0124_01
open PySem PySem.W PyProof.Rows PySem.Spec PySem.Calls
set_option Elab.async false
set_option maxRecDepth 100000
set_option maxHeartbeats 8000000
set_option linter.unusedVariables false
set_option genInjectivity false
set_option genSizeOf false
set_option tactic.hygienic false
namespace Mine
section
theorem mR {α : Type} {b : α} {bs : List α} (as : List α) (h : b ∈ bs) : b ∈ as ++ bs := List.mem_append_right as h
theorem mL {α : Type} {b : α} {as : List α} (bs : List α) (h : b ∈ as) : b ∈ as ++ bs := List.mem_append_left bs h
theorem mC {α : Type} {a : α} {l : List α} (y : α) (h : a ∈ l) : a ∈ y :: l := List.mem_cons_of_mem y h
theorem mS {α : Type} {a : α} {l : List α} : a ∈ a :: l := List.mem_cons_self
theorem mA {α : Type} {a : α} {s t : List α} (h : a ∈ s ++ t) : a ∈ s ∨ a ∈ t := List.mem_append.mp h
theorem mK {α : Type} {a b : α} {l : List α} (h : a ∈ b :: l) : a = b ∨ a ∈ l := List.mem_cons.mp h
theorem mM {α β : Type} {f : α → β} {b : β} {l : List α} (h : b ∈ l.map f) : ∃ a, a ∈ l ∧ f a = b := List.mem_map.mp h
theorem mG {α : Type} {a b : α} (h : a ∈ [b]) : a = b := List.mem_singleton.mp h
theorem bA {a b : Bool} (h : (a && b) = true) : a = true ∧ b = true := Bool.and_eq_true_iff.mp h
theorem gS {α : Type} {l : List α} {i : Nat} {a : α} (h : l[i]? = some a) : ∃ w : i < l.length, l[i] = a := List.getElem?_eq_some_iff.mp h
theorem aT {α : Type} {p : α → Bool} {l : List α} (h : l.all p = true) : ∀ x, x ∈ l → p x = true := List.all_eq_true.mp h
theorem none_no {α : Type} {a : α} {P : Prop} (h : none = some a) : P := nomatch h
theorem some_no {α : Type} {a : α} {P : Prop} (h : some a = none) : P := nomatch h
theorem ft_no {P : Prop} (h : false = true) : P := nomatch h
theorem tf_no {P : Prop} (h : true = false) : P := nomatch h
noncomputable abbrev tupO (xs : Array Value) : Obj := { cls := .type "tuple", data := .seq xs }
theorem sz_ok {n : Nat} (h : n ≤ 1000) : n ≤ sizeLine := Nat.le_trans h (by rw [sizeLine_eq]; decide)
section
variable {prog : Program} {w : World} {A : Around} {E : Value → Shared → Prop} {s : Shared} {h₀ h : Heap} {L D : Addr} {m : Str → Option Value} {news news' pre post : List (Addr × Obj)} {xs p : List Value} {y v : Value} {n k : Nat}

theorem my_set {i : Int} {t : Tok} {Q : Unit → Shared → Prop} (F : Fr h₀ L s.heap m) (N : News h₀ L s.heap news) (hi : i = k) (hk : k < xs.length) (hz : xs.length ≤ 1000) (U : Upd D (listOf xs.toArray n) (listOf (xs.set k v).toArray n) news news')
    (h : ∀ h', Fr h₀ L h' m → News h₀ L h' news' → Q () { s with heap := h' }) : wpAny (model prog w) A (setItem (.ref D) (.int i t) v) Q E s := by
  obtain ⟨pre, post, rfl, rfl, a, b⟩ := U.split
  have z := N (D, listOf xs.toArray n) (List.mem_append.mpr (.inr (.head _)))
  subst hi
  refine ki_setAt z.1 (by lia) (by lia) (by simpa using hk) (h _ (F.change (Heap.SameBut.update ..) z.2.1 z.2.2) (ki_turn _ N a b ?_ ?_))
  · simp
  · simp
theorem my_append {Q : Value → Shared → Prop} (F : Fr h₀ L s.heap m) (N : News h₀ L s.heap news) (hz : xs.length ≤ 1000) (U : Upd D (listOf xs.toArray n) (listOf (xs ++ [v]).toArray (n + 1)) news news')
    (h : ∀ h', Fr h₀ L h' m → News h₀ L h' news' → Q .none { s with heap := h' }) : wpAny (model prog w) A (call (.builtin "list.append") [.ref D, v]) Q E s :=
  append_K (n := n) (its := xs.toArray) F N (by rw [List.push_toArray]; exact U) h (by rw [List.size_toArray]; exact sz_ok hz)
theorem my_last : ∀ (p : List Value) (y : Value), kl_last (p ++ [y]) = some (p, y)
  | [], _ => rfl
  | x :: r, y => by show (match kl_last (r ++ [y]) with | some (p, y) => some (x :: p, y) | none => some ([], x)) = _; rw [my_last r y]
theorem my_pop {Q : Value → Shared → Prop} (F : Fr h₀ L s.heap m) (N : News h₀ L s.heap news) (hz : p.length ≤ 1000) (U : Upd D (listOf (p ++ [y]).toArray n) (listOf p.toArray (n + 1)) news news')
    (h : ∀ h', Fr h₀ L h' m → News h₀ L h' news' → Q y { s with heap := h' }) : wpAny (model prog w) A (call (.builtin "list.pop") [.ref D]) Q E s :=
  kl_pop F N (my_last p y) U (by simp only [List.length_append, List.length_singleton]; exact Nat.le_trans (Nat.succ_le_succ hz) (by rw [sizeLine_eq]; decide)) h
theorem my_reverse {Q : Value → Shared → Prop} (F : Fr h₀ L s.heap m) (N : News h₀ L s.heap news) (hz : xs.length ≤ 1000) (U : Upd D (listOf xs.toArray n) (listOf xs.reverse.toArray n) news news')
    (h : ∀ h', Fr h₀ L h' m → News h₀ L h' news' → Q .none { s with heap := h' }) : wpAny (model prog w) A (call (.builtin "list.reverse") [.ref D]) Q E s :=
  kl_reverse F N rfl U (by show xs.length ≤ _; exact sz_ok hz) h
theorem my_truthy {Q : Bool → Shared → Prop} (N : News h₀ L s.heap news) (hm : (D, listOf xs.toArray n) ∈ news) (hz : xs.length ≤ 1000) (h : Q (!xs.isEmpty) { s with toks := s.toks + 1 + 1 }) :
    wpAny (model prog w) A (truthy (.ref D)) Q E s :=
  wpAny_truthy_list (items := xs.toArray) ⟨_, (N _ hm).1, rfl, _, rfl⟩ (by rw [List.size_toArray]; lia) (by rw [List.isEmpty_toArray]; exact h)
theorem my_len {Q : Value → Shared → Prop} (N : News h₀ L s.heap news) (hm : (D, listOf xs.toArray n) ∈ news) (hz : xs.length ≤ 1000) (h : Q (.int xs.length (s.toks + 1)) { s with toks := s.toks + 1 + 1 }) :
    wpAny (model prog w) A (call (.builtin "len") [.ref D]) Q E s :=
  len_list (items := xs.toArray) ⟨_, (N _ hm).1, rfl, _, rfl⟩ (by rw [List.size_toArray]; lia) (by rw [List.size_toArray]; exact h)
theorem my_item {value slice : Expr} {i : Int} {u : Tok} {Q : Value → Shared → Prop} (N : News h₀ L s.heap news) (hm : (D, listOf xs.toArray n) ∈ news) (hx : xs[k]? = some v) (hi : i = k) (hz : xs.length ≤ 1000) (h : Q v s)
    (hs : subscripted slice false (.ref D) (.int i u) = operate [.ref D, .int i u] (getItem (.ref D) (.int i u))) (hg : ∀ r, letTemporaryGo value (.ref D) r = pure ()) :
    wpAny (model prog w) A (subscriptTail value slice (.ref D) (.int i u)) Q E s := by
  subst hi
  have : k < xs.length := by
    rcases Nat.lt_or_ge k xs.length with h1 | h1
    · exact h1
    · rw [List.getElem?_eq_none h1] at hx; exact none_no hx
  exact item_list (items := xs.toArray) ⟨_, (N _ hm).1, rfl, _, rfl⟩ (by lia) (by lia) (by simpa using hx) h hs hg
theorem my_itemLast {value slice : Expr} {u : Tok} {Q : Value → Shared → Prop} (N : News h₀ L s.heap news) (hm : (D, listOf (p ++ [y]).toArray n) ∈ news) (h : Q y s)
    (hs : subscripted slice false (.ref D) (.int (-1) u) = operate [.ref D, .int (-1) u] (getItem (.ref D) (.int (-1) u))) (hg : ∀ r, letTemporaryGo value (.ref D) r = pure ()) :
    wpAny (model prog w) A (subscriptTail value slice (.ref D) (.int (-1) u)) Q E s := by
  have hl : s.heap.IsList D (p ++ [y]).toArray := ⟨_, (N _ hm).1, rfl, _, rfl⟩
  refine subscriptTail_builtin hl.typeIs slot_list_getitem.lookup (wpAny_getItem_list_neg hl (by decide) (by simp; lia) (by decide) ?_ h) hs hg
  have : ((-1 : Int) + ((p ++ [y]).toArray.size : Int)).toNat = p.length := by simp; lia
  rw [this]; simp
end

section
variable {prog : Program} {w : World} {A : Around} {E : Value → Shared → Prop} {s : Shared} {env : Env} {h₀ : Heap} {x : Str} {body : List Stmt} {Q : Flow → Shared → Prop}
inductive LoopN (h₀ : Heap) (L : Addr) (Jn : (Str → Option Value) → List (Addr × Obj) → Prop) (I : Addr) (oI : Obj) (s₁ s₂ : Shared) : Prop
  | mk (h' : Heap) (tk : Nat) (m' : Str → Option Value) (news' : List (Addr × Obj)) (e : s₂ = { s₁ with heap := h', toks := tk }) (F : Fr h₀ L h' m') (N : News h₀ L h' ((I, oI) :: news')) (a : ∀ p ∈ news', p.1 ≠ I) (j : Jn m' news')
def LoopEnd (h₀ : Heap) (L : Addr) (Jn : (Str → Option Value) → List (Addr × Obj) → Prop) (I : Addr) (oI : Obj) (s₁ : Shared) (Q : Flow → Shared → Prop) (f : Flow) (s₂ : Shared) : Prop :=
  match f with
  | .ret v => Q (.ret v) s₂
  | .brk => Q .next s₂
  | _ => LoopN h₀ L Jn I oI s₁ s₂
theorem own_in {I : Addr} {fp : List Addr} {oI : Obj} {own news₁ : List (Addr × Obj)} {L : Addr} {h₁ h' : Heap} {news' : List (Addr × Obj)} (keep : ∀ b ∈ fp, b ≠ I → h₀.get? b ≠ none ∨ ∃ o, (b, o) ∈ news₁ ∧ (b, o) ∈ news') (heI : h₁.get? I = some oI)
    (hsub : ∀ p ∈ own, p.1 ∈ fp) (hget : ∀ p ∈ own, h₁.get? p.1 = some p.2) (N₁ : News h₀ L h₁ (own ++ news₁)) (N' : News h₀ L h' ((I, oI) :: news')) : News h₀ L h' (own ++ news') := fun p hp => by
  rcases mA hp with hp | hp
  · by_cases hb : p.1 = I
    · have h1 := hget p hp
      rw [hb] at h1
      have h2 : some p.2 = some oI := h1.symm.trans heI
      have : p = (I, oI) := Prod.ext hb (Option.some.inj h2)
      rw [this]; exact N' _ mS
    · rcases keep p.1 (hsub p hp) hb with h1 | ⟨o, h1, h1'⟩
      · exact absurd (N₁ p (mL _ hp)).2.2 h1
      · have h2 := (N₁ _ (mR _ h1)).1
        have h3 : some p.2 = some o := (hget p hp).symm.trans h2
        have : p = (p.1, o) := Prod.ext rfl (Option.some.inj h3)
        rw [this]; exact N' _ (mC _ h1')
  · exact N' _ (mC _ hp)
def LoopR (prog : Program) (w : World) (A : Around) (env : Env) (x : Str) (body : List Stmt) (Q : Flow → Shared → Prop) (E : Value → Shared → Prop) (it : Value) (s₂ : Shared) : Prop :=
  ∀ px, env.kindOf x = some .local → (env.scope.kind == .class || (env.scope.kind == .module && env.locals != env.globals)) = false → PassesOwn (model prog w) A env E →
    codeAny (model prog w) A (.forLoop (.Name x px) it body [] env) (fun r s' => match r with | .ok f => Q f s' | .error e => cameBackBy (model prog w) A env E e s') s₂
theorem For_R {px pos : Pos} {iter : Expr} (hx : env.kindOf x = some .local) (hp : (env.scope.kind == .class || (env.scope.kind == .module && env.locals != env.globals)) = false)
    (h : wpAny (model prog w) A (eval iter env) (fun xv s₁ => wpAny (model prog w) A (pyIter xv) (fun it s₂ => LoopR prog w A env x body Q E it s₂) E s₁) E s) (hs : ∀ x, foldedSetIterable iter env x = pure x) (hE : PassesOwn (model prog w) A env E) :
    wpAny (model prog w) A (exec (.For (.Name x px) iter body [] pos) env) Q E s :=
  wpAny_For (wpAny_mono h (fun _ _ h₁ => wpAny_mono h₁ (fun _ _ h₂ => h₂ px hx hp hE) fun _ _ e => e) fun _ _ e => e) hs
set_option tactic.hygienic true in
theorem my_loop {I : Addr} {fp : List Addr} {n : Nat} {P : Nat → Value → Prop} {St : Nat → Heap → Prop} {m : Str → Option Value} {news : List (Addr × Obj)} (J : Nat → (Str → Option Value) → List (Addr × Obj) → Prop)
    (W : Walks prog w A I fp [I] n P St) (hL : env.locals ∉ fp) (hI₀ : h₀.get? I = none) (keep : ∀ b ∈ fp, b ≠ I → h₀.get? b ≠ none ∨ ∃ o, ∀ i m' news', J i m' news' → (b, o) ∈ news') (hIo : ∀ i h, St i h → ∃ o, h.get? I = some o)
    (hst : St 0 s.heap) (F : Fr h₀ env.locals s.heap m) (N : News h₀ env.locals s.heap news) (hoff : ∀ p ∈ news, p.1 ≠ I) (hj : J 0 m news)
    (turn : ∀ i v m₁ news₁ h tk oI, i < n → P i v → J i m₁ news₁ → (∀ p ∈ news₁, p.1 ≠ I) → Fr h₀ env.locals h (fun y => if y = x then some v else m₁ y) → News h₀ env.locals h ((I, oI) :: news₁) →
      wpAny (model prog w) A (execs body env) (LoopEnd h₀ env.locals (J (i + 1)) I oI { s with heap := h, toks := tk } Q) E { s with heap := h, toks := tk })
    (done : ∀ m₁ news₁ h tk, J n m₁ news₁ → Fr h₀ env.locals h m₁ → News h₀ env.locals h news₁ → Q .next { s with heap := h, toks := tk }) :
    LoopR prog w A env x body Q E (.ref I) s := by
  have hI : I ∈ fp := W.sub I (List.mem_singleton.mpr rfl)
  intro px hx hp hE
  refine codeAny_forLoop_frV (R := fun r s' => match r with | .ok f => Q f s' | .error e => cameBackBy (model prog w) A env E e s') W hx hp hL (fun b hb => by rw [mG hb]; exact hI₀) (fun p hp q => hoff p hp (mG q)) hst F N J hj ?_ fun h' tk m' news' F' N' _ j' => done m' news' h' tk j' F' N'
  rintro i v m₁ news₁ s₁ own ⟨hh', tk', rfl⟩ hin hP hJ hoff' hsub hget hall hst₁ F₁ N₁
  refine wpAny_passesOwn hE ?_
  refine (hIo _ _ hst₁).elim fun oI heI => ?_
  have hmI := hall I hI hI₀ oI heI
  refine wpAny_mono (turn i v m₁ news₁ hh' tk' oI hin hP hJ (fun p hp e => hoff' p hp (by rw [e]; exact List.mem_singleton.mpr rfl)) F₁ (fun p hp => ?_)) (fun f s₂ q => ?_) fun _ _ e => e
  · exact (mK hp).elim (fun e => e ▸ N₁ _ (mL _ hmI)) fun hp => N₁ _ (mR _ hp)
  · have fin : LoopN h₀ env.locals (J (i + 1)) I oI { s with heap := hh', toks := tk' } s₂ → LoopStepU h₀ env.locals [I] own (J (i + 1)) { s with heap := hh', toks := tk' } .next s₂ := fun ⟨h', tk, m', news', e, F', N', ho, hj'⟩ =>
      ⟨rfl, h', tk, m', news', e, F', own_in (fun b hb hne => (keep b hb hne).imp id fun ⟨o, h1⟩ => ⟨o, h1 _ _ _ hJ, h1 _ _ _ hj'⟩) heI hsub hget N₁ N', fun p hp q => ho p hp (mG q), hj'⟩
    cases f with
    | ret v => exact .ret q
    | brk => exact .brk q
    | next => exact .next (fin q)
    | cont => exact .cont (fin q)
set_option tactic.hygienic true in
theorem my_iter_list {l : Addr} {xs : List Value} {nl : Nat} {m : Str → Option Value} {news : List (Addr × Obj)} (J : Nat → (Str → Option Value) → List (Addr × Obj) → Prop)
    (hh : A.handled = none) (F : Fr h₀ env.locals s.heap m) (N : News h₀ env.locals s.heap news) (hm : ∀ i m' news', J i m' news' → (l, listOf xs.toArray nl) ∈ news') (hj : J 0 m news)
    (turn : ∀ i v I m₁ news₁ h tk oI, xs[i]? = some v → J i m₁ news₁ → (∀ p ∈ news₁, p.1 ≠ I) → Fr h₀ env.locals h (fun y => if y = x then some v else m₁ y) → News h₀ env.locals h ((I, oI) :: news₁) →
      wpAny (model prog w) A (execs body env) (LoopEnd h₀ env.locals (J (i + 1)) I oI { s with heap := h, toks := tk } Q) E { s with heap := h, toks := tk })
    (done : ∀ m₁ news₁ h tk, J xs.length m₁ news₁ → Fr h₀ env.locals h m₁ → News h₀ env.locals h news₁ → Q .next { s with heap := h, toks := tk }) :
    wpAny (model prog w) A (pyIter (.ref l)) (fun it s₂ => LoopR prog w A env x body Q E it s₂) E s := by
  have hml := N _ (hm _ _ _ hj)
  have hls : s.heap.IsList l xs.toArray := ⟨_, hml.1, rfl, _, rfl⟩
  have hlt : l < s.heap.objs.size := Heap.lt_size hml.1
  refine wpAny_pyIter_list hls ?_
  have W := Walks.list (prog := prog) (w := w) hh s.heap.objs.size l (Nat.ne_of_lt hlt) xs.toArray
  have hlen : xs.toArray.size = xs.length := List.size_toArray ..
  rw [hlen] at W
  refine my_loop (s := { s with heap := _ }) J W ?_ (next_is_new F) ?_ (fun i h st => by obtain ⟨o, e, _⟩ := st.1; exact ⟨o, e⟩) ⟨⟨_, Heap.get?_push_size _ rfl, rfl, rfl⟩, hls.push _⟩ (F.push _) (fun p hp => ⟨Heap.get?_push_of_some _ (N p hp).1, (N p hp).2⟩) (fun p hp e => ?_) hj ?_ ?_
  · intro q
    rcases mK q with e | q
    · exact absurd F.ns.lt (e ▸ Nat.lt_irrefl _)
    · exact hml.2.1 (mG q).symm
  · intro b hb hne
    rcases mK hb with e | hb
    · exact absurd e hne
    · rw [mG hb]; exact .inr ⟨_, hm⟩
  · exact absurd (Heap.lt_size (N p hp).1) (e ▸ Nat.lt_irrefl _)
  · intro i v m₁ news₁ h tk oI hi hP hJ ho F' N'
    exact turn i v _ m₁ news₁ h tk oI (by simpa using hP) hJ ho F' N'
  · intro m₁ news₁ h tk hJ F' N'
    exact done m₁ news₁ h tk hJ F' N'
set_option tactic.hygienic true in
theorem my_iter_range {r : Addr} {a b : Int} {t u v : Tok} {n : Nat} {m : Str → Option Value} {news : List (Addr × Obj)} (J : Nat → (Str → Option Value) → List (Addr × Obj) → Prop)
    (hh : A.handled = none) (hr : IsRange s.heap r a b 1 t u v) (hsm : Builtin.Range.small a b 1 = true) (hn : Builtin.Range.rangeSize a b 1 = ((n : Nat) : Int)) (F : Fr h₀ env.locals s.heap m) (N : News h₀ env.locals s.heap news) (hj : J 0 m news)
    (turn : ∀ i tv I m₁ news₁ h tk oI, i < n → J i m₁ news₁ → (∀ p ∈ news₁, p.1 ≠ I) → Fr h₀ env.locals h (fun y => if y = x then some (.int (a + (i : Int)) tv) else m₁ y) → News h₀ env.locals h ((I, oI) :: news₁) →
      wpAny (model prog w) A (execs body env) (LoopEnd h₀ env.locals (J (i + 1)) I oI { s with heap := h, toks := tk } Q) E { s with heap := h, toks := tk })
    (done : ∀ m₁ news₁ h tk, J n m₁ news₁ → Fr h₀ env.locals h m₁ → News h₀ env.locals h news₁ → Q .next { s with heap := h, toks := tk }) :
    wpAny (model prog w) A (pyIter (.ref r)) (fun it s₂ => LoopR prog w A env x body Q E it s₂) E s := by
  refine wpAny_pyIter_range hr hsm ?_
  refine my_loop (s := { s with heap := _ }) J (LCg.range_walks hh a n) ?_ (next_is_new F) ?_ (fun i h st => ⟨_, st⟩) (by show IsRangeIter _ _ _ _ _; rw [hn]; simpa using Heap.get?_push_size _ rfl) (F.push _) (fun p hp => ⟨Heap.get?_push_of_some _ (N p hp).1, (N p hp).2⟩) (fun p hp e => ?_) hj ?_ ?_
  · intro q
    exact absurd F.ns.lt ((mG q) ▸ Nat.lt_irrefl _)
  · intro b hb hne
    exact absurd (mG hb) hne
  · exact absurd (Heap.lt_size (N p hp).1) (e ▸ Nat.lt_irrefl _)
  · rintro i v m₁ news₁ h tk oI hi ⟨tv, rfl⟩ hJ ho F' N'
    exact turn i tv _ m₁ news₁ h tk oI hi hJ ho F' N'
  · intro m₁ news₁ h tk hJ F' N'
    exact done m₁ news₁ h tk hJ F' N'
end
end
section
theorem entry_unchain : entryFor table "proto.unchain" = some Builtin.«proto.unchain» := entryFor_of_tree (by kernel_rfl)
section
variable {prog : Program} {w : World} {A : Around} {E : Value → Shared → Prop} {s : Shared}
set_option tactic.hygienic true in
theorem next_tuple_endH {it t e : Addr} {i : Nat} {items : Array Value} {oe : Obj} {vs : Array Value} {Q : Option Value → Shared → Prop} (hh : A.handled = some (.ref e)) (he : s.heap.get? e = some oe) (hd9 : oe.data = .fields vs) (h29 : vs[2]? = some .none) (hei : e ≠ it)
    (hit : IsTupIter s.heap it t i) (ht : IsTup s.heap t items) (hx : items[i]? = none)
    (hQ : ∀ h', Heap.ExtBut it s.heap h' → Q none { s with heap := h' }) : wpAny (model prog w) A (pyNext (.ref it)) Q E s := by
  obtain ⟨o, ho, hc, hd⟩ := id hit
  obtain ⟨ol, hol, _, nl, hdl⟩ := ht
  unfold pyNext
  refine wpAny_bind (wpAny_attempt (wpAny_callSpecial?_slot (name := Str.ofString "__next__") hit.typeIs slot_tupleiter_next
    (wpAny_call_entry slot_tupleiter_next hit.typeIs entry_tupleiter_next ?_ (args_tupleiter_next _))))
  show wpAny _ _ (field (.ref it) 0 >>= _) _ _ s
  refine wpAny_bind (wpAny_field ho hd (x := .ref t) rfl ?_)
  show wpAny _ _ (if (Value.ref t == Value.none) = true then _ else _) _ _ s
  rw [if_neg (show ¬ ((Value.ref t == Value.none) = true) from Bool.false_ne_true)]
  show wpAny _ _ (field (.ref it) 1 >>= _) _ _ s
  refine wpAny_bind (wpAny_field ho hd (x := .int i 0) rfl ?_)
  show wpAny _ _ (seqItems? (.ref t) >>= _) _ _ s
  refine wpAny_bind (wpAny_seqItems hol hdl ?_)
  simp only [Int.toNat_natCast, hx]
  refine wpAny_bind (wpAny_rule (wpAny_bind (wpAny_setField ho hd (by simp) ?_)))
  show wpAny _ _ (newExc (.type "StopIteration") [] >>= _) _ _ _
  refine wpAny_bind ?_
  simp only [newExc, newTuple]
  refine wpAny_bind (wpAny_newObj_type ?_ (by size_fits))
  refine wpAny_bind (m := firstArgMember _ _) (wpAny_of_eq (a := Value.none) (by first | rfl | (simp only [firstArgMember]; rfl)) ?_)
  refine wpAny_newObj_type ?_ (by size_fits)
  simp only [raiseNew]
  refine wpAny_bind (wpAny_handled ?_)
  first | rw [show A.in1.handled = some (.ref e) from hh] | rw [hh]
  generalize hH : (s.heap.update it (Obj.mapFields fun x => x.setIfInBounds 0 Value.none)).push { cls := Value.type "tuple", data := Data.seq #[] } = H
  have heH : H.get? e = some oe := hH ▸ Heap.get?_push_of_some _ ((Heap.get?_update_other _ _ (Ne.symm hei)).trans he)
  have hea : e ≠ H.objs.size := Nat.ne_of_lt (Heap.lt_size heH)
  dsimp only
  rw [if_pos (show (Value.ref e != Value.ref H.objs.size) = true from by simpa using hea)]
  refine wpAny_bind (wpAny_holding (wpAny_runValue (codeAny_builtin entry_unchain ?_)))
  unfold Builtin.«proto.unchain»
  dsimp only
  refine wpAny_bind (wpAny_field (Heap.get?_push_of_some _ heH) hd9 h29 ?_)
  rw [if_pos (show (Value.none == Value.none) = true from rfl)]
  refine wpAny_bind (wpAny_pure ?_)
  refine wpAny_pure ?_
  dsimp only
  have hn := Heap.get?_push_size H (o := { cls := Value.type "StopIteration", data := Data.fields (#[.ref (s.heap.update it (Obj.mapFields fun x => x.setIfInBounds 0 Value.none)).objs.size, .none, .none, .none, .bool false, .none] ++ ownMembersOf (.type "StopIteration") []) }) rfl
  unfold updateField
  refine wpAny_bind (wpAny_bind (wpAny_load hn ?_))
  dsimp only
  rw [if_pos (show 2 < (#[Value.ref (s.heap.update it (Obj.mapFields fun x => x.setIfInBounds 0 Value.none)).objs.size, .none, .none, .none, .bool false, .none] ++ ownMembersOf (.type "StopIteration") [] : Array Value).size from Nat.le_of_ble_eq_true rfl)]
  refine wpAny_update hn (wpAny_throw ?_)
  refine wpAny_bind (wpAny_isInstance (T := "StopIteration") (b := true) ⟨_, Heap.get?_update_self _ hn (Obj.isFreed_of_fields (Obj.data_mapFields rfl _)), Obj.cls_mapFields ..⟩ isSubtype_stop ?_)
  refine wpAny_pure (hQ _ fun b o hb eb => ?_)
  have hb1 : (s.heap.update it (Obj.mapFields fun x => x.setIfInBounds 0 Value.none)).get? b = some o := (Heap.get?_update_other _ _ (Ne.symm hb)).trans eb
  have hb2 : H.get? b = some o := hH ▸ Heap.get?_push_of_some _ hb1
  exact (Heap.get?_update_other _ _ (Ne.symm (Nat.ne_of_lt (Heap.lt_size hb2)))).trans (Heap.get?_push_of_some _ hb2)
theorem unpack_endH {t e : Addr} {items : Array Value} {oe : Obj} {vs : Array Value} {Q : List Value → Shared → Prop} (hh : A.handled = some (.ref e)) (he : s.heap.get? e = some oe) (hd9 : oe.data = .fields vs) (h29 : vs[2]? = some .none) (ht : IsTup s.heap t items)
    (hQ : ∀ h', Heap.ExtBut s.heap.objs.size s.heap h' → Q items.toList { s with heap := h' }) : wpAny (model prog w) A (unpackItems (.ref t) items.size none) Q E s := by
  have hlt : t ≠ s.heap.objs.size := by obtain ⟨o, ho, _⟩ := ht; exact Nat.ne_of_lt (Heap.lt_size ho)
  have hle : e ≠ s.heap.objs.size := Nat.ne_of_lt (Heap.lt_size he)
  unfold unpackItems
  refine wpAny_bind ?_
  · unfold notIterableAtAll
    refine wpAny_bind (wpAny_specialOf ht.typeIs slot_tuple_iter.lookup ?_)
    refine wpAny_pure ?_
    simp only [Bool.false_eq_true, if_false]
    refine wpAny_bind (wpAny_holding (iter_tuple ht ?_))
    refine wpAny_bind (wpAny_holding (draw_tuple hlt items.size 0 _ _ ⟨_, Heap.get?_push_size _ rfl, rfl, rfl⟩ (ht.push _) (by lia) fun h₁ hit₁ hs₁ => ?_))
    have hall : List.take items.size (List.drop 0 items.toList) = items.toList := by
      rw [List.drop_zero]; exact List.take_of_length_le (by simp)
    rw [hall]
    rw [if_neg (by simp)]
    have ht₁ : IsTup h₁ t items := (ht.push _).extBut hs₁.extBut hlt
    have he₁ : h₁.get? e = some oe := hs₁.extBut e oe hle (Heap.get?_push_of_some _ he)
    refine wpAny_bind (wpAny_holding (next_tuple_endH hh he₁ hd9 h29 hle hit₁ ht₁ (by simp) fun h₂ he₂ => ?_))
    simp only [Option.isSome_none, Bool.false_eq_true, if_false]
    refine wpAny_pure (hQ h₂ fun b o hb e => he₂ b o hb (hs₁.extBut b o hb (Heap.get?_push_of_some _ e)))
theorem unpack_H {h₀ : Heap} {L : Addr} {m : Str → Option Value} {news : List (Addr × Obj)} {t e : Addr} {items : Array Value} {n : Nat} {oe : Obj} {Q : List Value → Shared → Prop} (F : Fr h₀ L s.heap m) (N : News h₀ L s.heap news) (hh : A.handled = some (.ref e)) (hm : (e, oe) ∈ news) (hv : ∃ vs, oe.data = .fields vs ∧ vs[2]? = some .none)
    (ht : IsTup s.heap t items) (hn : n = items.size) (h : ∀ h', Fr h₀ L h' m → News h₀ L h' news → Q items.toList { s with heap := h' }) : wpAny (model prog w) A (unpackItems (.ref t) n none) Q E s := by
  subst hn
  obtain ⟨vs, hd, h2⟩ := hv
  exact unpack_endH hh (N _ hm).1 hd h2 ht fun h' he => h h' (F.extBut he (Nat.le_refl _)) (N.extBut he (Nat.le_refl _))
end
end
section
inductive ExcAt (h : Heap) (e : Addr) (cls : Value) (dx : Option Addr) (T : Option Addr) (fl : Value) : Prop
  | mk (oe : Obj) (vs) (y1 : h.get? e = some oe) (y2 : oe.cls = cls) (y3 : oe.dict = dx) (y4 : oe.data = .fields vs) (y5 : vs[1]? = some (T.elim .none .ref)) (y6 : vs[2]? = some .none)
      (y7 : ∀ t, T = some t → t ≠ e ∧ ∃ oT ts, h.get? t = some oT ∧ oT.data = .fields ts ∧ ts[3]? = some fl) : ExcAt h e cls dx T fl
theorem mapFields_dict (f : Array Value → Array Value) (o : Obj) : (o.mapFields f).dict = o.dict := by
  obtain ⟨c, d, dt, sl⟩ := o
  cases dt <;> rfl
def HeldBut (h h' : Heap) (as fr : List Addr) : Prop :=
  (∀ b o, h.get? b = some o → b ∉ as → b ∉ fr → h'.get? b = some o) ∧ ∀ b o, h.get? b = some o → b ∉ as → ∃ sl, h'.get? b = some { o with slots := sl }
theorem HeldBut.refl (h : Heap) (as fr : List Addr) : HeldBut h h as fr := ⟨fun _ _ e _ _ => e, fun _ o e _ => ⟨o.slots, e⟩⟩
theorem HeldBut.trans {h₁ h₂ h₃ : Heap} {as fr : List Addr} (x : HeldBut h₁ h₂ as fr) (y : HeldBut h₂ h₃ as fr) : HeldBut h₁ h₃ as fr :=
  ⟨fun b o e n f => y.1 b o (x.1 b o e n f) n f, fun b o e n => by obtain ⟨_, e₁⟩ := x.2 b o e n; obtain ⟨sl, e₂⟩ := y.2 b _ e₁ n; exact ⟨sl, e₂⟩⟩
theorem HeldBut.of_keep {h h' : Heap} {as : List Addr} (fr : List Addr) (k : ∀ b o, h.get? b = some o → b ∉ as → h'.get? b = some o) : HeldBut h h' as fr :=
  ⟨fun b o e n _ => k b o e n, fun b o e n => ⟨o.slots, k b o e n⟩⟩
section
variable {M : Model} {A : Around} {E : Value → Shared → Prop} {s : Shared} {base : Heap} {env : Env} {outer : List Env} {L e : Addr} {cls fl : Value} {dx T : Option Addr} {Q : Unit → Shared → Prop}

theorem exc_note (hfr : A.frames = some (env :: outer)) (hl : s.heap.FunFrames base (env :: outer)) (hf : env.frame = some L) (x : ExcAt s.heap e cls dx T .none)
    (h : ∀ h' T', s.heap.get? T' = none → ExcAt h' e cls dx (some T') (rawInt L) → HeldBut s.heap h' (e :: T.toList) ((env :: outer).filterMap (·.frame)) → Q () { s with heap := h' }) :
    wpAny M A (noteFrame (.ref e) env) Q E s := by
  obtain ⟨oe, vs, he, hc, hdx, hd, h1, h2, hT⟩ := x
  have hsz : 1 < vs.size := (Array.getElem?_eq_some_iff.mp h1).1
  -- the second half, from a heap in which the old head no longer flies
  have half : ∀ h₀ : Heap, h₀.get? e = some oe → h₀.FunFrames base (env :: outer) → HeldBut s.heap h₀ (e :: T.toList) ((env :: outer).filterMap (·.frame)) → (∀ b, s.heap.get? b = none → h₀.get? b = none) → s.heap.objs.size ≤ h₀.objs.size → ∀ head hadNext,
      wpAny M A (do let a ← frameOf env; let pl ← entryPlaceOf L hadNext; let b ← EntryCells.newEntry head a .none (rawInt L) .none pl; setField (.ref e) 1 b) Q E { s with heap := h₀ } := by
    intro h₀ he₀ hl₀ k₀ n₀ z₀ head hadNext
    have hene : e ∉ (env :: outer).filterMap (·.frame) := fun hm => by
      obtain ⟨_, o, ho, hnf⟩ := hl₀.mem hm
      rw [he₀] at ho; injection ho with ho; subst ho; exact hnf vs hd
    refine wpAny_bind (wpAny_frameOf_fun (s := { s with heap := h₀ }) hfr hl₀ hf fun h₁ hs₁ => ?_)
    refine wpAny_bind (wpAny_entryPlaceOf fun pl hpl => ?_)
    unfold EntryCells.newEntry newFields
    refine wpAny_bind (wpAny_newObj_type ?_ (hpl.sizeOk5 _ _ _ _ _))
    generalize hoT : ({ cls := .type "traceback", dict := none, data := .fields ([head, .ref L, .none, rawInt L, .none] ++ (if pl.isEmpty then List.replicate 6 Value.none else pl)).toArray } : Obj) = oT
    have he₁ : h₁.get? e = some oe := (hs₁.2.1 e hene).trans he₀
    have hne : h₁.objs.size ≠ e := Nat.ne_of_gt (Heap.lt_size he₁)
    have he₂ := Heap.get?_push_of_some (h := h₁) oT he₁
    refine wpAny_setField he₂ hd hsz (h _ h₁.objs.size ?_ ?_ (k₀.trans ⟨fun b o eb nb fb => ?_, fun b o eb nb => ?_⟩))
    · exact Heap.get?_none_of_le (Nat.le_trans z₀ (Nat.le_of_eq hs₁.1.symm))
    · have hd₃ := Obj.data_mapFields hd (·.setIfInBounds 1 (Value.ref h₁.objs.size))
      refine ⟨_, _, Heap.get?_update_self _ he₂ (Obj.isFreed_of_fields hd₃), ?_, ?_, hd₃, by simp [hsz], by rw [Array.getElem?_setIfInBounds_ne (by decide)]; exact h2, fun t ht => ?_⟩
      · rw [Obj.cls_mapFields]; exact hc
      · rw [mapFields_dict]; exact hdx
      · obtain rfl := Option.some.inj ht
        refine ⟨hne, oT, _, ?_, by rw [← hoT], ?_⟩
        · rw [Heap.get?_update_other _ _ (Ne.symm hne)]
          exact Heap.get?_push_size h₁ (by rw [← hoT]; rfl)
        · first | (simp; done) | (rcases hpl with rfl | ⟨_, _, _, _, _, _, _, rfl⟩ <;> simp)
    · have hbe : e ≠ b := fun q => nb (q ▸ mS)
      rw [Heap.get?_update_other _ _ hbe]
      exact Heap.get?_push_of_some _ ((hs₁.2.1 b fb).trans eb)
    · have hbe : e ≠ b := fun q => nb (q ▸ mS)
      obtain ⟨sl, hs⟩ := hs₁.2.2 b o eb
      exact ⟨sl, by rw [Heap.get?_update_other _ _ hbe]; exact Heap.get?_push_of_some _ hs⟩
  unfold noteFrame
  simp only [hf]
  refine wpAny_bind (wpAny_field he hd h1 ?_)
  cases T with
  | none =>
    simp only [Option.elim_none, bne_self_eq_false, Bool.false_eq_true, if_false]
    exact half s.heap he hl (HeldBut.refl _ _ _) (fun _ q => q) (Nat.le_refl _) _ _
  | some t =>
    obtain ⟨hTe, oT, ts, hT, hdT, h3⟩ := hT t rfl
    simp only [Option.elim_some, show (Value.ref t != Value.none) = true from by simp, if_true]
    refine wpAny_bind (wpAny_field hT hdT h3 ?_)
    rw [if_neg (show ¬ ((Value.none == rawInt L) = true) from by simp [rawInt])]
    refine wpAny_bind (wpAny_setField hT hdT (Array.getElem?_eq_some_iff.mp h3).1 ?_)
    have other : ∀ b, b ≠ t → (s.heap.update t (Obj.mapFields (·.setIfInBounds 3 Value.none))).get? b = s.heap.get? b := fun b hb => Heap.get?_update_other _ _ (Ne.symm hb)
    refine half _ ((other e (Ne.symm hTe)).trans he) (hl.of_keeps fun b o hb hnf => ⟨o, (other b fun q => ?_).trans hb, rfl⟩) (HeldBut.of_keep _ fun b o hb nb => (other b fun q => nb ?_).trans hb) (fun b hb => ?_) (Nat.le_of_eq (Heap.size_update _ _ _).symm) _ _
    · rw [q, hT] at hb; injection hb with hb; subst hb; exact hnf ts hdT
    · rw [q]; exact mC _ (by simp)
    · by_cases q : b = t
      · rw [q, hT] at hb; exact some_no hb
      · exact (other b q).trans hb

theorem exc_ground {T' : Addr} (x : ExcAt s.heap e cls dx (some T') fl) (h : ∀ h', ExcAt h' e cls dx (some T') .none → (∀ b o, s.heap.get? b = some o → b ≠ T' → h'.get? b = some o) → Q () { s with heap := h' }) :
    wpAny M A (setFlight (.ref e) none) Q E s := by
  obtain ⟨oe, vs, he, hc, hdx, hd, h1, h2, hT⟩ := x
  obtain ⟨hTe, oT, ts, hT, hdT, h3⟩ := hT T' rfl
  have hsz3 : 3 < ts.size := (Array.getElem?_eq_some_iff.mp h3).1
  have other : ∀ b, b ≠ T' → (s.heap.update T' (Obj.mapFields (·.setIfInBounds 3 ((none : Option Addr).elim Value.none fun f => rawInt f)))).get? b = s.heap.get? b :=
    fun b hb => Heap.get?_update_other _ _ (Ne.symm hb)
  unfold setFlight
  refine wpAny_bind (wpAny_field he hd h1 ?_)
  simp only [Option.elim_some, show (Value.ref T' != Value.none) = true from by simp, if_true]
  refine wpAny_setField hT hdT hsz3 (h _ ⟨oe, vs, (other e (Ne.symm hTe)).trans he, hc, hdx, hd, h1, h2, fun t ht => ?_⟩ fun b o hb nb => (other b nb).trans hb)
  obtain rfl := Option.some.inj ht
  exact ⟨hTe, _, _, Heap.get?_update_self _ hT (Obj.isFreed_of_fields (Obj.data_mapFields hdT _)), Obj.data_mapFields hdT _, by simp [hsz3]⟩

theorem exc_leave (hfr : A.frames = some (env :: outer)) (hl : s.heap.FunFrames base (env :: outer)) (hf : env.frame = some L) (x : ExcAt s.heap e cls dx T .none)
    (h : ∀ h' T', s.heap.get? T' = none → ExcAt h' e cls dx (some T') .none → HeldBut s.heap h' (e :: T.toList) ((env :: outer).filterMap (·.frame)) → Q () { s with heap := h' }) :
    wpAny M A (leaving env (.ref e)) Q E s := by
  unfold leaving
  refine wpAny_bind (exc_note hfr hl hf x fun h₁ T' hn x₁ k₁ => ?_)
  refine exc_ground (s := { s with heap := h₁ }) x₁ fun h₂ x₂ k₂ => h h₂ T' hn x₂ ?_
  have ne : ∀ b o, s.heap.get? b = some o → b ≠ T' := fun b o q z => by rw [z, hn] at q; exact none_no q
  exact ⟨fun b o q nb fb => k₂ b o (k₁.1 b o q nb fb) (ne b o q), fun b o q nb => by obtain ⟨sl, z⟩ := k₁.2 b o q nb; exact ⟨sl, k₂ b _ z (ne b o q)⟩⟩
end
end
section
section
variable {prog : Program} {w : World} {A : Around} {E : Value → Shared → Prop} {K : Frag} {C x : Addr} {s : Shared} {h₀ : Heap} {L : Addr} {m : Str → Option Value} {news news' : List (Addr × Obj)} {R : Result → Shared → Prop} {name : Str} {v : Value} {ox : Obj} {od : Option Obj} {cd : ClassData}
noncomputable def storesIn (cd : ClassData) : Bool :=
  cd.mro.contains (.type "object") && !cd.mro.isEmpty && cd.hasDict
theorem xsa_open {tk : Tok} (X : K.In s.heap) (I : InstAt s.heap x ox C od) (hc : clsIn K C = some cd) (hb : storesIn cd = true) (hp : ∀ self, refuseLoop self "__setattr__" cd.mro = pure ()) (ht : findIn K (.ref C) name = some none)
    (h : wpAny (model prog w) A.in1 (Builtin.ObjectAttr.storeInOwnDict (.ref x) (.ref C) (.str name tk) name v false)
      (fun fin s' => match fin with | .done f => R (.ok f) s' | .again c' => c'.quiet = true ∧ codeAny (model prog w) A c' R s') (fun e s' => R (.error e) s') s) :
    codeAny (model prog w) A (.call (.builtin "object.__setattr__") ⟨[.ref x, .str name tk, v], []⟩) R s := by
  have SF := PySem.F.store_object
  unfold storesIn at hb
  simp only [Bool.and_eq_true, Bool.not_eq_true'] at hb
  obtain ⟨⟨hob, ne⟩, -⟩ := hb
  have sub : Looks (model prog w) s.heap (isInstance (.ref x) (.type "object")) true := I.type.andThen (looks_mroIn X (by unfold mroIn; rw [hc, Option.bind_some, if_neg (by rw [ne]; decide), hob]))
  refine codeAny_call_builtin SF.slot.plain SF.entry (@check_slot (model prog w) _ _ s "object.__setattr__" "object" "__setattr__" (.ref x) [.str name tk, v] [] _ SF.kind SF.split sub (SF.args (.ref x) (.str name tk) v) ?_)
  have hm : Looks (model prog w) s.heap (mroOf (.ref C)) cd.mro := (looks_clsIn X hc).andThen .now
  rw [osa_eq, refuse_eq]
  refine wpAny_bind (wpAny_bind (I.type.here (wpAny_bind (hm.here ?_))))
  rw [hp]
  exact wpAny_pure (wpAny_bind (I.type.here (wpAny_bind ((looks_findIn X ht).here (wpAny_bind (wpAny_pure h))))))

theorem exc_set0 {Q : Unit → Shared → Prop} (F : Fr h₀ L s.heap m) (X₀ : K.In h₀) (N : News h₀ L s.heap news) (hs : findIn K (.ref C) "__setattr__" = some (some (.builtin "object.__setattr__")))
    (hc : clsIn K C = some cd) (hb : storesIn cd = true) (hp : ∀ self, refuseLoop self "__setattr__" cd.mro = pure ()) (ht : findIn K (.ref C) name = some none) {vs : Array Value} {sl : Array (Option Value)} {news' : Addr → List (Addr × Obj)}
    (U : ∀ d, Upd x ⟨.ref C, none, .fields vs, sl⟩ ⟨.ref C, some d, .fields vs, sl⟩ news (news' d))
    (h : ∀ d h' tk, Fr h₀ L h' m → News h₀ L h' ((d, dictOf [⟨PyData.keyHash w.params name, .str name tk, v⟩] 1) :: news' d) → (∀ p ∈ news, p.1 < d) → Q () { s with heap := h', toks := s.toks + 2 }) :
    wpAny (model prog w) A (setAttr (.ref x) name v) Q E s := by
  obtain ⟨pre, post, rfl, e2, a, b⟩ := (U s.heap.objs.size).split
  have X := X₀.keeps F.keep
  have z := N (x, ⟨.ref C, none, .fields vs, sl⟩) (List.mem_append.mpr (.inr (.head _)))
  have I : InstAt s.heap x ⟨.ref C, none, .fields vs, sl⟩ C none := ⟨z.1, rfl, rfl, trivial⟩
  refine set_plain X I hs (xsa_open (s := { s with toks := s.toks + 1 }) X I hc hb hp ht ?_)
  unfold storesIn at hb
  simp only [Bool.and_eq_true] at hb
  refine wpAny_bind (wpAny_pure (wpAny_bind (wpAny_bind (wpAny_loadPart (s := { s with toks := s.toks + 1 }) z.1 (wpAny_bind ((looks_clsIn X hc).here (s := { s with toks := s.toks + 1 }) ?_))))))
  rw [hb.2]
  have F₁ := F.push emptyDict
  have N₁ := N.push F emptyDict
  have hx : x ≠ s.heap.objs.size := Nat.ne_of_lt (Heap.lt_size z.1)
  obtain ⟨F₂, N₂⟩ := news_upd (f := fun o => { o with dict := some s.heap.objs.size }) (pre := (s.heap.objs.size, emptyDict) :: pre) F₁ N₁ (fun p hp => by
    rcases mK hp with rfl | hp
    · exact Ne.symm hx
    · exact a p hp) b (o' := ⟨.ref C, some s.heap.objs.size, .fields vs, sl⟩) rfl rfl
  have off : ∀ p ∈ pre ++ (x, (⟨.ref C, some s.heap.objs.size, .fields vs, sl⟩ : Obj)) :: post, p.1 ≠ s.heap.objs.size := fun p hp => by
    rcases mA hp with hp | hp
    · exact Nat.ne_of_lt (Heap.lt_size (N p (mL _ hp)).1)
    · rcases mK hp with rfl | hp
      · exact hx
      · exact Nat.ne_of_lt (Heap.lt_size (N p (List.mem_append.mpr (.inr (.tail _ hp)))).1)
  obtain ⟨F₃, N₃⟩ := news_upd (d := s.heap.objs.size) (pre := []) (f := Obj.putName name (PyData.keyHash w.params name) (.str name (s.toks + 1)) v) (o' := dictOf [⟨PyData.keyHash w.params name, .str name (s.toks + 1), v⟩] 1) F₂ N₂ (fun p hp => nomatch hp)
    off (by rw [show emptyDict = dictOf [] 0 from rfl, putName_dict]; rfl) rfl
  have D₂ := (N₂ (s.heap.objs.size, emptyDict) (.head _)).1
  have D₃ := (N₃ _ (.head _)).1
  show wpAny _ _ (alloc emptyDict >>= fun d => (update x fun o => { o with dict := some d }) >>= fun _ => pure (some d)) _ _ _
  refine wpAny_bind (wpAny_alloc (wpAny_bind (wpAny_update (Heap.get?_push_of_some _ z.1) (wpAny_pure ?_))))
  show wpAny _ _ (Builtin.ObjectAttr.storeInDict s.heap.objs.size (.str name _) name v) _ _ _
  unfold Builtin.ObjectAttr.storeInDict Builtin.ObjectAttr.newKeyGuard
  refine wpAny_bind (wpAny_pure (wpAny_bind ?_))
  unfold nsSet
  refine wpAny_bind (wpAny_bind (wpAny_askSetting (wpAny_pure (wpAny_bind (wpAny_mkText (wpAny_bind (wpAny_loadPart D₂ ?_)))))))
  dsimp only
  rw [aRefKeyMayBeTheName_at, show (!(#[] : Array DictEntry).any (·.key.isStr name) && (#[] : Array DictEntry).any (·.refKey)) = false from by simp]
  refine wpAny_updatePart (by exact D₂) ?_
  refine wpAny_bind (wpAny_lookBehind (o := dictOf [⟨PyData.keyHash w.params name, .str name (s.toks + 1), v⟩] 1) (by exact D₃) (pastItsLine_dict (by rw [List.size_toArray, sizeLine_eq]; exact Nat.le_of_ble_eq_true rfl)) ?_)
  refine wpAny_pure ?_
  have := h s.heap.objs.size _ (s.toks + 1) F₃ (by rw [e2]; exact N₃)
  exact this (fun p hp => Heap.lt_size (N p hp).1)
set_option tactic.hygienic true in
theorem exc_set1 {Q : Unit → Shared → Prop} {es es' : List DictEntry} {n n' : Nat} {d : Addr} (F : Fr h₀ L s.heap m) (X₀ : K.In h₀) (N : News h₀ L s.heap news) (hs : findIn K (.ref C) "__setattr__" = some (some (.builtin "object.__setattr__")))
    (hc : clsIn K C = some cd) (hb : storesIn cd = true) (hp : ∀ self, refuseLoop self "__setattr__" cd.mro = pure ()) (ht : findIn K (.ref C) name = some none) {vs : Array Value} {sl : Array (Option Value)}
    (hm : (x, (⟨.ref C, some d, .fields vs, sl⟩ : Obj)) ∈ news) (hl : (getL name es).isSome = true) (e : (putL name (PyData.keyHash w.params name) (.str name (s.toks + 1)) v es, putN name es n) = (es', n'))
    (U : Upd d (dictOf es n) (dictOf es' n') news news') (hz : es'.length ≤ 1000)
    (h : ∀ h', Fr h₀ L h' m → News h₀ L h' news' → Q () { s with heap := h', toks := s.toks + 2 }) :
    wpAny (model prog w) A (setAttr (.ref x) name v) Q E s := by
  obtain ⟨pre, post, rfl, rfl, a, b⟩ := U.split
  obtain ⟨e1, e2⟩ := Prod.mk.inj e
  have X := X₀.keeps F.keep
  have z := N _ hm
  have D := (N (d, dictOf es n) (List.mem_append.mpr (.inr (.head _)))).1
  have I : InstAt s.heap x ⟨.ref C, some d, .fields vs, sl⟩ C (some (dictOf es n)) := ⟨z.1, rfl, rfl, D⟩
  refine set_plain X I hs (xsa_open (s := { s with toks := s.toks + 1 }) X I hc hb hp ht ?_)
  unfold storesIn at hb
  simp only [Bool.and_eq_true] at hb
  refine wpAny_bind (wpAny_pure (wpAny_bind (wpAny_bind (wpAny_loadPart (s := { s with toks := s.toks + 1 }) z.1 (wpAny_bind ((looks_clsIn X hc).here (s := { s with toks := s.toks + 1 }) ?_))))))
  rw [hb.2]
  obtain ⟨F₃, N₃⟩ := news_upd (f := Obj.putName name (PyData.keyHash w.params name) (.str name (s.toks + 1)) v) (o' := dictOf es' n') F N a b (by rw [putName_dict, e1, e2]) rfl
  have D₃ := (N₃ (d, dictOf es' n') (List.mem_append.mpr (.inr (.head _)))).1
  refine wpAny_pure (a := some d) (wpAny_bind (wpAny_pure (wpAny_bind ?_)))
  unfold nsSet
  refine wpAny_bind (wpAny_bind (wpAny_askSetting (wpAny_pure (wpAny_bind (wpAny_mkText (wpAny_bind (wpAny_loadPart D ?_)))))))
  dsimp only
  have c : (!es.toArray.any (·.key.isStr name) && es.toArray.any (·.refKey)) = false := by
    rw [List.any_toArray, List.any_toArray]
    unfold getL at hl
    split at hl
    · rename_i en he
      rw [List.any_eq_true.mpr ⟨en, List.mem_of_find?_eq_some he, List.find?_some he⟩]; rfl
    · split at hl
      · exact ft_no hl
      · rename_i q; rw [Bool.not_eq_true] at q; rw [q, Bool.and_false]
  rw [aRefKeyMayBeTheName_at, c]
  refine wpAny_updatePart (by exact D) ?_
  refine wpAny_bind (wpAny_lookBehind (o := dictOf es' n') (by exact D₃) (pastItsLine_dict (by rw [List.size_toArray, sizeLine_eq]; lia)) ?_)
  exact wpAny_pure (h _ F₃ N₃)
end
end
section
section
variable {prog : Program} {w : World} {A : Around} {E : Value → Shared → Prop} {R : Result → Shared → Prop} {h : Heap} {g : Array GenState} {d : Drawn} {t : Nat} {os : OsState}
variable {nm q : Str} {C D N : Addr} {bs bm : List Value} {hdct : Bool} {sn : List Str} {sub : List Value} {ab : Bool} {col : Option Bool} {dd : Option Addr} {k0 k1 k2 k3 k5 : Option Value} {B newId initId : String}

theorem xnew (F : ExcBaseFacts B newId initId bm) {rest : List Value} (hC : h.get? C = some (excClassObj nm q C N bs (.ref D :: bm) hdct sn sub ab col dd k0 k1 k2 k3 k5 newId))
    (hq : R (.ok (.ret (.ref (h.objs.size + 1)))) ⟨(h.push (tupO rest.toArray)).push
      { cls := .ref C, data := .fields #[.ref h.objs.size, .none, .none, .none, .bool false, .none] }, g, d, t, os⟩) (fits : rest.length ≤ sizeLine) :
    codeAny (model prog w) A (.builtin newId ⟨.ref C :: rest, []⟩) R ⟨h, g, d, t, os⟩ := by
  have ends := F.ends
  have cB : (Value.ref C :: Value.ref D :: bm).contains (.type B) = true := by rw [List.contains_cons, List.contains_cons, F.hasB, Bool.or_true, Bool.or_true]
  have cA : (Value.ref C :: Value.ref D :: bm).contains (.type "AttributeError") = false := by rw [List.contains_cons, List.contains_cons, F.noAttr]; rfl
  have cN : (Value.ref C :: Value.ref D :: bm).contains (.type "NameError") = false := by rw [List.contains_cons, List.contains_cons, F.noName]; rfl
  refine codeAny_builtinAt F.entry ?_
  unfold Builtin.«BaseException.__new__»
  refine PySem.wpAt_bind ?_
  show PySem.wpAt _ _ _ (stack >>= _) _ _ _
  refine PySem.wpAt_bind (PySem.wpAt_stack fun p below => PySem.wpAt_of_wpAny ?_)
  wp_walk
  refine PySem.wpAt_of_wpAny ?_
  rw [F.owner]
  repeat (first | with_reducible refine wpAny_madeHere_exc F.canon hC ?_ | with_reducible refine wpAny_loadPart_at hC ?_ | (with_reducible refine wpAny_isSubtype_exc hC ?_; first | rw [cB] | rw [cA] | rw [cN]) | wp_step)
  show R _ _
  rw [Heap.size_push]
  exact hq
end

noncomputable abbrev excNew (C t : Addr) : Obj := { cls := .ref C, data := .fields #[.ref t, .none, .none, .none, .bool false, .none] }
section
variable {prog : Program} {w : World} {A : Around} {K : Frag} {C D : Addr} {s : Shared} {h₀ : Heap} {L : Addr} {m : Str → Option Value} {news : List (Addr × Obj)} {Q E : Value → Shared → Prop}
variable {nm q : Str} {N : Addr} {bs bm : List Value} {hdct : Bool} {sn : List Str} {sub : List Value} {ab : Bool} {col : Option Bool} {dd : Option Addr} {k0 k1 k2 k3 k5 : Option Value} {B newId initId : String}
set_option tactic.hygienic true in
theorem call_exc2 (Fx : ExcBaseFacts B newId initId bm) {rest : List Value} {fI : Addr} (F : Fr h₀ L s.heap m) (X₀ : K.In h₀) (N' : News h₀ L s.heap news)
    (hl : K.lookup C = some (excClassObj nm q C N bs (.ref D :: bm) hdct sn sub ab col dd k0 k1 k2 k3 k5 newId))
    (hi : findIn K (.ref C) "__init__" = some (some (.ref fI))) (hf : isFn K (.ref fI) = true) (fits : rest.length ≤ 1000)
    (hq : ∀ x t h', Fr h₀ L h' m → News h₀ L h' ((x, excNew C t) :: (t, tupO rest.toArray) :: news) → (∀ p ∈ news, p.1 < t) → t < x →
      codeAny (model prog w) (A.under (.builtin "type.__call__" ⟨.ref C :: rest, []⟩)) (.call (.ref fI) ⟨.ref x :: rest, []⟩) (InitBack x fun r s' => match r with | .ok (.ret v) => Q v s' | .ok _ => False | .error e => E e s') { s with heap := h' }) :
    wpAny (model prog w) A (call (.ref C) rest) Q E s := by
  obtain ⟨h, g, d, t, os⟩ := s
  have X := X₀.keeps F.keep
  have hC := X _ _ hl
  have f1 := tc_lookup
  have f2 := tc_bind (.ref C)
  have hT : (⟨h, g, d, t, os⟩ : Shared).TypeIs (.ref C) "type" := ⟨_, hC, rfl⟩
  refine wpAny_call (codeAny_of_tree ?_)
  show wpAny _ _ (callAny (.ref C) _) _ _ _
  repeat (any_goals (first | assumption | with_reducible refine wpAny_loadPart_at hC ?_ | wp_step))
  refine ⟨rfl, ?_⟩
  refine codeAny_call_builtin_at (Code.quiet_builtin _ (by decide +kernel)) entry_typeCall (wpAny_check_type_call_sub hC ?_)
  repeat (first | with_reducible refine wpAny_loadPart_at hC ?_ | with_reducible refine wpAny_madeBy_exc hC ?_ | wp_step)
  refine codeAny_call_builtin_code (Code.quiet_builtin _ Fx.quiet) (wpAny_check_new_subU Fx (bmB := .ref D :: bm) (by rw [List.contains_cons, Fx.hasB, Bool.or_true]) .base hC ?_)
  refine xnew Fx hC ?_ (sz_ok fits)
  show wpAny _ _ _ _ _ _
  have F₁ := (F.push (tupO rest.toArray)).push (excNew C h.objs.size)
  have N₁ := (N'.push F (tupO rest.toArray)).push (F.push _) (excNew C h.objs.size)
  dsimp only at F₁ N₁
  rw [Heap.size_push] at N₁
  have X₁ := X₀.keeps F₁.keep
  have hC₁ := X₁ _ _ hl
  have hget := (N₁ _ (.head _)).1
  change _ = some ({ cls := .ref C, data := .fields #[.ref h.objs.size, .none, .none, .none, .bool false, .none] } : Obj) at hget
  have hcC : (Value.ref C :: Value.ref D :: bm).contains (.ref C) = true := by simp
  have i1 := looks_findIn (M := model prog w) X₁ hi
  have b1 := bind_fn (M := model prog w) X₁ (.ref (h.objs.size + 1)) (beq_iff_eq.mp hf)
  unfold isInstance
  repeat (first | with_reducible refine wpAny_loadPart_at hget ?_ | wp_step)
  refine wpAny_isSubtype_exc hC₁ ?_
  rw [hcC]
  have t1 : Looks (model prog w) ((h.push (tupO rest.toArray)).push (excNew C h.objs.size)) (typeOf (.ref (h.objs.size + 1))) (.ref C) := (Looks.ld hget).andThen .now
  simp only [Bool.not_true, Bool.false_eq_true, if_false]
  have I : InstAt ((h.push (tupO rest.toArray)).push (excNew C h.objs.size)) (h.objs.size + 1) (excNew C h.objs.size) C none := ⟨hget, rfl, rfl, trivial⟩
  show wpAny _ _ (holding _ (callSpecial? (.ref (h.objs.size + 1)) "__init__" rest) >>= _) _ _ _
  refine wpAny_bind (wpAny_holding (special_fn (s := ⟨_, g, d, t, os⟩) X₁ I hi (beq_iff_eq.mp hf) (wpAny_call ?_)))
  refine codeAny_mono (hq _ _ _ F₁ N₁ (fun p hp => Heap.lt_size (N' p hp).1) (Nat.lt_succ_self _)) fun r s' z => ?_
  rcases r with e | (v | _ | _ | _) <;> first | exact z | exact z.elim | skip
  obtain ⟨rfl, z⟩ := z
  exact wpAny_pure z
end

section
variable {prog : Program} {w : World} {A : Around} {K : Frag} {C D : Addr} {s : Shared} {h₀ : Heap} {L : Addr} {m : Str → Option Value} {news : List (Addr × Obj)} {Q E : Value → Shared → Prop}
variable {nm q : Str} {N : Addr} {bs bm : List Value} {hdct : Bool} {sn : List Str} {sub : List Value} {ab : Bool} {col : Option Bool} {dd : Option Addr} {k0 k1 k2 k3 k5 : Option Value} {B newId initId : String}
theorem xinit_check (Fx : ExcBaseFacts B newId initId bm) {M : Model} {h : Heap} {g : Array GenState} {d : Drawn} {t : Nat} {os : OsState} {e : Addr} {oe : Obj} {rest : List Value} {Q : Unit → Shared → Prop}
    (hC : h.get? C = some (excClassObj nm q C N bs (.ref D :: bm) hdct sn sub ab col dd k0 k1 k2 k3 k5 newId)) (he : h.get? e = some oe) (hcls : oe.cls = .ref C) (hq : Q () ⟨h, g, d, t, os⟩) :
    wpAny M A (checkBuiltinCall initId ⟨.ref e :: rest, []⟩) Q E ⟨h, g, d, t, os⟩ := by
  have two : (Value.ref C :: Value.ref D :: bm).contains (.type B) = true := by rw [List.contains_cons, List.contains_cons, Fx.hasB, Bool.or_true, Bool.or_true]
  have star := Fx.noStar
  simp only [checkBuiltinCall, Fx.initKind, Fx.initSplit, Fx.initRow]
  repeat (first | (with_reducible refine wpAny_loadPart_at he ?_; rw [hcls]) | with_reducible refine wpAny_loadPart_at hC ?_ | (with_reducible refine wpAny_isSubtype_exc hC ?_; rw [two]) | wp_step)
  refine wpAny_onRaise ?_
  rw [show ∀ (a b : String) (n : Nat), Bind.check ⟨.positional, "*", B, .self, [⟨"args", .varPos, false⟩]⟩ a b n (List.map (fun x => x.fst) ({ pos := Value.ref e :: rest } : Args).kw) = pure () from
    fun a b n => check_star_args _ _ _ _ _ _]
  exact wpAny_pure hq
theorem exc_init (Fx : ExcBaseFacts B newId initId bm) {x t : Addr} {v : Value} {news' : Addr → List (Addr × Obj)} (F : Fr h₀ L s.heap m) (X₀ : K.In h₀) (N' : News h₀ L s.heap news)
    (hl : K.lookup C = some (excClassObj nm q C N bs (.ref D :: bm) hdct sn sub ab col dd k0 k1 k2 k3 k5 newId)) (U : ∀ t', Upd x (excNew C t) (excNew C t') news (news' t'))
    (h : ∀ t' h', Fr h₀ L h' m → News h₀ L h' ((t', tupO #[v]) :: news' t') → (∀ p ∈ news, p.1 < t') → Q .none { s with heap := h' }) : wpAny (model prog w) A (call (.builtin initId) [.ref x, v]) Q E s := by
  obtain ⟨pre, post, rfl, e2, a, b⟩ := (U s.heap.objs.size).split
  have X := X₀.keeps F.keep
  have hC := X _ _ hl
  have z := N' (x, excNew C t) (List.mem_append.mpr (.inr (.head _)))
  have hx : x ≠ s.heap.objs.size := Nat.ne_of_lt (Heap.lt_size z.1)
  have F₁ := F.push (tupO #[v])
  have N₁ := N'.push F (tupO #[v])
  obtain ⟨F₂, N₂⟩ := news_upd (f := Obj.mapFields (·.setIfInBounds 0 (Value.ref s.heap.objs.size))) (pre := (s.heap.objs.size, tupO #[v]) :: pre) F₁ N₁ (fun p hp => by
    rcases mK hp with rfl | hp
    · exact Ne.symm hx
    · exact a p hp) b (o' := excNew C s.heap.objs.size) rfl rfl
  obtain ⟨hh, g, d, tk, os⟩ := s
  refine wpAny_call (codeAny_call_builtin Fx.init.plain Fx.initEntry (xinit_check Fx hC z.1 rfl ?_))
  have z1 := z.1
  change hh.get? x = some ({ cls := .ref C, data := .fields #[.ref t, .none, .none, .none, .bool false, .none] } : Obj) at z1
  wp_walk
  exact h _ _ F₂ (by rw [e2]; exact N₂) (fun p hp => Heap.lt_size (N' p hp).1)
end
end
section
inductive RaisableT (C : Addr) (E : Value → Shared → Prop) (v : Value) (s₁ : Shared) : Prop
  | mk (a d t : Addr) (nm q : Str) (N : Addr) (bs bm : List Value) (hdct : Bool) (sn : List Str) (sub : List Value) (ab : Bool) (col : Option Bool) (dd : Option Addr) (k0 k1 k2 k3 k5 : Option Value) (newId : String)
    (hv : v = .ref a) (hB : (Value.ref C :: bm).contains (.type "BaseException") = true) (hC : s₁.heap.get? C = some (excClassObj nm q C N bs bm hdct sn sub ab col dd k0 k1 k2 k3 k5 newId))
    (he : s₁.heap.get? a = some { cls := .ref C, dict := some d, data := .fields #[.ref t, .none, .none, .none, .bool false, .none] }) (hE : E (.ref a) s₁)
section
variable {M : Model} {A : Around} {E : Value → Shared → Prop} {s : Shared} {env : Env}
theorem Raise_own {C : Addr} {e : Expr} {pos : Pos} {Q : Flow → Shared → Prop} (hh : A.handled = none) (h : wpAny M A (eval e env) (RaisableT C E) E s) : wpAny M A (exec (.Raise (some e) none pos) env) Q E s := by
  show wpAny M A (do standAt pos; raiseStmt env (some (do let v ← eval e env; standAt pos; pure v)) none) Q E s
  refine wpAny_bind (wpAny_standAt ?_)
  unfold raiseStmt
  dsimp only
  refine wpAny_bind (wpAny_bind (wpAny_mono h (fun v s₁ h₁ => wpAny_bind (wpAny_standAt (wpAny_pure ?_))) fun _ _ x => x))
  obtain ⟨a, d, t, nm, q, N, bs, bm, hdct, sn, sub, ab, col, dd, k0, k1, k2, k3, k5, newId, rfl, hB, hC, he, hE⟩ := h₁
  obtain ⟨hp, g, d, tk, os⟩ := s₁
  repeat (first | with_reducible refine wpAny_loadPart_at he ?_ | with_reducible refine wpAny_loadPart_at hC ?_ | (with_reducible refine wpAny_isSubtype_exc hC ?_; rw [hB]) | wp_step)
  exact wpAny_raiseNew_none hh hE
end
end
section
set_option tactic.hygienic true in
theorem exc_get {prog : Program} {w : World} {A : Around} {E : Value → Shared → Prop} {K : Frag} {C x dx : Addr} {s : Shared} {h₀ : Heap} {L : Addr} {m : Str → Option Value} {news : List (Addr × Obj)} {name : Str} {v : Value} {ox : Obj} {es : List DictEntry} {n : Nat} {expr : Bool} {Q : Value → Shared → Prop} {cd : ClassData}
    (F : Fr h₀ L s.heap m) (X₀ : K.In h₀) (N : News h₀ L s.heap news) (hm : (x, ox) ∈ news) (hc : ox.cls = .ref C) (hd : ox.dict = some dx) (hf : ∃ vs, ox.data = .fields vs) (hdx : (dx, dictOf es n) ∈ news)
    (hga : findIn K (.ref C) "__getattribute__" = some (some (.builtin "BaseException.__getattribute__"))) (hk : findIn K (.ref C) "__getattr__" = some none) (hcd : clsIn K C = some cd) (hmr : (cd.mro.contains (.type "BaseException") && !cd.mro.isEmpty) = true)
    (hh : hasDictIn K C = true) (ha : findIn K (.ref C) name = some none) (hl : getL name es = some (some v)) (hv : handedIn v = true) (h : Q v { s with toks := s.toks + 1 }) : wpAny (model prog w) A (getAttr (.ref x) name expr) Q E s := by
  have I : InstAt s.heap x ox C (some (dictOf es n)) := ⟨(N _ hm).1, hc, by obtain ⟨vs, e⟩ := hf; simp [notCls, e], by rw [hd]; exact (N _ hdx).1⟩
  have X := X₀.keeps F.keep
  have FB := PySem.F.attr_Exception.ga
  obtain ⟨hp, g, d, t, os⟩ := s
  have L0 := I.type (M := model prog w)
  have L1 := looks_findIn (M := model prog w) X hga
  have L2 := looks_findIn (M := model prog w) X hk
  have L3 := looks_find (M := model prog w) X I (findObj_own hh ha rfl hl)
  simp only [Bool.and_eq_true, Bool.not_eq_true'] at hmr
  have sub : Looks (model prog w) hp (isInstance (.ref x) (.type "BaseException")) true := L0.andThen (looks_mroIn X (by unfold mroIn; rw [hcd, Option.bind_some, if_neg (by rw [hmr.2]; decide), hmr.1]))
  have f3 := FB.bind (.ref x)
  have hx0 : (expr && onTheHeap (Value.builtin "BaseException.__getattribute__")) = false := by cases expr <;> rfl
  have hx2 : (Value.builtin "BaseException.__getattribute__" == Value.builtin "object.__getattribute__") = false := by decide +kernel
  have hx1 : (onTheHeap (Value.ref C) && Value.builtin "BaseException.__getattribute__" == Value.builtin "object.__getattribute__") = false := by rw [hx2]; rfl
  unfold getAttr getAttrBy
  refine wpAny_bind (wpAny_mkText (wpAny_holding (wpAny_bind (L0.at (wpAny_bind (L1.at ?_))))))
  dsimp only
  rw [hx1]
  show wpAny _ _ (getAttrByItsOwn _ _ _ _ _ _) _ _ _
  unfold getAttrByItsOwn
  refine wpAny_bind (L2.at ?_)
  repeat (any_goals (first | assumption | wp_step))
  · refine codeAny_call_builtin FB.plain PySem.F.entry_bexc_ga (@check_slot (model prog w) _ _ _ "BaseException.__getattribute__" "BaseException" "__getattribute__" (.ref x) [.str name t] [] _ (by decide +kernel) (by decide +kernel) sub (PySem.F.args_bexc_ga (.ref x) (.str name t)) ?_)
    show wpAny _ _ (Builtin.«object.__getattribute__» _) _ _ _
    unfold Builtin.«object.__getattribute__»
    repeat (any_goals (first | assumption | (with_reducible refine L0.at ?_) | (with_reducible refine L3.at ?_) | wp_step))
    show wpAny _ _ (handedOut v) _ _ _
    rw [handedOut_of hv]; exact wpAny_pure h
end
section
theorem notin_T {e b : Addr} {T : Option Addr} (h1 : b ≠ e) (h2 : ∀ t, T = some t → b ≠ t) : b ∉ e :: T.toList := fun h => (mK h).elim h1 fun h => h2 b (Option.mem_toList.mp h) rfl
def KeepBut (h h' : Heap) (as : List Addr) : Prop := ∀ b o, h.get? b = some o → b ∉ as → h'.get? b = some o
noncomputable abbrev frs (l : List Env) : List Addr := l.filterMap (·.frame)
def Own (frames : List Env) (base h : Heap) (sub : List (Addr × Obj)) : Prop :=
  ∀ p ∈ sub, h.get? p.1 = some p.2 ∧ base.get? p.1 = none ∧ ∀ env ∈ frames, env.frame ≠ some p.1
structure BaseOk (K : Frag) (p : Program) (loose : List Str) (mean : ExcName → Option Value) (mg mb : Str → Option Value) (base : Heap) : Prop where
  X : K.In base
  T : Top p loose mean mg mb base
structure Cx (A : Around) (frames : List Env) (base h : Heap) (K : Frag) (p : Program) (loose : List Str) (mean : ExcName → Option Value) (mg mb : Str → Option Value) : Prop where
  hd : A.handled = none
  fr : A.frames = some frames
  st : base.StaysIn h
  ff : h.FunFrames base frames
  ok : BaseOk K p loose mean mg mb base

theorem wpAny_room {α : Type} {M : Model} {A A' : Around} {t : Sem α} {Q : α → Shared → Prop} {E : Value → Shared → Prop} {s : Shared} (h : wpAny M A t Q E s)
    (e1 : A'.handled = A.handled) (e2 : A'.frames = A.frames) (e3 : A'.guards = A.guards) (hd : A'.depth ≤ A.depth) (hu : A'.units ≤ A.units) : wpAny M A' t Q E s :=
  fun Γ p hΓ => h Γ p ⟨hΓ.1.trans e1, Nat.le_trans hΓ.2.1 hd, fun l hl => hΓ.2.2.1 l (e2.trans hl), fun g hg => hΓ.2.2.2.1 g (e3.trans hg), Nat.le_trans hΓ.2.2.2.2 hu⟩

theorem frame_in {h base : Heap} : ∀ {l : List Env}, h.FunFrames base l → ∀ a ∈ frs l, base.get? a = none ∧ ∃ o, h.get? a = some o ∧ ∀ vs, o.data ≠ .fields vs
  | [], _, _, hm => nomatch hm
  | env :: r, ⟨_, ⟨L, o, hf, hn, ho, hd⟩, hr⟩, a, hm => by
    unfold frs at hm
    rw [List.filterMap_cons, hf] at hm
    rcases mK hm with rfl | hm
    · exact ⟨hn, o, ho, hd⟩
    · exact frame_in hr a hm
theorem frames_held {h h' base : Heap} : ∀ {l : List Env}, h.FunFrames base l → (∀ a ∈ frs l, ∀ o, h.get? a = some o → ∃ sl, h'.get? a = some { o with slots := sl }) → h'.FunFrames base l
  | [], _, _ => trivial
  | env :: r, ⟨hk, ⟨L, o, hf, hn, ho, hd⟩, hr⟩, x => by
    have hm : L ∈ frs (env :: r) := by unfold frs; rw [List.filterMap_cons, hf]; exact mS
    obtain ⟨sl, hs⟩ := x L hm o ho
    refine ⟨hk, ⟨L, _, hf, hn, hs, hd⟩, frames_held hr fun a ha => x a ?_⟩
    unfold frs
    rw [List.filterMap_cons, hf]
    exact mC _ ha

section
variable {prog : Program} {w : World} {A : Around} {frames : List Env} {base : Heap} {K : Frag} {p : Program} {loose : List Str} {mean : ExcName → Option Value} {mg mb : Str → Option Value}
  {sub : List (Addr × Obj)} {s : Shared} {R : Result → Shared → Prop} {name qual : Str} {params : Arguments} {body : List Stmt} {scope : Scope} {dV kV doc pm cdv ct oc : Value} {an od : Option Addr} {osl : Array (Option Value)} {f : Addr} {args : Args} {binds : List (Str × Value)}

theorem ground_sub {base : Heap} (C : Cx A frames base s.heap K p loose mean mg mb) (O : Own frames base s.heap sub) :
    Below A base frames (hideAll s.heap (sub.map (·.1))) ∧ K.In (hideAll s.heap (sub.map (·.1))) ∧ Top p loose mean mg mb (hideAll s.heap (sub.map (·.1))) := by
  have off : ∀ b o, base.get? b = some o → b ∉ sub.map (·.1) := fun b o e q => by
    obtain ⟨x, hx, rfl⟩ := mM q
    rw [(O x hx).2.1] at e; exact none_no e
  have stg : ∀ b o, base.get? b = some o → (hideAll s.heap (sub.map (·.1))).get? b = some o := fun b o e => hideAll_get _ (C.st b o e) (off b o e)
  exact ⟨⟨C.fr, stg, funFrames_hideAll C.ff fun env he b hb hf => by
    obtain ⟨x, hx, rfl⟩ := mM hb
    exact (O x hx).2.2 env he hf⟩, C.ok.X.keeps stg, C.ok.T.keeps stg⟩

theorem enter (C : Cx A frames base s.heap K p loose mean mg mb) (O : Own frames base s.heap sub)
    (ho : K.lookup f = some ⟨oc, od, .func (fnOf name qual params body scope dV kV doc pm an cdv ct), osl⟩) (hcd : codeIn K cdv qual = true) (hroom : A.depth < recursionLimit)
    (hbind : BindsTo s (fnOf name qual params body scope dV kV doc pm an cdv ct) args binds) (hloc : ∀ y ∈ binds, scope.names.lookup y.1 = some .local)
    (h : ∀ g L' h₁ tk, KeepBut s.heap g (sub.map (·.1)) → Fr g L' h₁ (fun y => binds.reverse.lookup y) → News g L' h₁ sub → Below A base frames g → K.In g → Top p loose mean mg mb g → (∀ p ∈ sub, p.1 < L') →
      wpAny (model prog w) (A.deeper (envOf qual scope L' f cdv)) (execs body (envOf qual scope L' f cdv))
        (fun fl s' => R (.ok (.ret (match fl with | .ret v => v | _ => .none))) s')
        (fun e s' => wpAny (model prog w) (A.deeper (envOf qual scope L' f cdv)) (leaving (envOf qual scope L' f cdv) e) (fun _ s'' => R (.error e) s'') (fun e' s'' => R (.error e') s'') s')
        { s with heap := h₁, toks := tk })
    (hco : scope.isCoroutine = false) (hgen : scope.isGenerator = false) (hk : scope.kind = .function)
    (hcell : ∀ x ∈ scope.names, x.2 ≠ .cell) : codeAny (model prog w) A (.call (.ref f) args) R s := by
  have X := C.ok.X.keeps C.st
  refine codeAny_call_def (fd := fnOf name qual params body scope dV kV doc pm an cdv ct) (body := body) (binds := binds) hroom (X _ _ ho) rfl (C.ok.T.nolimit.keeps C.st) (codeRec_of X hcd) rfl hbind hcell hloc (fun h₁ hns hk₁ => ?_) hco hgen hk
  obtain ⟨B, X', T'⟩ := ground_sub C O
  exact h _ s.heap.objs.size h₁ _ (fun b o e n => hideAll_get _ e n) ⟨hns, fun b o e => hk₁ b o (of_hideAll _ e), Nat.le_of_eq (hideAll_size _ _)⟩
    (fun q hq => ⟨hk₁ _ _ (O q hq).1, Nat.ne_of_lt (Heap.lt_size (O q hq).1), hideAll_none _ (List.mem_map_of_mem hq)⟩) B X' T' (fun q hq => Heap.lt_size (O q hq).1)
end

inductive Flown (P : Addr → Prop) (h : Heap) (e : Addr) (k : Int) : Prop
  | mk (dx : Addr) (T : Option Addr) (q1 t1 v1 q2 t2 tk) (x1 : ExcAt h e (.ref 108) (some dx) T .none) (x2 : dx ≠ e) (x3 : ∀ t, T = some t → t ≠ dx ∧ P t) (x4 : P e) (x5 : P dx)
      (x6 : h.get? dx = some (dictOf [⟨q1, .str (Str.ofString "text") t1, v1⟩, ⟨q2, .str (Str.ofString "steps") t2, .int k tk⟩] 2)) : Flown P h e k

noncomputable def NeAll (c : Addr) : List (Addr × Obj) → Prop
  | [] => True
  | p :: r => p.1 ≠ c ∧ NeAll c r
theorem NeAll.of {c : Addr} : ∀ {l : List (Addr × Obj)}, (∀ x ∈ l, x.1 ≠ c) → NeAll c l
  | [], _ => trivial
  | _ :: _, h => ⟨h _ mS, NeAll.of fun x hx => h x (mC _ hx)⟩
theorem NeAll.all {c : Addr} : ∀ {l : List (Addr × Obj)}, NeAll c l → ∀ x ∈ l, x.1 ≠ c
  | [], _, _, h => nomatch h
  | _ :: _, h, x, hx => by
    rcases mK hx with rfl | hx
    · exact h.1
    · exact NeAll.all h.2 x hx
def Ends (s : Shared) (mu : List Addr) (post : Value → List (Addr × Obj) → Prop) (Q : Value → Shared → Prop) : Prop :=
  ∀ v out h' tk, KeepBut s.heap h' mu → (∀ q ∈ out, h'.get? q.1 = some q.2 ∧ (q.1 ∈ mu ∨ s.heap.get? q.1 = none)) → post v out → Q v { s with heap := h', toks := tk }
def Raises (s : Shared) (frames : List Env) (mu : List Addr) (rais : Int → List (Addr × Obj) → Prop) (E : Value → Shared → Prop) : Prop :=
  ∀ e k out h' tk, HeldBut s.heap h' mu (frs frames) → (∀ q ∈ out, h'.get? q.1 = some q.2 ∧ (q.1 ∈ mu ∨ s.heap.get? q.1 = none)) → Flown (fun b => s.heap.get? b = none ∧ ∀ q ∈ out, q.1 ≠ b) h' e k → rais k out →
    E (.ref e) { s with heap := h', toks := tk }

def Ctr (prog : Program) (w : World) (K : Frag) (p : Program) (loose : List Str) (D U : Nat) (f : Value) (vs : List Value) (sub : List (Addr × Obj)) (mu : List Addr) (pre : Heap → Prop) (post : Value → List (Addr × Obj) → Prop) (rais : Int → List (Addr × Obj) → Prop) : Prop :=
  ∀ (A : Around) (frames : List Env) (base : Heap) (mean : ExcName → Option Value) (mg mb : Str → Option Value) (s : Shared) (Q E : Value → Shared → Prop),
    Cx A frames base s.heap K p loose mean mg mb → Own frames base s.heap sub → A.depth ≤ D → A.units ≤ U → pre s.heap → Ends s mu post Q → Raises s frames mu rais E → wpAny (model prog w) A (call f vs) Q E s
abbrev never : Int → List (Addr × Obj) → Prop := fun _ _ => False

structure RaisedAt (base g : Heap) (env : Env) (frames : List Env) (L : Addr) (m : Str → Option Value) (news : List (Addr × Obj)) (h : Heap) (e : Addr) (k : Int) : Prop where
  above : g.objs.size ≤ L
  held : ∀ b o, g.get? b = some o → b ∉ frs frames → h.get? b = some o
  slots : ∀ b o, g.get? b = some o → ∃ sl, h.get? b = some { o with slots := sl }
  ff : h.FunFrames base (env :: frames)
  ns : h.Ns L m
  led : News g L h news
  fl : Flown (fun b => g.get? b = none ∧ b ≠ L ∧ ∀ q ∈ news, q.1 ≠ b) h e k

section
variable {prog : Program} {w : World} {K : Frag} {p : Program} {loose : List Str} {D U : Nat} {f : Value} {vs : List Value} {sub : List (Addr × Obj)} {mu : List Addr} {pre : Heap → Prop} {post : Value → List (Addr × Obj) → Prop} {rais : Int → List (Addr × Obj) → Prop}

theorem Ctr.of_room (h : ∀ (frames : List Env) (gd : Option (List Code)) (base : Heap) (mean : ExcName → Option Value) (mg mb : Str → Option Value) (s : Shared) (Q E : Value → Shared → Prop),
    Cx { handled := none, depth := D, frames := some frames, guards := gd, units := U } frames base s.heap K p loose mean mg mb → Own frames base s.heap sub → pre s.heap → Ends s mu post Q → Raises s frames mu rais E →
      wpAny (model prog w) { handled := none, depth := D, frames := some frames, guards := gd, units := U } (call f vs) Q E s) : Ctr prog w K p loose D U f vs sub mu pre post rais :=
  fun A frames base mean mg mb s Q E C O hd hu hp he hr => wpAny_room (h frames A.guards base mean mg mb s Q E ⟨rfl, rfl, C.st, C.ff, C.ok⟩ O hp he hr) C.hd C.fr rfl hd hu

theorem cx_of {A₀ A : Around} {base g h : Heap} {frames : List Env} {L : Addr} {m : Str → Option Value} {env : Env} {mean : ExcName → Option Value} {mg mb : Str → Option Value} (B : Below A₀ base frames g) (F : Fr g L h m) (O : BaseOk K p loose mean mg mb base)
    (hA : A.handled = none) (hAf : A.frames = some (env :: frames)) (hf : env.frame = some L) (hk : env.scope.kind = .function) : Cx A (env :: frames) base h K p loose mean mg mb :=
  have K' := pushX B F hf hk
  ⟨hA, hAf, K'.stays, K'.frames, O⟩
theorem off_frames {A₀ : Around} {base g h : Heap} {frames : List Env} {L : Addr} {env : Env} {news : List (Addr × Obj)} (B : Below A₀ base frames g) (N : News g L h news) (hf : env.frame = some L)
    {q : Addr × Obj} (hq : q ∈ news) : q.1 ∉ frs (env :: frames) := fun hm => by
  unfold frs at hm
  rw [List.filterMap_cons, hf] at hm
  rcases mK hm with hm | hm
  · exact (N q hq).2.1 hm
  · obtain ⟨_, o, ho, _⟩ := frame_in B.frames _ hm
    rw [(N q hq).2.2] at ho; exact none_no ho
theorem own_of {A₀ : Around} {base g h : Heap} {frames : List Env} {L : Addr} {env : Env} {news : List (Addr × Obj)} (B : Below A₀ base frames g) (N : News g L h news) (hf : env.frame = some L)
    (hs : ∀ q ∈ sub, q ∈ news) : Own (env :: frames) base h sub := fun q hq => by
  have n := N q (hs q hq)
  refine ⟨n.1, ?_, fun e he hfe => off_frames B N hf (hs q hq) (List.mem_filterMap.mpr ⟨e, he, hfe⟩)⟩
  cases hb : base.get? q.1 with
  | none => rfl
  | some o => have := B.stays _ _ hb; rw [n.2.2] at this; exact none_no this

theorem Ends.close {g : Heap} {L : Addr} {m : Str → Option Value} {news : List (Addr × Obj)} {s s' : Shared} {Q : Value → Shared → Prop} {frames : List Env} {base : Heap} (he : Ends s mu post Q) (O : Own frames base s.heap sub) (kg : KeepBut s.heap g (sub.map (·.1)))
    (F : Fr g L s'.heap m) (N : News g L s'.heap news) (v : Value) (out : List (Addr × Obj)) (hsub : ∀ q ∈ sub, q.1 ∈ mu ∨ q ∈ news) (hout : ∀ q ∈ out, q ∈ news ∧ (q.1 ∈ mu ∨ ∀ x ∈ sub, x.1 ≠ q.1)) (hpost : post v out)
    (e1 : s'.gens = s.gens) (e2 : s'.drawn = s.drawn) (e3 : s'.os = s.os) : Q v s' := by
  obtain ⟨h', g', d', tk, os'⟩ := s'
  dsimp only at e1 e2 e3 F N
  subst e1 e2 e3
  refine he v out h' tk (fun b o e hb => ?_) (fun q hq => ⟨(N q (hout q hq).1).1, ?_⟩) hpost
  · by_cases hm : b ∈ sub.map (·.1)
    · obtain ⟨x, hx, rfl⟩ := mM hm
      have h1 := (O x hx).1
      rw [e] at h1
      cases h1
      rcases hsub x hx with h2 | h2
      · exact absurd h2 hb
      · exact (N x h2).1
    · exact F.keep _ _ (kg b o e hm)
  · rcases (hout q hq).2 with h1 | h1
    · exact .inl h1
    · refine .inr ?_
      cases hq' : s.heap.get? q.1 with
      | none => rfl
      | some o =>
        have hm : q.1 ∉ sub.map (·.1) := fun hm => by
          obtain ⟨x, hx, e⟩ := mM hm
          exact h1 x hx e
        have := kg _ _ hq' hm
        rw [(N q (hout q hq).1).2.2] at this; exact none_no this

theorem RaisedAt.close {M : Model} {A A₀ : Around} {base g : Heap} {env : Env} {frames : List Env} {L : Addr} {m : Str → Option Value} {news : List (Addr × Obj)} {s s' : Shared} {e : Addr} {k : Int} {E E' : Value → Shared → Prop} (R : RaisedAt base g env frames L m news s'.heap e k) (he : Raises s frames mu rais E)
    (O : Own frames base s.heap sub) (kg : KeepBut s.heap g (sub.map (·.1))) (B : Below A₀ base frames g) (hfr : A.frames = some (env :: frames)) (hf : env.frame = some L) (out : List (Addr × Obj)) (hsub : ∀ q ∈ sub, q.1 ∈ mu ∨ q ∈ news) (hadr : ∀ q ∈ sub, q.1 ∈ news.map (·.1))
    (hout : ∀ q ∈ out, q ∈ news ∧ (q.1 ∈ mu ∨ ∀ x ∈ sub, x.1 ≠ q.1)) (hrais : rais k out) (e1 : s'.gens = s.gens) (e2 : s'.drawn = s.drawn) (e3 : s'.os = s.os) :
    wpAny M A (leaving env (.ref e)) (fun _ s'' => E (.ref e) s'') E' s' := by
  obtain ⟨h₁, g', d', tk, os'⟩ := s'
  dsimp only at e1 e2 e3 R
  subst e1 e2 e3
  obtain ⟨dx, T, q1, t1, v1, q2, t2, tk', x1, x2, x3, x4, x5, x6⟩ := R.fl
  -- an address of the old heap stands now
  have there : ∀ b o, s.heap.get? b = some o → ∃ o', h₁.get? b = some o' := fun b o e => by
    by_cases hm : b ∈ sub.map (·.1)
    · obtain ⟨x, hx, rfl⟩ := mM hm
      obtain ⟨y, hy, e'⟩ := mM (hadr x hx)
      exact ⟨y.2, e' ▸ (R.led y hy).1⟩
    · obtain ⟨sl, hs⟩ := R.slots _ _ (kg b o e hm)
      exact ⟨_, hs⟩
  have old : ∀ b, g.get? b = none → (∀ q ∈ news, q.1 ≠ b) → s.heap.get? b = none := fun b hb hn => by
    cases hq : s.heap.get? b with
    | none => rfl
    | some o =>
      by_cases hm : b ∈ sub.map (·.1)
      · obtain ⟨x, hx, rfl⟩ := mM hm
        obtain ⟨y, hy, e'⟩ := mM (hadr x hx)
        exact absurd e' (hn y hy)
      · rw [kg b o hq hm] at hb; exact some_no hb
  have offf : ∀ q ∈ news, q.1 ∉ frs (env :: frames) := fun q hq => off_frames B R.led hf hq
  have lt : ∀ b o, g.get? b = some o → b ≠ L := fun b o e q => Nat.lt_irrefl _ (Nat.lt_of_lt_of_le (q ▸ Heap.lt_size e) R.above)
  refine exc_leave (s := ⟨h₁, s.gens, s.drawn, tk, s.os⟩) hfr R.ff hf x1 fun h₂ T' hn y1 kp => ?_
  dsimp only at hn kp
  have newsOff : ∀ q ∈ news, q.1 ∉ e :: T.toList := fun q hq => notin_T (x4.2.2 q hq) fun t ht h => (x3 t ht).2.2.2 q hq h
  have gOff : ∀ b o, g.get? b = some o → b ∉ e :: T.toList := fun b o eb => notin_T (fun h => by rw [h, x4.1] at eb; cases eb) fun t ht h => by rw [h, (x3 t ht).2.1] at eb; exact none_no eb
  have keptN : ∀ q ∈ news, h₂.get? q.1 = some q.2 := fun q hq => kp.1 _ _ (R.led q hq).1 (newsOff q hq) (offf q hq)
  have inS : ∀ b o, s.heap.get? b = some o → b ∉ mu → b ∈ sub.map (·.1) → h₂.get? b = some o := fun b o eb nb hm => by
    obtain ⟨x, hx, rfl⟩ := mM hm
    rw [Option.some.inj (eb.symm.trans (O x hx).1)]
    exact keptN x ((hsub x hx).resolve_left nb)
  have fresh : ∀ b, g.get? b = none → (∀ q ∈ news, q.1 ≠ b) → s.heap.get? b = none ∧ ∀ q ∈ out, q.1 ≠ b := fun b hb hq => ⟨old b hb hq, fun q ho => hq q (hout q ho).1⟩
  have freshT : s.heap.get? T' = none ∧ ∀ q ∈ out, q.1 ≠ T' := by
    refine ⟨?_, fun q ho e => ?_⟩
    · cases hq : s.heap.get? T' with
      | none => rfl
      | some o => obtain ⟨o', ho'⟩ := there _ _ hq; rw [hn] at ho'; cases ho'
    · have := (R.led q (hout q ho).1).1
      rw [e, hn] at this; exact none_no this
  refine he e k out h₂ tk ⟨fun b o eb nb fb => ?_, fun b o eb nb => ?_⟩ (fun q hq => ⟨keptN q (hout q hq).1, ?_⟩) ⟨dx, some T', q1, t1, v1, q2, t2, tk', y1, x2, fun t et => ?_, fresh _ x4.1 x4.2.2, fresh _ x5.1 x5.2.2, ?_⟩ hrais
  · by_cases hm : b ∈ sub.map (·.1)
    · exact inS b o eb nb hm
    · have hg := kg b o eb hm
      refine kp.1 b o (R.held b o hg fb) (gOff b o hg) fun q => ?_
      unfold frs at q
      rw [List.filterMap_cons, hf] at q
      rcases mK q with q | q
      · exact lt b o hg q
      · exact fb q
  · by_cases hm : b ∈ sub.map (·.1)
    · exact ⟨o.slots, inS b o eb nb hm⟩
    · have hg := kg b o eb hm
      obtain ⟨sl, hs⟩ := R.slots b o hg
      obtain ⟨sl', hs'⟩ := kp.2 b _ hs (gOff b o hg)
      exact ⟨sl', hs'⟩
  · rcases (hout q hq).2 with h1 | h1
    · exact .inl h1
    · refine .inr ?_
      cases hq' : s.heap.get? q.1 with
      | none => rfl
      | some o =>
        have hm : q.1 ∉ sub.map (·.1) := fun hm => by
          obtain ⟨x, hx, e⟩ := mM hm
          exact h1 x hx e
        have := kg _ _ hq' hm
        rw [(R.led q (hout q hq).1).2.2] at this; exact none_no this
  · obtain rfl := Option.some.inj et
    refine ⟨fun q => ?_, freshT⟩
    rw [q, x6] at hn; exact some_no hn
  · refine kp.1 _ _ x6 (fun hm => ?_) fun hm => ?_
    · rcases mK hm with hm | hm
      · exact x2 hm
      · cases T with
        | none => nomatch hm
        | some t => exact (x3 t rfl).1 (show dx = t by simpa using hm).symm
    · unfold frs at hm
      rw [List.filterMap_cons, hf] at hm
      rcases mK hm with hm | hm
      · exact x5.2.1 hm
      · obtain ⟨_, o, ho, _⟩ := frame_in B.frames _ hm
        rw [x5.1] at ho; exact none_no ho
end
end
section
structure GR where
  K : Frag
  p : Program
  loose : List Str
  w : World
noncomputable abbrev PG : Program := PySem.Challenge.rw_rh0124_01.row.prog
abbrev CT (G : GR) (D U : Nat) (f : Addr) (vs : List Value) (sub : List (Addr × Obj)) (mu : List Addr) (post : Value → List (Addr × Obj) → Prop) (rais : Int → List (Addr × Obj) → Prop) : Prop :=
  Ctr PG G.w G.K G.p G.loose D U (.ref f) vs sub mu (fun _ => True) post rais
noncomputable abbrev memD (q : Nat → Int) (t : Nat → Tok) (lc : Addr) (ch : Value) : Obj := dictOf [⟨q 0, .str (Str.ofString "numeric") (t 0), .ref lc⟩, ⟨q 1, .str (Str.ofString "characters") (t 1), ch⟩] 2
noncomputable abbrev limD (q : Nat → Int) (t : Nat → Tok) (u : Nat → Value) (y : Int) (ty : Tok) : Obj :=
  dictOf [⟨q 0, .str (Str.ofString "width") (t 0), .int 32 (t 10)⟩, ⟨q 1, .str (Str.ofString "real_digits") (t 1), u 1⟩, ⟨q 2, .str (Str.ofString "double_digits") (t 2), u 2⟩, ⟨q 3, .str (Str.ofString "top_exponent") (t 3), u 3⟩,
    ⟨q 4, .str (Str.ofString "steps") (t 4), .int y ty⟩, ⟨q 5, .str (Str.ofString "continuations") (t 5), u 5⟩, ⟨q 6, .str (Str.ofString "columns") (t 6), u 6⟩, ⟨q 7, .str (Str.ofString "depth") (t 7), u 7⟩] 8
noncomputable abbrev runD (q : Nat → Int) (t : Nat → Tok) (u : Nat → Value) (mm li ex fr op : Addr) (x : Int) (tx : Tok) : Obj :=
  dictOf [⟨q 0, .str (Str.ofString "memory") (t 0), .ref mm⟩, ⟨q 1, .str (Str.ofString "limits") (t 1), .ref li⟩, ⟨q 2, .str (Str.ofString "units") (t 2), u 2⟩, ⟨q 3, .str (Str.ofString "world") (t 3), u 3⟩,
    ⟨q 4, .str (Str.ofString "expressions") (t 4), .ref ex⟩, ⟨q 5, .str (Str.ofString "statements") (t 5), u 5⟩, ⟨q 6, .str (Str.ofString "frame") (t 6), .ref fr⟩, ⟨q 7, .str (Str.ofString "depth") (t 7), u 7⟩,
    ⟨q 8, .str (Str.ofString "steps") (t 8), .int x tx⟩, ⟨q 9, .str (Str.ofString "places") (t 9), u 9⟩, ⟨q 10, .str (Str.ofString "flows") (t 10), u 10⟩, ⟨q 11, .str (Str.ofString "clears") (t 11), u 11⟩,
    ⟨q 12, .str (Str.ofString "active") (t 12), u 12⟩, ⟨q 13, .str (Str.ofString "loops") (t 13), u 13⟩, ⟨q 14, .str (Str.ofString "operations") (t 14), .ref op⟩, ⟨q 15, .str (Str.ofString "library") (t 15), u 15⟩] 16
noncomputable abbrev excOf (C d t : Addr) : Obj := ⟨.ref C, some d, .fields #[.ref t, .none, .none, .none, .bool false, .none], #[]⟩
inductive C108 (K : Frag) : Prop
  | mk (nm q : Str) (N : Addr) (bs : List Value) (sn : List Str) (sub : List Value) (ab : Bool) (col : Option Bool) (dd : Option Addr) (k0 k1 k2 k3 k5 : Option Value) (h : K.lookup 108 = some (excClassObj nm q 108 N bs (.ref 38 :: [.type "Exception", .type "BaseException", .type "object"]) true sn sub ab col dd k0 k1 k2 k3 k5 "Exception.__new__"))
theorem RaisableT.of {K : Frag} (H : C108 K) {g : Heap} {L a d t : Addr} {m : Str → Option Value} {news : List (Addr × Obj)} {E : Value → Shared → Prop} {s : Shared} (F : Fr g L s.heap m) (X : K.In g) (N : News g L s.heap news) (hm : (a, excOf 108 d t) ∈ news) (h : E (.ref a) s) : RaisableT 108 E (.ref a) s := by
  obtain ⟨nm, q, N9, bs, sn, sub, ab, col, dd, k0, k1, k2, k3, k5, e⟩ := H
  exact ⟨a, d, t, _, _, _, _, _, _, _, _, _, _, _, _, _, _, _, _, _, rfl, by decide +kernel, F.keep _ _ (X _ _ e), (N _ hm).1, h⟩
end
section
section
variable {prog : Program} {w : World} {A A₀ : Around} {base g : Heap} {env : Env} {frames : List Env} {L : Addr} {m : Str → Option Value} {news : List (Addr × Obj)} {s : Shared} {e : Addr} {k : Int} {E : Value → Shared → Prop}
theorem frs_mem {b : Addr} (hf : env.frame = some L) (hm : b ∈ (env :: frames).filterMap (·.frame)) : b = L ∨ b ∈ frs frames := by
  obtain ⟨env', he, hf'⟩ := List.mem_filterMap.mp hm
  rcases mK he with rfl | he
  · rw [hf] at hf'; exact .inl (Option.some.inj hf').symm
  · exact .inr (List.mem_filterMap.mpr ⟨env', he, hf'⟩)
theorem caught_as {n : Str} {t : Expr} {b₀ : Stmt} {suite : List Stmt} {pos : Pos} {rest : List ExceptHandler} {Q : Flow → Shared → Prop}
    (K : Below A₀ base frames g) (hA : A.frames = some (env :: frames)) (hf : env.frame = some L) (R : RaisedAt base g env frames L m news s.heap e k) {K₀ : Frag} (hX : K₀.In base) (H108 : C108 K₀)
    (hname : ∀ g' (s' : Shared) (Q' : Value → Shared → Prop) (E' : Value → Shared → Prop), KtsTurn (frs frames) g g' → Below A₀ base frames g' → Fr g' L s'.heap m → Q' (.ref 108) s' → wpAny (model prog w) (A.mark (some (.ref e))) (eval t env) Q' E' s')
    (hk : ∀ h' g' oe dx q1 t1 v1 q2 t2 tk, KtsTurn (frs frames) g g' → Below A₀ base frames g' → Fr g' L h' m → oe.cls = .ref 108 → oe.dict = some dx → (∃ vs, oe.data = .fields vs) → (∃ vs, oe.data = .fields vs ∧ vs[2]? = some .none) → News g' L h' ((e, oe) :: (dx, dictOf [⟨q1, .str (Str.ofString "text") t1, v1⟩, ⟨q2, .str (Str.ofString "steps") t2, .int k tk⟩] 2) :: news) → dx ≠ e → (∀ q ∈ news, q.1 ≠ e ∧ q.1 ≠ dx) →
      wpAny (model prog w) (A.mark (some (.ref e))) (storeName env n (.ref e)) (fun _ s₂ =>
        wpAny (model prog w) (A.mark (some (.ref e))) (execs (b₀ :: suite) env)
          (fun f s₃ => wpAny (model prog w) A (do bindName env n .none; unbindBehindTheSuite env n pos) (fun _ s₄ => Q f s₄) E s₃)
          (AsSuiteRaised (model prog w) (A.mark (some (.ref e))) env n pos (notedBy (model prog w) (A.mark (some (.ref e))) env (cameBackBy (model prog w) A env E))) s₂)
        (notedBy (model prog w) (A.mark (some (.ref e))) env (cameBackBy (model prog w) A env E)) { s with heap := h' }) :
    wpAny (model prog w) A (noteFrame (.ref e) env) (fun _ s₂ => wpAny (model prog w) A (setFlight (.ref e) none) (fun _ s₃ => wpAny (model prog w) A (handleBy (.ref e) env (.ExceptHandler (some t) (some n) (b₀ :: suite) pos :: rest)) Q E s₃) E s₂) E s := by
  obtain ⟨dx, T, q1, t1, v1, q2, t2, tk, x, hne, hT, ⟨hPe1, hPe2, hPe3⟩, ⟨hPd1, hPd2, hPd3⟩, hdx⟩ := R.fl
  have gL : g.get? L = none := by
    cases q : g.get? L with
    | none => rfl
    | some o => exact absurd (Nat.lt_of_lt_of_le (Heap.lt_size q) R.above) (Nat.lt_irrefl _)
  have exG : ∀ b o, g.get? b = some o → b ∉ e :: T.toList := fun b o hb => notin_T (fun h => by rw [h, hPe1] at hb; cases hb) fun t ht h => by rw [h, (hT t ht).2.1] at hb; exact none_no hb
  refine exc_note hA R.ff hf x fun h1 T1 hn x1 k1 => ?_
  refine exc_ground (s := { s with heap := h1 }) x1 fun h2 x2 k2 => ?_
  have neT : ∀ b o, s.heap.get? b = some o → b ≠ T1 := fun b o q z => by rw [z, hn] at q; exact none_no q
  -- what one more grounding keeps
  have main : ∀ h3 : Heap, ExcAt h3 e (.ref 108) (some dx) (some T1) .none → (∀ b o, h2.get? b = some o → b ≠ T1 → h3.get? b = some o) →
      ∀ C : Prop, (∀ g' oe, KtsTurn (frs frames) g g' → Below A₀ base frames g' → Fr g' L h3 m → oe.cls = .ref 108 → oe.dict = some dx → (∃ vs, oe.data = .fields vs ∧ vs[2]? = some .none) → News g' L h3 ((e, oe) :: (dx, dictOf [⟨q1, .str (Str.ofString "text") t1, v1⟩, ⟨q2, .str (Str.ofString "steps") t2, .int k tk⟩] 2) :: news) → C) → C := by
    intro h3 x3 k3 C hC
    have keep : ∀ b o, s.heap.get? b = some o → b ∉ e :: T.toList → b ∉ (env :: frames).filterMap (·.frame) → h3.get? b = some o := fun b o hb h1' h2' => k3 b o (k2 b o (k1.1 b o hb h1' h2') (neT b o hb)) (neT b o hb)
    have slot : ∀ b o, s.heap.get? b = some o → b ∉ e :: T.toList → ∃ sl, h3.get? b = some { o with slots := sl } := fun b o hb h1' => by
      obtain ⟨sl, hs⟩ := k1.2 b o hb h1'
      exact ⟨sl, k3 b _ (k2 b _ hs (neT b o hb)) (neT b o hb)⟩
    obtain ⟨T9, S9⟩ := kts_turn_at (h := h3) (fs := frs frames) (g := g) (fun b hb => by
        obtain ⟨_, o, ho, _⟩ := K.frames.mem hb
        exact ⟨o, ho⟩)
      (fun b o hb nm => keep b o (R.held b o hb nm) (exG b o hb) fun hm => (frs_mem hf hm).elim (fun h => by rw [h, gL] at hb; cases hb) nm)
      (fun b o hb hm => by
        obtain ⟨sl, hs⟩ := R.slots b o hb
        obtain ⟨sl', hs'⟩ := slot b _ hs (exG b o hb)
        exact ⟨sl', hs'⟩)
    have frm : ∀ b, b ∈ (env :: frames).filterMap (·.frame) → b = L ∨ ∃ o, g.get? b = some o := fun b hm => (frs_mem hf hm).imp id fun h => by
      obtain ⟨_, o, ho, _⟩ := K.frames.mem h
      exact ⟨o, ho⟩
    obtain ⟨oe, vs, he3, hc3, hdx3, hd3, _, h23, _⟩ := x3
    refine hC _ oe T9 ⟨K.stack, fun b o hb => T9.other b o (K.stays b o hb) (fun hm => by rw [(K.frames.mem hm).1] at hb; cases hb), K.frames.of_keeps fun b o hb _ => ?_⟩ ⟨?_, S9, by rw [T9.size]; exact R.above⟩ hc3 hdx3 ⟨vs, hd3, h23⟩ ?_
    · obtain ⟨sl, hs⟩ := T9.up hb
      exact ⟨_, hs, rfl⟩
    · obtain ⟨oL, es, ep, hL, hLd, hLk, hLf⟩ := R.ns
      obtain ⟨sl, hs⟩ := slot L _ hL (notin_T (Ne.symm hPe2) fun t ht h => (hT t ht).2.2.1 h.symm)
      exact ⟨_, es, ep, hs, hLd, hLk, hLf⟩
    · have fresh : ∀ b, b ≠ L → g.get? b = none → b ∉ (env :: frames).filterMap (·.frame) := fun b h1' h2' hm => (frm b hm).elim h1' fun ⟨o, ho⟩ => by rw [h2'] at ho; exact none_no ho
      exact List.forall_mem_cons.mpr ⟨⟨he3, hPe2, T9.none_ _ hPe1⟩, List.forall_mem_cons.mpr ⟨⟨keep _ _ hdx (notin_T hne fun t ht h => (hT t ht).1 h.symm) (fresh _ hPd2 hPd1), hPd2, T9.none_ _ hPd1⟩, fun q hq => ⟨keep _ _ (R.led q hq).1 (notin_T (hPe3 q hq) fun t ht h => (hT t ht).2.2.2 q hq h) (fresh _ (R.led q hq).2.1 (R.led q hq).2.2), (R.led q hq).2.1, T9.none_ _ (R.led q hq).2.2⟩⟩⟩
  refine main h2 x2 (fun b o q _ => q) _ fun g1 oe1 T1' B1 F1 c1 d1 e0 N1 => ?_
  obtain ⟨vs1, e1⟩ := e0
  refine wpAny_handleBy_cons (codeAny_handlers_test (hname g1 _ _ _ T1' B1 F1 ?_)) (by intro q; cases q)
  obtain ⟨nm, q, N9, bs, sn, sub, ab, col, dd, k0, k1', k2', k3', k5, eC⟩ := H108
  have hC : h2.get? 108 = some _ := F1.keep _ _ (B1.stays _ _ (hX _ _ eC))
  refine wpAny_excMatches_sub_self hC (N1 _ mS).1 c1 (by decide +kernel) (codeAny_handlers_suite_as ?_)
  refine exc_ground (s := { s with heap := h2 }) x2 fun h3 x3 k3 => ?_
  refine main h3 x3 k3 _ fun g2 oe2 T2' B2 F2 c2 d2 hv2 N2 => ?_
  exact hk h3 g2 oe2 dx q1 t1 v1 q2 t2 tk T2' B2 F2 c2 d2 (hv2.elim fun v h => ⟨v, h.1⟩) hv2 N2 hne fun q hq => ⟨hPe3 q hq, hPd3 q hq⟩
end
end
section
structure CompTag (R : List (Addr × Obj) → Nat → Value → Prop) : Prop where
  mono : ∀ led led' i v, (∀ p ∈ led, p ∈ led') → R led i v → R led' i v
def AllAt (R : List (Addr × Obj) → Nat → Value → Prop) (led : List (Addr × Obj)) (xs : List Value) : Prop := ∀ i v, xs[i]? = some v → R led i v
def Grown (R : List (Addr × Obj) → Nat → Value → Prop) (news tl : List (Addr × Obj)) (i : Nat) (y : Value) (news' : List (Addr × Obj)) : Prop := ∃ tl', news' = news ++ tl' ∧ (∀ p ∈ tl, p ∈ tl') ∧ (∀ p ∈ tl', p ∈ tl ∨ NeAll p.1 news) ∧ R tl' i y
section
open PyProof.Rows.LCg
variable {prog : Program} {w : World} {A : Around} {s : Shared} {h₀ : Heap} {L : Addr} {m : Str → Option Value} {env : Env} {elt : Expr} {x : Str} {scope : Scope} {cl : List (Str × Addr)} {S : List (Addr × Obj) → Prop} {P : Nat → Value → Prop}
  {Fin : List Value → List (Addr × Obj) → Prop} {news : List (Addr × Obj)} {n : Nat} {R : List (Addr × Obj) → Nat → Value → Prop}
theorem comp_inv (T : CompTag R)
    (body : ∀ i v I oI C oC D m₂ h tk (E' : Value → Shared → Prop) ys tl, i < n → ys.length = i → AllAt R tl ys → (∀ p ∈ tl, NeAll p.1 news) → P i v → NsObj oC m₂ → m₂ x = some v → Fr h₀ L h m → News h₀ L h ((I, oI) :: (C, oC) :: (D, lst ys) :: (news ++ tl)) → Off3 I C D (news ++ tl) → ((@Ne Nat I C) ∧ (@Ne Nat I D) ∧ (@Ne Nat C D)) →
      wpAny (model prog w) A (eval elt (compEnvC scope cl C env)) (CompEnd h₀ L m { s with heap := h, toks := tk } I oI C oC D (lst ys) S (Grown R news tl i)) E' { s with heap := h, toks := tk })
    (fin : ∀ ys tl, ys.length = n → AllAt R tl ys → (∀ p ∈ tl, NeAll p.1 news) → Fin ys (news ++ tl)) : CompRest prog w A h₀ L m env elt x scope cl s S P Fin n 0 [] news := by
  have key : ∀ (j i : Nat) (ys : List Value) (tl : List (Addr × Obj)), i + j = n → ys.length = i → AllAt R tl ys → (∀ p ∈ tl, NeAll p.1 news) → CompRest prog w A h₀ L m env elt x scope cl s S P Fin j i ys (news ++ tl) := by
    intro j
    induction j with
    | zero => intro i ys tl hn hl ha hq; exact CompRest.zero (fin ys tl (by lia) ha hq)
    | succ j ih =>
      intro i ys tl hn hl ha hq
      refine CompRest.succ fun v I oI C oC D m₂ h tk E' hP hC hx F N off ne => ?_
      refine wpAny_mono (body i v I oI C oC D m₂ h tk E' ys tl (by lia) hl ha hq hP hC hx F N off ne) (fun y s₂ hy => ?_) fun _ _ e => e
      obtain ⟨h', tk', news', e, F', N', off', hS, tl', rfl, sub, hnw, hR⟩ := hy
      refine ⟨h', tk', _, e, F', N', off', hS, ih (i + 1) (ys ++ [y]) tl' (by lia) (by rw [List.length_append, List.length_singleton, hl]) (fun k v' hk => ?_) fun p hp => (hnw p hp).elim (hq p) id⟩
      rcases Nat.lt_or_ge k ys.length with h1 | h1
      · rw [List.getElem?_append_left h1] at hk
        exact T.mono _ _ _ _ sub (ha k v' hk)
      · rw [List.getElem?_append_right h1] at hk
        rcases Nat.eq_zero_or_pos (k - ys.length) with h2 | h2
        · rw [h2] at hk
          obtain rfl : y = v' := by simpa using hk
          rw [show k = i by lia]
          exact hR
        · rw [List.getElem?_eq_none (by simp; lia)] at hk; exact none_no hk
  have := key n 0 [] [] (by lia) rfl (fun i v h => by simp at h) (fun _ h => nomatch h)
  simpa using this
end
def IsPlace (led : List (Addr × Obj)) (b : Int) (v : Value) : Prop :=
  ∃ p e t0 t1 t2, v = .ref p ∧ (p, tupO #[.int 0 t0, .int b t1, .int 0 t2, .ref e]) ∈ led ∧ (e, tupO #[]) ∈ led
def PlaceR (led : List (Addr × Obj)) (i : Nat) (v : Value) : Prop := IsPlace led (3 + i) v
theorem place_tag : CompTag PlaceR := ⟨fun _ _ _ _ h ⟨p, e, t0, t1, t2, x1, x2, x3⟩ => ⟨p, e, t0, t1, t2, x1, h _ x2, h _ x3⟩⟩
section
open PyProof.Rows.LCg
variable {h₀ h' : Heap} {L I C D : Addr} {m : Str → Option Value} {s₁ : Shared} {oI oC oD : Obj} {S : List (Addr × Obj) → Prop} {news tl : List (Addr × Obj)} {R : List (Addr × Obj) → Nat → Value → Prop} {i : Nat} {y : Value} {tk : Nat}
theorem off3_app : ∀ {a b : List (Addr × Obj)}, Off3 I C D a → Off3 I C D b → Off3 I C D (a ++ b)
  | [], _, _, y => y
  | _ :: _, _, x, y => ⟨x.1, off3_app x.2 y⟩
theorem off3_left : ∀ {a b : List (Addr × Obj)}, Off3 I C D (a ++ b) → Off3 I C D a
  | [], _, _ => trivial
  | _ :: _, _, x => ⟨x.1, off3_left x.2⟩
theorem off3_right : ∀ {a b : List (Addr × Obj)}, Off3 I C D (a ++ b) → Off3 I C D b
  | [], _, x => x
  | _ :: _, _, x => off3_right x.2
theorem comp_end (front : List (Addr × Obj)) (F : Fr h₀ L h' m) (N : News h₀ L h' (front ++ ((I, oI) :: (C, oC) :: (D, oD) :: (news ++ tl)))) (off : Off3 I C D (news ++ tl)) (offF : Off3 I C D front) (hne : ∀ p ∈ front, NeAll p.1 news) (hS : S (news ++ (front ++ tl))) (hR : R (front ++ tl) i y) :
    CompEnd h₀ L m s₁ I oI C oC D oD S (Grown R news tl i) y { s₁ with heap := h', toks := tk } := by
  refine CompEnd.intro F N (news ++ (front ++ tl)) (fun p hp => ?_) (off3_app (off3_left off) (off3_app offF (off3_right off))) hS ⟨_, rfl, fun p hp => mR _ hp, fun p hp => (mA hp).elim (fun h => .inr (hne p h)) .inl, hR⟩
  simp only [List.mem_append, List.mem_cons] at hp ⊢
  rcases hp with h | h | h | h | h | h
  · exact .inr (.inl h)
  · exact .inr (.inr (.inl h))
  · exact .inr (.inr (.inr (.inl h)))
  · exact .inr (.inr (.inr (.inr (.inl h))))
  · exact .inl h
  · exact .inr (.inr (.inr (.inr (.inr h))))
end
theorem off1_ne {D : Addr} : ∀ {l : List (Addr × Obj)}, LCg.Off1 D l → NeAll D l
  | [], _ => trivial
  | _ :: _, x => ⟨x.1, off1_ne x.2⟩
end
section
inductive El
  | pl (k : Nat)
  | con (a : Addr)
inductive Itm
  | arr
  | con
  | ido (n : Nat)
inductive Act
  | emit (e : El)
  | step (k : Nat)
noncomputable def pre1 (e : El) : Except Int (List El × Int) → Except Int (List El × Int)
  | .ok p => .ok (e :: p.1, p.2)
  | .error k => .error k
noncomputable def pres (fs : List El) : Except Int (List El × Int) → Except Int (List El × Int)
  | .ok p => .ok (fs ++ p.1, p.2)
  | .error k => .error k
noncomputable def runA (most : Int) : List Act → Int → Except Int (List El × Int)
  | [], x => .ok ([], x)
  | .emit e :: r, x => pre1 e (runA most r x)
  | .step k :: r, x => if most < x + k then .error (x + k) else runA most r (x + k)
noncomputable def emits (es : List Nat) : List Act := es.map fun k => .emit (.pl k)
noncomputable def arrActs (many : Nat) : List Act := .step many :: emits (List.range' 0 many)
noncomputable def rnds (many : Nat) : Nat → List Act
  | 0 => []
  | n + 1 => arrActs many ++ .step 1 :: rnds many n
noncomputable def itemActs (many : Nat) : Itm × Addr → List Act
  | (.arr, _) => arrActs many
  | (.con, a) => [.emit (.con a)]
  | (.ido n, _) => rnds many n
noncomputable def itemsActs (many : Nat) : List (Itm × Addr) → List Act
  | [] => []
  | i :: r => itemActs many i ++ itemsActs many r
theorem pres_pres (a b : List El) (r : Except Int (List El × Int)) : pres a (pres b r) = pres (a ++ b) r := by
  cases r <;> simp [pres, List.append_assoc]
theorem pre1_pres (e : El) (r : Except Int (List El × Int)) : pre1 e r = pres [e] r := by
  cases r <;> rfl
theorem pres_nil (r : Except Int (List El × Int)) : pres [] r = r := by
  cases r <;> rfl
theorem runA_emits (most : Int) (es : List Nat) (r : List Act) (x : Int) : runA most (emits es ++ r) x = pres (es.map .pl) (runA most r x) := by
  induction es with
  | nil => exact (pres_nil _).symm
  | cons k es ih =>
    show pre1 (.pl k) (runA most (emits es ++ r) x) = _
    rw [ih, pre1_pres, pres_pres]; rfl
theorem runA_step_ok {most x : Int} {k : Nat} {r : List Act} (h : x + k ≤ most) : runA most (.step k :: r) x = runA most r (x + k) := by
  show (if most < x + k then _ else _) = _
  rw [if_neg (by lia)]
theorem runA_step_no {most x : Int} {k : Nat} {r : List Act} (h : most < x + k) : runA most (.step k :: r) x = .error (x + k) := by
  show (if most < x + k then _ else _) = _
  rw [if_pos h]

inductive Lv
  | non
  | top (its : List (Itm × Addr))
  | inner (its : List (Itm × Addr)) (b : Bool) (c : Nat)
noncomputable def lvActs (many : Nat) : Lv → List Act
  | .non => []
  | .top its => itemsActs many its
  | .inner its _ 0 => itemsActs many its
  | .inner its false (c + 1) => rnds many (c + 1) ++ itemsActs many its
  | .inner its true (c + 1) => .step 1 :: (rnds many c ++ itemsActs many its)
noncomputable def stActs (many : Nat) (es : List Nat) (lv : Lv) : List Act := emits es ++ lvActs many lv
noncomputable def cost : List (Itm × Addr) → Nat
  | [] => 0
  | (.ido n, _) :: r => 2 + 2 * n + cost r
  | _ :: r => 1 + cost r
noncomputable def lvM : Lv → Nat
  | .non => 0
  | .top its => 1 + cost its
  | .inner its b c => 2 + cost its + 2 * c - (if b then 1 else 0)

noncomputable def ElsAt (T : List (Addr × Obj)) : List Nat → List Value → Prop
  | [], xs => xs = []
  | k :: es, xs => ∃ p y, xs = p ++ [y] ∧ IsPlace T (3 + k) y ∧ ElsAt T es p
theorem IsPlace.mono {T T' : List (Addr × Obj)} {b : Int} {v : Value} (h : ∀ p ∈ T, p ∈ T') (x : IsPlace T b v) : IsPlace T' b v := by
  obtain ⟨p, e, t0, t1, t2, x1, x2, x3⟩ := x
  exact ⟨p, e, t0, t1, t2, x1, h _ x2, h _ x3⟩
theorem ElsAt.mono {T T' : List (Addr × Obj)} (h : ∀ p ∈ T, p ∈ T') : ∀ {es : List Nat} {xs : List Value}, ElsAt T es xs → ElsAt T' es xs
  | [], _, x => x
  | _ :: _, _, ⟨p, y, a, b, c⟩ => ⟨p, y, a, b.mono h, ElsAt.mono h c⟩
theorem ElsAt.len {T : List (Addr × Obj)} : ∀ {es : List Nat} {xs : List Value}, ElsAt T es xs → xs.length = es.length
  | [], _, x => by rw [x]; rfl
  | _ :: _, _, ⟨p, y, a, _, c⟩ => by rw [a, List.length_append, c.len]; rfl
theorem ElsAt.of {T : List (Addr × Obj)} : ∀ {xs : List Value} {j : Nat}, (∀ (i : Nat) v, xs[i]? = some v → IsPlace T (3 + (((j + i : Nat)) : Int)) v) → ElsAt T (List.range' j xs.length) xs.reverse
  | [], _, _ => rfl
  | v :: r, j, h => by
    rw [List.length_cons, List.range'_succ]
    refine ⟨r.reverse, v, by simp, by simpa using h 0 v rfl, ElsAt.of (j := j + 1) fun i v' hv => ?_⟩
    have := h (i + 1) v' (by simpa using hv)
    rwa [show j + (i + 1) = j + 1 + i by lia] at this
noncomputable def ElemIs (T : List (Addr × Obj)) : El → Value → Prop
  | .pl k, v => ∃ p y t, v = .ref p ∧ (p, tupO #[.int 0 t, y, .none]) ∈ T ∧ IsPlace T (3 + k) y
  | .con a, v => ∃ p t, v = .ref p ∧ (p, tupO #[.int 0 t, .none, .ref a]) ∈ T
theorem ElemIs.mono {T T' : List (Addr × Obj)} (h : ∀ p ∈ T, p ∈ T') : ∀ {e : El} {v : Value}, ElemIs T e v → ElemIs T' e v
  | .pl _, _, ⟨p, y, t, a, b, c⟩ => ⟨p, y, t, a, h _ b, c.mono h⟩
  | .con _, _, ⟨p, t, a, b⟩ => ⟨p, t, a, h _ b⟩
noncomputable def FoundAt (T : List (Addr × Obj)) : List El → List Value → Prop
  | [], xs => xs = []
  | e :: fs, xs => ∃ y r, xs = y :: r ∧ ElemIs T e y ∧ FoundAt T fs r
theorem FoundAt.mono {T T' : List (Addr × Obj)} (h : ∀ p ∈ T, p ∈ T') : ∀ {es : List El} {xs : List Value}, FoundAt T es xs → FoundAt T' es xs
  | [], _, x => x
  | _ :: _, _, ⟨y, r, a, b, c⟩ => ⟨y, r, a, b.mono h, FoundAt.mono h c⟩
theorem FoundAt.app {T : List (Addr × Obj)} : ∀ {fs gs : List El} {xs ys : List Value}, FoundAt T fs xs → FoundAt T gs ys → FoundAt T (fs ++ gs) (xs ++ ys)
  | [], _, _, _, x, y => by rw [show _ = [] from x]; exact y
  | _ :: _, _, _, _, ⟨y, r, a, b, c⟩, z => ⟨y, r ++ _, by rw [a]; rfl, b, c.app z⟩
theorem FoundAt.len {T : List (Addr × Obj)} : ∀ {fs : List El} {xs : List Value}, FoundAt T fs xs → xs.length = fs.length
  | [], _, x => by rw [x]; rfl
  | _ :: _, _, ⟨y, r, a, _, c⟩ => by rw [a, List.length_cons, c.len]; rfl
inductive IdoIs (T : List (Addr × Obj)) (a : Addr) (n : Nat) : Prop
  | mk (h : n ≤ 3) (jl : Addr) (nj : Nat) (aj tg f1 f2 f3 : Addr) (t : Nat → Tok) (y1 : (a, tupO #[.str (Str.ofString "ido") (t 0), .ref jl, .ref tg, .ref f1, .ref f2, .ref f3]) ∈ T) (y2 : (jl, listOf [Value.ref aj].toArray nj) ∈ T)
      (y3 : (aj, tupO #[.str (Str.ofString "array") (t 1), .int 0 (t 2), .str (Str.ofString "A") (t 3)]) ∈ T) (y4 : (tg, tupO #[.str (Str.ofString "var") (t 4), .int 0 (t 5), .str (Str.ofString "I") (t 6)]) ∈ T)
      (y5 : (f1, tupO #[.str (Str.ofString "const") (t 7), .int 0 (t 8), .int 1 (t 9)]) ∈ T) (y6 : (f2, tupO #[.str (Str.ofString "const") (t 10), .int 0 (t 11), .int n (t 12)]) ∈ T) (y7 : (f3, tupO #[.str (Str.ofString "const") (t 13), .int 0 (t 14), .int 1 (t 15)]) ∈ T) : IdoIs T a n
theorem IdoIs.mono {T T' : List (Addr × Obj)} (h : ∀ p ∈ T, p ∈ T') {a : Addr} {n : Nat} (x : IdoIs T a n) : IdoIs T' a n := by
  induction x with
  | mk l jl nj aj tg f1 f2 f3 t x1 x2 x3 x4 x5 x6 x7 => exact .mk l jl nj aj tg f1 f2 f3 t (h _ x1) (h _ x2) (h _ x3) (h _ x4) (h _ x5) (h _ x6) (h _ x7)
def ItemIs (T : List (Addr × Obj)) (it : Itm × Addr) (v : Value) : Prop :=
  v = .ref it.2 ∧ match it.1 with
    | .arr => ∃ t0 t1 t2, (it.2, tupO #[.str (Str.ofString "array") t0, .int 0 t1, .str (Str.ofString "A") t2]) ∈ T
    | .con => ∃ t0 t1 t2, (it.2, tupO #[.str (Str.ofString "const") t0, .int 0 t1, .int 7 t2]) ∈ T
    | .ido n => IdoIs T it.2 n
theorem ItemIs.mono {T T' : List (Addr × Obj)} (h : ∀ p ∈ T, p ∈ T') : ∀ {it : Itm × Addr} {v : Value}, ItemIs T it v → ItemIs T' it v
  | (.arr, _), _, ⟨a, t0, t1, t2, b⟩ => ⟨a, t0, t1, t2, h _ b⟩
  | (.con, _), _, ⟨a, t0, t1, t2, b⟩ => ⟨a, t0, t1, t2, h _ b⟩
  | (.ido _, _), _, ⟨a, l⟩ => ⟨a, l.mono h⟩
def ItemsAt (T : List (Addr × Obj)) (its : List (Itm × Addr)) (xs : List Value) : Prop := xs.length = its.length ∧ ∀ (i : Nat) it v, its[i]? = some it → xs[i]? = some v → ItemIs T it v
theorem News.sub {g : Heap} {L : Addr} {h : Heap} {a b : List (Addr × Obj)} (N : News g L h a) (s : ∀ p ∈ b, p ∈ a) : News g L h b := fun p hp => N p (s p hp)
theorem ItemsAt.mono {T T' : List (Addr × Obj)} {its : List (Itm × Addr)} {vs : List Value} (h : ∀ p ∈ T, p ∈ T') (x : ItemsAt T its vs) : ItemsAt T' its vs := ⟨x.1, fun i it v h1 h2 => (x.2 i it v h1 h2).mono h⟩
end
section
section
open PySem.SeqAt
variable {A : Around} {s : Shared} {g : Heap} {L : Addr} {T : List (Addr × Obj)}
theorem tup_is {a : Addr} {xs : Array Value} (N : News g L s.heap T) (hm : (a, tupO xs) ∈ T) : s.heap.IsTuple a xs := ⟨_, (N _ hm).1, rfl, _, rfl⟩
theorem list_is {a : Addr} {xs : Array Value} {n : Nat} (N : News g L s.heap T) (hm : (a, listOf xs n) ∈ T) : s.heap.IsList a xs := ⟨_, (N _ hm).1, rfl, _, rfl⟩
theorem eq_refs {a b : Addr} (h : RcAt A s (.ref a) (.ref b) true) : EqAt A s (.ref a) (.ref b) true := by
  by_cases e : a = b
  · subst e; exact .same _
  · exact .of_refs e h
theorem rc_tuples {a b : Addr} {xs ys : Array Value} (ha : s.heap.IsTuple a xs) (hb : s.heap.IsTuple b ys) (hu : A.units < cLine) (hz : xs.size = ys.size)
    (he : ∀ j (h1 : j < xs.size) (h2 : j < ys.size), EqAt A.in1 s xs[j] ys[j] true) : RcAt A s (.ref a) (.ref b) true := by
  have e1 : ((List.range (min xs.size ys.size)).all (fun _ => true) && xs.size == ys.size) = true := by simp [hz]
  exact e1 ▸ RcAt.tuples (e := fun _ => true) ha hb hu he
theorem rc_lists {a b : Addr} {xs ys : Array Value} (ha : s.heap.IsList a xs) (hb : s.heap.IsList b ys) (hu : A.units < cLine) (hz : xs.size = ys.size)
    (he : ∀ j (h1 : j < xs.size) (h2 : j < ys.size), EqAt A.in1 s xs[j] ys[j] true) : RcAt A s (.ref a) (.ref b) true := by
  have e1 : (List.range xs.size).all (fun _ => true) = true := by simp
  exact e1 ▸ RcAt.lists (e := fun _ => true) ha hb hz hu he
theorem ne_tuples {a b : Addr} {xs ys : Array Value} (ha : s.heap.IsTuple a xs) (hb : s.heap.IsTuple b ys) (hu : A.units < cLine) (hz : xs.size = ys.size)
    (he : ∀ j (h1 : j < xs.size) (h2 : j < ys.size), EqAt A.in1 s xs[j] ys[j] true) : RcNeAt A s (.ref a) (.ref b) false := by
  have e1 : (!((List.range (min xs.size ys.size)).all (fun _ => true) && xs.size == ys.size)) = false := by simp [hz]
  exact e1 ▸ RcNeAt.tuples (e := fun _ => true) ha hb hu he
theorem eq_int {x : Int} {t u : Tok} : EqAt A s (.int x t) (.int x u) true := by
  have := EqAt.int_int (A := A) (s := s) x t x u
  rwa [show (x == x) = true from by simp] at this
theorem eq_place {T' : List (Addr × Obj)} {b : Int} {v v' : Value} (N : News g L s.heap T) (N' : News g L s.heap T') (h : IsPlace T b v) (h' : IsPlace T' b v') (hu : A.units + 1 < cLine) : EqAt A s v v' true := by
  obtain ⟨p, e, t0, t1, t2, rfl, h1, h2⟩ := h
  obtain ⟨p', e', t0', t1', t2', rfl, h1', h2'⟩ := h'
  refine eq_refs (rc_tuples (tup_is N h1) (tup_is N' h1') (by lia) rfl fun j a b => ?_)
  have hj : j < 4 := a
  match j with
  | 0 => exact eq_int
  | 1 => exact eq_int
  | 2 => exact eq_int
  | 3 => exact eq_refs (rc_tuples (tup_is N h2) (tup_is N' h2') (by show A.units + 1 < _; lia) rfl fun j a b => absurd a (Nat.not_lt_zero _))
theorem eq_elem {T' : List (Addr × Obj)} {e : El} {v v' : Value} (N : News g L s.heap T) (N' : News g L s.heap T') (h : ElemIs T e v) (h' : ElemIs T' e v') (hu : A.units + 2 < cLine) : EqAt A s v v' true := by
  cases e with
  | pl k =>
    obtain ⟨p, y, t, rfl, h1, h2⟩ := h
    obtain ⟨p', y', t', rfl, h1', h2'⟩ := h'
    refine eq_refs (rc_tuples (tup_is N h1) (tup_is N' h1') (by lia) rfl fun j a b => ?_)
    have hj : j < 3 := a
    match j with
    | 0 => exact eq_int
    | 1 => exact eq_place N N' h2 h2' (by show A.units + 1 + 1 < _; lia)
    | 2 => exact .same _
  | con c =>
    obtain ⟨p, t, rfl, h1⟩ := h
    obtain ⟨p', t', rfl, h1'⟩ := h'
    refine eq_refs (rc_tuples (tup_is N h1) (tup_is N' h1') (by lia) rfl fun j a b => ?_)
    have hj : j < 3 := a
    match j with
    | 0 => exact eq_int
    | 1 => exact .same _
    | 2 => exact .same _
theorem eq_found {T' : List (Addr × Obj)} (N : News g L s.heap T) (N' : News g L s.heap T') (hu : A.units + 2 < cLine) : ∀ {fs : List El} {xs ys : List Value}, FoundAt T fs xs → FoundAt T' fs ys → ∀ (j : Nat) (h1 : j < xs.length) (h2 : j < ys.length), EqAt A s xs[j] ys[j] true
  | [], _, _, h, _, j, a, _ => by rw [show _ = [] from h] at a; exact absurd a (Nat.not_lt_zero _)
  | f :: fs, _, _, ⟨y, r, rfl, h1, h2⟩, ⟨y', r', rfl, h1', h2'⟩, j, a, b => by
    match j with
    | 0 => exact eq_elem N N' h1 h1' hu
    | j + 1 => exact eq_found N N' hu h2 h2' j (by simpa using a) (by simpa using b)
theorem ne_found {T' : List (Addr × Obj)} {a b fd fd' : Addr} {x : Int} {t u : Tok} {fs : List El} {xs ys : List Value} {n n' : Nat} (N : News g L s.heap T) (N' : News g L s.heap T') (hu : A.units + 10 < cLine) (ha : (a, tupO #[.ref fd, .int x t]) ∈ T) (hb : (b, tupO #[.ref fd', .int x u]) ∈ T')
    (h1 : (fd, listOf xs.toArray n) ∈ T) (h2 : (fd', listOf ys.toArray n') ∈ T') (f1 : FoundAt T fs xs) (f2 : FoundAt T' fs ys) : RcNeAt A s (.ref a) (.ref b) false := by
  refine ne_tuples (tup_is N ha) (tup_is N' hb) (by lia) rfl fun j a b => ?_
  have hj : j < 2 := a
  match j with
  | 0 =>
    refine eq_refs (rc_lists (list_is N h1) (list_is N' h2) (by show A.units + 1 < _; lia) (by rw [List.size_toArray, List.size_toArray, f1.len, f2.len]) fun i a b => ?_)
    have := eq_found N N' (A := A.in1.in1) (by show A.units + 1 + 1 + 2 < _; lia) f1 f2 i (by simpa using a) (by simpa using b)
    simpa using this
  | 1 => exact eq_int
theorem ne_none {T' : List (Addr × Obj)} {a b : Addr} {x : Int} {t u : Tok} (N : News g L s.heap T) (N' : News g L s.heap T') (hu : A.units + 10 < cLine) (ha : (a, tupO #[.none, .int x t]) ∈ T) (hb : (b, tupO #[.none, .int x u]) ∈ T') : RcNeAt A s (.ref a) (.ref b) false := by
  refine ne_tuples (tup_is N ha) (tup_is N' hb) (by lia) rfl fun j a b => ?_
  have hj : j < 2 := a
  match j with
  | 0 => exact .same _
  | 1 => exact eq_int
end
end
section
def EndsH (s : Shared) (frames : List Env) (mu : List Addr) (post : Value → List (Addr × Obj) → Prop) (Q : Value → Shared → Prop) : Prop :=
  ∀ v out h' tk, HeldBut s.heap h' mu (frs frames) → (∀ q ∈ out, h'.get? q.1 = some q.2 ∧ (q.1 ∈ mu ∨ s.heap.get? q.1 = none)) → post v out → Q v { s with heap := h', toks := tk }
theorem EndsH.ends {s : Shared} {frames : List Env} {mu : List Addr} {post : Value → List (Addr × Obj) → Prop} {Q : Value → Shared → Prop} (he : EndsH s frames mu post Q) : Ends s mu post Q :=
  fun v out h' tk k o p => he v out h' tk (HeldBut.of_keep _ k) o p
def CtrH (prog : Program) (w : World) (K : Frag) (p : Program) (loose : List Str) (D U : Nat) (f : Value) (vs : List Value) (sub : List (Addr × Obj)) (mu : List Addr) (post : Value → List (Addr × Obj) → Prop) : Prop :=
  ∀ (A : Around) (frames : List Env) (base : Heap) (mean : ExcName → Option Value) (mg mb : Str → Option Value) (s : Shared) (Q E : Value → Shared → Prop),
    Cx A frames base s.heap K p loose mean mg mb → Own frames base s.heap sub → A.depth ≤ D → A.units ≤ U → EndsH s frames mu post Q → wpAny (model prog w) A (call f vs) Q E s
section
variable {prog : Program} {w : World} {K : Frag} {p : Program} {loose : List Str} {D U : Nat} {f : Value} {vs : List Value} {sub : List (Addr × Obj)} {mu : List Addr} {post : Value → List (Addr × Obj) → Prop}
theorem CtrH.of_room (h : ∀ (frames : List Env) (gd : Option (List Code)) (base : Heap) (mean : ExcName → Option Value) (mg mb : Str → Option Value) (s : Shared) (Q E : Value → Shared → Prop),
    Cx { handled := none, depth := D, frames := some frames, guards := gd, units := U } frames base s.heap K p loose mean mg mb → Own frames base s.heap sub → True → Ends s mu post Q → EndsH s frames mu post Q →
      wpAny (model prog w) { handled := none, depth := D, frames := some frames, guards := gd, units := U } (call f vs) Q E s) : CtrH prog w K p loose D U f vs sub mu post :=
  fun A frames base mean mg mb s Q E C O hd hu he => wpAny_room (h frames A.guards base mean mg mb s Q E ⟨rfl, rfl, C.st, C.ff, C.ok⟩ O trivial he.ends he) C.hd C.fr rfl hd hu
theorem EndsH.close {g g1 : Heap} {L : Addr} {m : Str → Option Value} {news : List (Addr × Obj)} {s s' : Shared} {Q : Value → Shared → Prop} {frames : List Env} {base : Heap} (he : EndsH s frames mu post Q) (O : Own frames base s.heap sub) (kg : KeepBut s.heap g (sub.map (·.1)))
    (T : KtsTurn (frs frames) g g1) (F : Fr g1 L s'.heap m) (N : News g1 L s'.heap news) (v : Value) (out : List (Addr × Obj)) (hsub : ∀ q ∈ sub, q.1 ∈ mu ∨ q ∈ news) (hout : ∀ q ∈ out, q ∈ news ∧ (q.1 ∈ mu ∨ ∀ x ∈ sub, x.1 ≠ q.1)) (hpost : post v out)
    (e1 : s'.gens = s.gens) (e2 : s'.drawn = s.drawn) (e3 : s'.os = s.os) : Q v s' := by
  obtain ⟨h', g', d', tk, os'⟩ := s'
  dsimp only at e1 e2 e3 F N
  subst e1 e2 e3
  have insub : ∀ b o, s.heap.get? b = some o → b ∉ mu → b ∈ sub.map (·.1) → h'.get? b = some o := fun b o e hb hm => by
    obtain ⟨x, hx, rfl⟩ := mM hm
    have h1 := (O x hx).1
    rw [e] at h1
    cases h1
    rcases hsub x hx with h2 | h2
    · exact absurd h2 hb
    · exact (N x h2).1
  refine he v out h' tk ⟨fun b o e hb hf => ?_, fun b o e hb => ?_⟩ (fun q hq => ⟨(N q (hout q hq).1).1, ?_⟩) hpost
  · by_cases hm : b ∈ sub.map (·.1)
    · exact insub b o e hb hm
    · exact F.keep _ _ (T.other _ _ (kg b o e hm) hf)
  · by_cases hm : b ∈ sub.map (·.1)
    · exact ⟨o.slots, insub b o e hb hm⟩
    · by_cases hf : b ∈ frs frames
      · obtain ⟨sl, hs⟩ := T.frame _ _ (kg b o e hm) hf
        exact ⟨sl, F.keep _ _ hs⟩
      · exact ⟨o.slots, F.keep _ _ (T.other _ _ (kg b o e hm) hf)⟩
  · rcases (hout q hq).2 with h1 | h1
    · exact .inl h1
    · refine .inr ?_
      cases hq' : s.heap.get? q.1 with
      | none => rfl
      | some o =>
        have hm : q.1 ∉ sub.map (·.1) := fun hm => by
          obtain ⟨x, hx, e⟩ := mM hm
          exact h1 x hx e
        have k1 := kg _ _ hq' hm
        have n1 := (N q (hout q hq).1).2.2
        by_cases hf : q.1 ∈ frs frames
        · obtain ⟨sl, hs⟩ := T.frame _ _ k1 hf
          rw [hs] at n1; exact some_no n1
        · rw [T.other _ _ k1 hf] at n1; exact some_no n1
end
end
section
inductive RV where
  | r (i : Nat)
  | v (x : Value)
inductive RO where
  | inst (C : Addr) (d : Nat)
  | dict (es : List (Int × Str × Tok × RV)) (n : Nat)
  | tup (vs : List RV)
  | lst (vs : List Value) (n : Nat)
  | raw (o : Obj)
noncomputable def RV.den (ρ : List Addr) : RV → Value
  | .r i => .ref (ρ.getD i 0)
  | .v x => x
noncomputable def entry (ρ : List Addr) (e : Int × Str × Tok × RV) : DictEntry := ⟨e.1, .str e.2.1 e.2.2.1, e.2.2.2.den ρ⟩
noncomputable def RO.den (ρ : List Addr) : RO → Obj
  | .inst C d => instObj C (ρ.getD d 0)
  | .dict es n => dictOf (es.map (entry ρ)) n
  | .tup vs => { cls := .type "tuple", data := .seq (vs.map (RV.den ρ)).toArray }
  | .lst vs n => listOf vs.toArray n
  | .raw o => o
noncomputable def RV.wf (n : Nat) : RV → Bool
  | .r i => Nat.blt i n
  | .v _ => true
noncomputable def RO.wf (n : Nat) : RO → Bool
  | .inst _ d => Nat.blt d n
  | .dict es _ => es.all fun e => e.2.2.2.wf n
  | .tup vs => vs.all (RV.wf n)
  | .lst _ _ => true
  | .raw _ => true
structure CE where
  x : Str
  a : Addr
  o : Obj
  v : Option RV
  k : Bool
  w : Bool
structure XS where
  ρ : List Addr
  fr : List (Str × RV)
  ob : List RO
  tl : List (Addr × Obj)
  mu : List Nat
  ce : List CE
  fo : Str → Option Value
noncomputable def XS.tlc (st : XS) : List (Addr × Obj) := st.ce.map (fun e => (e.a, e.o)) ++ st.tl
noncomputable def frm (st : XS) : Str → Option Value := fun y => match st.fr.lookup y with
  | some v => some (v.den st.ρ)
  | none => st.fo y
theorem frm_at {st : XS} {y : Str} {v : RV} (h : st.fr.lookup y = some v) : frm st y = some (v.den st.ρ) := by unfold frm; rw [h]
noncomputable def led (st : XS) : List (Addr × Obj) := st.ρ.zip (st.ob.map (RO.den st.ρ)) ++ st.tlc
def Dis (st : XS) : Prop := ∀ i a, i ∈ st.mu → st.ρ[i]? = some a → (∀ j b, st.ρ[j]? = some b → j ≠ i → b ≠ a) ∧ ∀ p ∈ st.tlc, p.1 ≠ a
structure XC where
  s₀ : Shared
  prog : Program
  w : World
  A : Around
  E : Value → Shared → Prop
  K : Frag
  h₀ : Heap
  L : Addr
  env : Env
  fe : Env
  pin : Nat
structure XT where
  cs : Scope
  gl : List (Str × Value)
  fs : List Nat
  tab : List (Addr × List Str)
  me : List (Addr × List (Str × Addr))
  cm : Bool
noncomputable def CE.dm (e : CE) : Bool := e.x == ("" : Str)
noncomputable def CE.key (e : CE) : Str × Addr × Option Obj := (e.x, e.a, match e.dm || !e.w with
  | true => some e.o
  | false => none)
def CAp (st : XS) : Prop := ∀ e ∈ st.ce, (∀ (j : Nat) (b : Addr), st.ρ[j]? = some b → b ≠ e.a) ∧ ∀ p ∈ st.tl, p.1 ≠ e.a
structure CellsOk (c : XC) (st : XS) : Prop where
  cl : ∀ e ∈ st.ce, e.dm = false → e.k = false → c.env.cells.lookup e.x = some e.a ∧ e.o.data = .cell (e.v.map (RV.den st.ρ))
  nm : ∀ e ∈ st.ce, e.dm = false → e.k = true → c.env.locals = e.a ∧ ∃ m, LCg.NsObj e.o m ∧ m e.x = e.v.map (RV.den st.ρ)
  ap : CAp st
  nd : (st.ce.map (·.a)).Nodup
structure Sat (c : XC) (st : XS) (h : Heap) : Prop where
  F : Fr c.h₀ c.L h (frm st)
  N : News c.h₀ c.L h (led st)
  len : st.ρ.length = st.ob.length
  D : Dis st
  CE : CellsOk c st

theorem RV.den_grow {n : Nat} {ρ : List Addr} (hn : n ≤ ρ.length) (ρ' : List Addr) : ∀ v : RV, v.wf n = true → v.den (ρ ++ ρ') = v.den ρ
  | .r i, h => by
    have h1 : i < ρ.length := Nat.lt_of_lt_of_le (Nat.le_of_ble_eq_true h) hn
    show Value.ref _ = Value.ref _
    rw [List.getD_eq_getElem?_getD, List.getD_eq_getElem?_getD, List.getElem?_append_left h1]
  | .v _, _ => rfl
theorem RO.den_grow {n : Nat} {ρ : List Addr} (hn : n ≤ ρ.length) (ρ' : List Addr) : ∀ o : RO, o.wf n = true → o.den (ρ ++ ρ') = o.den ρ
  | .inst C i, h => by
    have h1 : i < ρ.length := Nat.lt_of_lt_of_le (Nat.le_of_ble_eq_true h) hn
    show instObj C _ = instObj C _
    rw [List.getD_eq_getElem?_getD, List.getD_eq_getElem?_getD, List.getElem?_append_left h1]
  | .dict es n', h => by
    show dictOf _ n' = dictOf _ n'
    congr 1
    refine List.map_congr_left fun e he => ?_
    have := aT h e he
    unfold entry
    rw [RV.den_grow hn ρ' _ this]
  | .tup vs, h => by
    show Obj.mk _ _ (.seq _ _) _ = Obj.mk _ _ (.seq _ _) _
    congr 3
    exact List.map_congr_left fun e he => RV.den_grow hn ρ' _ (aT h e he)
  | .lst _ _, _ => rfl
  | .raw _, _ => rfl
noncomputable def CE.wf (n : Nat) (e : CE) : Bool := match e.v with
  | some v => v.wf n
  | none => true
noncomputable def XS.wf (st : XS) : Bool := (st.fr.all fun p => p.2.wf st.ob.length) && (st.ob.all (RO.wf st.ob.length) && st.ce.all (CE.wf st.ob.length))
noncomputable def XS.add (st : XS) (a : Addr) (o : RO) : XS := { st with ρ := st.ρ ++ [a], ob := st.ob ++ [o], mu := st.ob.length :: st.mu }
noncomputable def XS.put (st : XS) (x : Str) (v : RV) : XS := { st with fr := (x, v) :: st.fr }
noncomputable def XS.set (st : XS) (i : Nat) (o : RO) : XS := { st with ob := st.ob.set i o }
section
variable {c : XC} {st : XS} {h : Heap}
theorem Sat.mem (S : Sat c st h) {i : Nat} {o : RO} (e : st.ob[i]? = some o) : (st.ρ.getD i 0, o.den st.ρ) ∈ led st := by
  have h1 : i < st.ob.length := (gS e).1
  have h2 : i < st.ρ.length := S.len ▸ h1
  refine mL _ (List.mem_iff_getElem?.mpr ⟨i, ?_⟩)
  rw [List.getElem?_zip_eq_some]
  refine ⟨?_, by rw [List.getElem?_map, e]; rfl⟩
  rw [List.getD_eq_getElem?_getD, List.getElem?_eq_getElem h2]; rfl
theorem led_add (hl : st.ρ.length = st.ob.length) (hw : st.wf = true) (a : Addr) (o : RO) : led (st.add a o) = st.ρ.zip (st.ob.map (RO.den st.ρ)) ++ (a, o.den (st.ρ ++ [a])) :: st.tlc := by
  have hw2 := (bA (bA hw).2).1
  show (st.ρ ++ [a]).zip ((st.ob ++ [o]).map (RO.den (st.ρ ++ [a]))) ++ st.tlc = _
  rw [List.map_append, List.zip_append (by rw [List.length_map, hl])]
  have : st.ob.map (RO.den (st.ρ ++ [a])) = st.ob.map (RO.den st.ρ) := List.map_congr_left fun x hx => RO.den_grow (Nat.le_of_eq hl.symm) [a] x (aT hw2 x hx)
  rw [this]
  simp
set_option tactic.hygienic true in
theorem frm_add (hl : st.ρ.length = st.ob.length) (hw : st.wf = true) (a : Addr) (o : RO) : frm (st.add a o) = frm st := by
  have hw1 := (bA hw).1
  funext y
  show (match st.fr.lookup y with | some v => some (v.den (st.ρ ++ [a])) | none => st.fo y) = match st.fr.lookup y with | some v => some (v.den st.ρ) | none => st.fo y
  cases e : st.fr.lookup y with
  | none => rfl
  | some v =>
    obtain ⟨p, hp, rfl⟩ : ∃ p ∈ st.fr, p.2 = v := by
      clear hl hw hw1
      generalize st.fr = l at e
      induction l with
      | nil => exact none_no e
      | cons q l ih =>
        rw [List.lookup_cons] at e
        split at e
        · cases e; exact ⟨q, mS, rfl⟩
        · obtain ⟨p, hp, hv⟩ := ih e; exact ⟨p, mC _ hp, hv⟩
    exact congrArg some (RV.den_grow (Nat.le_of_eq hl.symm) [a] _ (aT hw1 p hp))
theorem cell_grow {v : Option RV} {n : Nat} {ρ ρ' : List Addr} (hn : n ≤ ρ.length) (h : ∀ x, v = some x → x.wf n = true) : v.map (RV.den (ρ ++ ρ')) = v.map (RV.den ρ) := by
  cases v with
  | none => rfl
  | some x => exact congrArg some (RV.den_grow hn ρ' x (h x rfl))
theorem CE.wf_is {n : Nat} {e : CE} (h : e.wf n = true) : ∀ x, e.v = some x → x.wf n = true := fun x hx => by
  unfold CE.wf at h
  rw [hx] at h
  exact h
theorem CellsOk.grow {c : XC} {st st' : XS} {as : List Addr} (C : CellsOk c st) (hl : st.ρ.length = st.ob.length) (hw : st.wf = true) (h1 : st'.ρ = st.ρ ++ as) (h2 : st'.ce = st.ce) (h3 : CAp st') : CellsOk c st' := by
  have hw3 := (bA (bA hw).2).2
  have key : ∀ e ∈ st.ce, e.v.map (RV.den st'.ρ) = e.v.map (RV.den st.ρ) := fun e he => by rw [h1, cell_grow (Nat.le_of_eq hl.symm) (CE.wf_is (aT hw3 e he))]
  refine ⟨fun e he hd hk => ?_, fun e he hd hk => ?_, h3, by rw [h2]; exact C.nd⟩
  · rw [h2] at he
    rw [key e he]; exact C.cl e he hd hk
  · rw [h2] at he
    rw [key e he]; exact C.nm e he hd hk
theorem Sat.add (S : Sat c st h) (hw : st.wf = true) {a : Addr} {o : RO} {h' : Heap} (F : Fr c.h₀ c.L h' (frm st)) (N : News c.h₀ c.L h' ((a, o.den (st.ρ ++ [a])) :: led st)) (l : ∀ p ∈ led st, p.1 < a) : Sat c (st.add a o) h' := by
  have hmem : ∀ j b, st.ρ[j]? = some b → b < a := fun j b e => by
    have h1 : j < st.ρ.length := (gS e).1
    have h2 : j < st.ob.length := S.len ▸ h1
    have := l _ (S.mem (List.getElem?_eq_getElem h2))
    rw [List.getD_eq_getElem?_getD, e] at this
    exact this
  refine ⟨by rw [frm_add S.len hw]; exact F, ?_, ?_, ?_, S.CE.grow (as := [a]) S.len hw rfl rfl fun e he => ⟨fun j b hb => ?_, (S.CE.ap e he).2⟩⟩
  rotate_right
  · have hea : e.a < a := l (e.a, e.o) (mR _ (mL _ (List.mem_map.mpr ⟨e, he, rfl⟩)))
    rcases Nat.lt_or_ge j st.ρ.length with q | q
    · have hb' : (st.ρ ++ [a])[j]? = some b := hb
      rw [List.getElem?_append_left q] at hb'
      exact (S.CE.ap e he).1 j b hb'
    · have hb' : (st.ρ ++ [a])[j]? = some b := hb
      rw [List.getElem?_append_right q] at hb'
      rcases Nat.eq_or_lt_of_le q with r | r
      · rw [r, Nat.sub_self] at hb'
        have : a = b := Option.some.inj hb'
        rw [← this]; exact Nat.ne_of_gt hea
      · rw [List.getElem?_eq_none (by simp; lia)] at hb'; cases hb'
  · rw [led_add S.len hw]
    intro p hp
    refine N p ?_
    rcases mA hp with q | q
    · exact mC _ (mL _ q)
    · rcases mK q with rfl | q
      · exact mS
      · exact mC _ (mR _ q)
  · show (st.ρ ++ [a]).length = (st.ob ++ [o]).length
    rw [List.length_append, List.length_append, S.len]; rfl
  · have split : ∀ j b, (st.ρ ++ [a])[j]? = some b → (j < st.ob.length ∧ st.ρ[j]? = some b) ∨ (j = st.ob.length ∧ b = a) := fun j b e => by
      rcases Nat.lt_or_ge j st.ρ.length with q | q
      · rw [List.getElem?_append_left q] at e; exact .inl ⟨S.len ▸ q, e⟩
      · rw [List.getElem?_append_right q] at e
        rcases Nat.eq_or_lt_of_le q with r | r
        · refine .inr ⟨by rw [← S.len]; exact r.symm, ?_⟩
          rw [r, Nat.sub_self] at e; exact (Option.some.inj e).symm
        · rw [List.getElem?_eq_none (by simp; lia)] at e; exact none_no e
    intro i b hi hb
    rcases mK hi with rfl | hi
    · have hb' : b = a := by
        rcases split _ _ hb with ⟨q, _⟩ | ⟨_, q⟩
        · exact absurd q (Nat.lt_irrefl _)
        · exact q
      subst hb'
      refine ⟨fun j b' hj hne => ?_, fun p hp => Nat.ne_of_lt (l p (mR _ hp))⟩
      rcases split _ _ hj with ⟨_, q⟩ | ⟨q, _⟩
      · exact Nat.ne_of_lt (hmem _ _ q)
      · exact absurd q hne
    · rcases split _ _ hb with ⟨_, q⟩ | ⟨q, rfl⟩
      · obtain ⟨d1, d2⟩ := S.D i b hi q
        refine ⟨fun j b' hj hne => ?_, d2⟩
        rcases split _ _ hj with ⟨_, q'⟩ | ⟨_, rfl⟩
        · exact d1 j b' q' hne
        · exact Nat.ne_of_gt (hmem _ _ q)
      · refine ⟨fun j b' hj hne => ?_, fun p hp => Nat.ne_of_lt (l p (mR _ hp))⟩
        rcases split _ _ hj with ⟨_, q'⟩ | ⟨q', _⟩
        · exact Nat.ne_of_lt (hmem _ _ q')
        · exact absurd (q'.trans q.symm) hne
theorem zip_at : ∀ {ρ : List Addr} {os : List Obj} {p : Addr × Obj}, p ∈ ρ.zip os → ∃ j : Nat, ρ[j]? = some p.1
  | _, _, p, h => by
    obtain ⟨j, hj⟩ := List.mem_iff_getElem?.mp h
    rw [List.getElem?_zip_eq_some] at hj
    exact ⟨j, hj.1⟩
theorem upd_zip {d : Addr} {o o' : Obj} {tl : List (Addr × Obj)} (h4 : ∀ p ∈ tl, p.1 ≠ d) : ∀ {ρ : List Addr} {os : List Obj} {i : Nat}, ρ[i]? = some d → os[i]? = some o → (∀ j b, ρ[j]? = some b → j ≠ i → b ≠ d) → Upd d o o' (ρ.zip os ++ tl) (ρ.zip (os.set i o') ++ tl)
  | a :: ρ, x :: os, 0, h1, h2, h3 => by
    cases h1; cases h2
    refine .head fun p hp => ?_
    rcases mA hp with q | q
    · obtain ⟨j, hj⟩ := zip_at q
      exact h3 (j + 1) _ hj (Nat.succ_ne_zero _)
    · exact h4 p q
  | a :: ρ, x :: os, i + 1, h1, h2, h3 => .tail (h3 0 a rfl (Nat.succ_ne_zero _).symm) (upd_zip h4 h1 h2 fun j b hj hne => h3 (j + 1) b hj fun q => hne (Nat.succ.inj q))
  | [], _, _, h1, _, _ => by simp at h1
  | _ :: _, [], _, _, h2, _ => by simp at h2
theorem Sat.at (S : Sat c st h) {i : Nat} {o : RO} (e : st.ob[i]? = some o) : st.ρ[i]? = some (st.ρ.getD i 0) := by
  have h1 : i < st.ob.length := (gS e).1
  have h2 : i < st.ρ.length := S.len ▸ h1
  rw [List.getD_eq_getElem?_getD, List.getElem?_eq_getElem h2]; rfl
theorem Sat.upd (S : Sat c st h) {i : Nat} {o : RO} (e : st.ob[i]? = some o) (hi : i ∈ st.mu) (o' : RO) : Upd (st.ρ.getD i 0) (o.den st.ρ) (o'.den st.ρ) (led st) (led (st.set i o')) := by
  obtain ⟨d1, d2⟩ := S.D i _ hi (S.at e)
  have := upd_zip (os := st.ob.map (RO.den st.ρ)) (o' := o'.den st.ρ) d2 (S.at e) (by rw [List.getElem?_map, e]; rfl) d1
  rw [← List.map_set] at this
  exact this
theorem Sat.setTo (S : Sat c st h) {i : Nat} {o' : RO} {h' : Heap} (F : Fr c.h₀ c.L h' (frm st)) (N : News c.h₀ c.L h' (led (st.set i o'))) : Sat c (st.set i o') h' := ⟨F, N, by show st.ρ.length = (st.ob.set i o').length; rw [List.length_set, S.len], S.D, ⟨S.CE.cl, S.CE.nm, S.CE.ap, S.CE.nd⟩⟩
set_option tactic.hygienic true in
theorem Sat.putTo (S : Sat c st h) {x : Str} {v : RV} {h' : Heap} (F : Fr c.h₀ c.L h' fun y => if y = x then some (v.den st.ρ) else frm st y) (N : News c.h₀ c.L h' (led st)) : Sat c (st.put x v) h' := by
  refine ⟨?_, N, S.len, S.D, ⟨S.CE.cl, S.CE.nm, S.CE.ap, S.CE.nd⟩⟩
  have : frm (st.put x v) = fun y => if y = x then some (v.den st.ρ) else frm st y := by
    funext y
    show (match ((x, v) :: st.fr).lookup y with | some v => some (v.den st.ρ) | none => st.fo y) = _
    rw [List.lookup_cons]
    by_cases q : y = x
    · subst q; simp
    · rw [if_neg q, beq_eq_false_iff_ne.mpr q]; rfl
  rw [this]; exact F
end
end
section
structure Rest (c : XC) (s : Shared) : Prop where
  gens : s.gens = c.s₀.gens
  drawn : s.drawn = c.s₀.drawn
  os : s.os = c.s₀.os
theorem Rest.to {c : XC} {s : Shared} (z : Rest c s) {h : Heap} {tk : Nat} : Rest c { s with heap := h, toks := tk } := ⟨z.gens, z.drawn, z.os⟩
structure Ext (st st' : XS) : Prop where
  pre : st.ρ <+: st'.ρ
  dm : st'.ce.map CE.key = st.ce.map CE.key
theorem Ext.refl (st : XS) : Ext st st := ⟨List.prefix_refl _, rfl⟩
theorem Ext.trans {a b c : XS} (h : Ext a b) (k : Ext b c) : Ext a c := ⟨h.pre.trans k.pre, k.dm.trans h.dm⟩
theorem Ext.add {st : XS} {a : Addr} {o : RO} : Ext st (st.add a o) := ⟨List.prefix_append _ _, rfl⟩
structure ExtP (p : Nat) (st st' : XS) : Prop where
  pre : ∀ (i : Nat) (a : Addr), i < p → st.ρ[i]? = some a → st'.ρ[i]? = some a
  dm : st'.ce.map CE.key = st.ce.map CE.key
theorem Ext.p {p : Nat} {st st' : XS} (h : Ext st st') : ExtP p st st' := by
  obtain ⟨r, hr⟩ := h.pre
  refine ⟨fun i a _ e => ?_, h.dm⟩
  rw [← hr, List.getElem?_append_left (gS e).1]; exact e
theorem ExtP.refl (p : Nat) (st : XS) : ExtP p st st := ⟨fun _ _ _ e => e, rfl⟩
theorem ExtP.trans {p : Nat} {a b c : XS} (h : ExtP p a b) (k : ExtP p b c) : ExtP p a c := ⟨fun i x hi e => k.pre i x hi (h.pre i x hi e), k.dm.trans h.dm⟩
def EvR {α β : Type} (c : XC) (Rel : XS → XS → Prop) (d : List Addr → β → α) (t : Sem α) (st : XS) (K : β → XS → Prop) : Prop :=
  ∀ (Q : α → Shared → Prop) (s : Shared), Rest c s → Sat c st s.heap → (∀ v st' h' tk', K v st' → Sat c st' h' → Rel st st' → Q (d st'.ρ v) { s with heap := h', toks := tk' }) → wpAny (model c.prog c.w) c.A t Q c.E s
abbrev EvG {α β : Type} (c : XC) (d : List Addr → β → α) (t : Sem α) (st : XS) (K : β → XS → Prop) : Prop := EvR c Ext d t st K
abbrev Ev (c : XC) (t : Sem Value) (st : XS) (K : RV → XS → Prop) : Prop := EvG c RV.den t st K
abbrev EvL (c : XC) (t : Sem (List Value)) (st : XS) (K : List RV → XS → Prop) : Prop := EvG c (fun ρ vs => vs.map (RV.den ρ)) t st K
abbrev EvB (c : XC) (t : Sem Bool) (st : XS) (K : Bool → XS → Prop) : Prop := EvG c (fun _ b => b) t st K
abbrev EvU (c : XC) (t : Sem Unit) (st : XS) (K : Unit → XS → Prop) : Prop := EvG c (fun _ b => b) t st K
inductive RF where
  | next | brk | cont | ret (v : RV)
noncomputable def RF.den (ρ : List Addr) : RF → Flow
  | .next => .next
  | .brk => .brk
  | .cont => .cont
  | .ret v => .ret (v.den ρ)
abbrev EvF (c : XC) (t : Sem Flow) (st : XS) (K : RF → XS → Prop) : Prop := EvR c (ExtP c.pin) RF.den t st K
structure Do (c : XC) (t : Sem Value) (st : XS) (K : RV → XS → Prop) : Prop where
  run : Ev c t st K
structure DoC (c : XC) (f : Value) (vs : List RV) (st : XS) (K : RV → XS → Prop) : Prop where
  run : Ev c (call f (vs.map (RV.den st.ρ))) st K
structure DoCR (c : XC) (f : Value) (vs : List RV) (st : XS) (K : RV → XS → Prop) : Prop where
  run : EvR c (ExtP c.pin) RV.den (call f (vs.map (RV.den st.ρ))) st K
structure DoU (c : XC) (t : Sem Unit) (st : XS) (K : Unit → XS → Prop) : Prop where
  run : EvU c t st K
structure DoB (c : XC) (t : Sem Bool) (st : XS) (K : Bool → XS → Prop) : Prop where
  run : EvB c t st K
structure DoF (c : XC) (t : Sem Flow) (st : XS) (K : RF → XS → Prop) : Prop where
  run : EvF c t st K
def Ite (b : Bool) (P Q : Prop) : Prop := @Bool.rec (fun _ => Prop) Q P b
theorem Ite.yes {b : Bool} {P Q : Prop} (h : Ite b P Q) : b = true → P := fun e => by subst e; exact h
theorem Ite.no {b : Bool} {P Q : Prop} (h : Ite b P Q) : b = false → Q := fun e => by subst e; exact h
theorem ift {b : Bool} {P Q : Prop} (h : b = true) (k : P) : @Bool.rec (fun _ => Prop) Q P b := by subst h; exact k
theorem iff' {b : Bool} {P Q : Prop} (h : b = false) (k : Q) : @Bool.rec (fun _ => Prop) Q P b := by subst h; exact k
theorem ifc {b : Bool} {P Q : Prop} (h : b = true → P) (k : b = false → Q) : @Bool.rec (fun _ => Prop) Q P b := by cases b; exact k rfl; exact h rfl

structure ClsOk (K : Frag) (C : Addr) (names : List Str) : Prop where
  set : findIn K (.ref C) "__setattr__" = some (some (.builtin "object.__setattr__"))
  over : plainOver K C = true
  has : hasDictIn K C = true
  get : ∀ x, plainGet K C x = true
  tak : ∀ x ∈ names, takerIn K C x = some none
  fnd : ∀ x ∈ names, findIn K (.ref C) x = some none
noncomputable def classAttr (v : Value) (x : Str) : Option Value := match x == ("__init__" : Str) with
  | true => (match v with
    | .ref a => (match Nat.beq a 38 with
      | true => some (.ref 35)
      | false => none)
    | .type T => (match T == "Exception" with
      | true => some (.builtin "Exception.__init__")
      | false => none)
    | _ => none)
  | false => none
structure XC.Ok (c : XC) (xt : XT) : Prop where
  cs : c.env.scope = xt.cs
  gg : c.env.globals = mainGlobals
  gb : c.env.builtins = builtinsNs
  lo : xt.cm = false → c.env.locals = c.L
  hh : c.A.handled = none
  po : xt.cm = false → PassesOwn (model c.prog c.w) c.A c.env c.E
  kf : c.env.scope.kind = .function
  X : c.K.In c.h₀
  T : ∃ p loose mg mb, TopRead p loose mg mb c.h₀
  gl : ∀ x v, xt.gl.lookup x = some v → nsIn c.K mainGlobals x = some (some v) ∨ (nsIn c.K mainGlobals x = some none ∧ bootBuiltins x = some v ∧ x ≠ "__name__")
  fs : ∀ a, xt.fs.contains a = true → keepIn c.K (.ref a) = true
  me : ∀ C l x f, xt.me.lookup C = some l → l.lookup x = some f → plainGet c.K C x = true ∧ findIn c.K (.ref C) x = some (some (.ref f)) ∧ isFn c.K (.ref f) = true ∧ keepIn c.K (.ref f) = true
  cls : ∀ C names, xt.tab.lookup C = some names → ClsOk c.K C names
  ca : ∀ v x f, classAttr v x = some f → ((∃ id, f = .builtin id) ∨ keepIn c.K f = true) ∧ ∀ (A : Around) (Q : Value × List Value → Shared → Prop) (E : Value → Shared → Prop) (s : Shared) (pl : Sem Bool) (h₀ : Heap) (L : Addr) (m : Str → Option Value), Fr h₀ L s.heap m → c.K.In h₀ → Q (f, []) { s with toks := s.toks + 1 } → wpAny (model c.prog c.w) A (getMethod v x pl) Q E s

noncomputable def intRV : RV → Option Int
  | .v (.int x _) => some x
  | _ => none
noncomputable def strRV : RV → Option Str
  | .v (.str x _) => some x
  | _ => none
noncomputable def noneRV : RV → Option Bool
  | .r _ => some false
  | .v .none => some true
  | .v (.int _ _) => some false
  | _ => none
inductive NoneAre : RV → Bool → Prop
  | r (i : Nat) : NoneAre (.r i) false
  | n : NoneAre (.v .none) true
  | i (x : Int) (t : Tok) : NoneAre (.v (.int x t)) false
noncomputable def isNoneRV : RV → Bool
  | .v .none => true
  | _ => false
noncomputable def isEq : CmpOp → Bool
  | .Eq => true
  | _ => false
theorem intRV_is {a : RV} {x : Int} (h : intRV a = some x) : ∃ t, a = .v (.int x t) := by
  cases a with
  | r i => exact none_no h
  | v y =>
    cases y with
    | int _ t => exact ⟨t, Option.some.inj h ▸ rfl⟩
    | _ => exact none_no h
theorem strRV_is {a : RV} {x : Str} (h : strRV a = some x) : ∃ t, a = .v (.str x t) := by
  cases a with
  | r i => exact none_no h
  | v y =>
    cases y with
    | str _ t => exact ⟨t, Option.some.inj h ▸ rfl⟩
    | _ => exact none_no h
theorem isNoneRV_is {a : RV} (h : isNoneRV a = true) : a = .v .none := by
  cases a with
  | r i => exact ft_no h
  | v y => cases y <;> first | rfl | exact ft_no h
theorem isEq_is {op : CmpOp} (h : isEq op = true) : op = .Eq := by cases op <;> first | rfl | cases h
noncomputable def ceLook (k : Bool) (x : Str) : List CE → Option RV
  | [] => none
  | e :: r => if e.x == x && e.k == k then e.v else ceLook k x r
noncomputable def noName (x : Str) : Bool := x == ("" : Str)
set_option tactic.hygienic true in
theorem ceLook_is {k : Bool} {x : Str} : ∀ {l : List CE} {v : RV}, ceLook k x l = some v → ∃ e ∈ l, (e.x = x ∧ e.k = k) ∧ e.v = some v
  | [], _, h => by exact none_no h
  | e :: r, v, h => by
    unfold ceLook at h
    split at h
    · rename_i q; obtain ⟨q1, q2⟩ := bA q; exact ⟨e, mS, ⟨eq_of_beq q1, eq_of_beq q2⟩, h⟩
    · obtain ⟨e', h1, h2⟩ := ceLook_is h; exact ⟨e', mC _ h1, h2⟩
noncomputable def cePut (x : Str) (v : RV) (o : Obj) : List CE → List CE
  | [] => []
  | e :: r => if e.x == x && (!e.k && e.w) then ⟨e.x, e.a, o, some v, false, true⟩ :: r else e :: cePut x v o r
noncomputable def ceHas (x : Str) : List CE → Bool
  | [] => false
  | e :: r => (e.x == x && (!e.k && e.w)) || ceHas x r
noncomputable def XS.putC (st : XS) (x : Str) (v : RV) (o : Obj) : XS := { st with ce := cePut x v o st.ce }
section
variable (xt : XT) (c : XC)
def exTruth (v : RV) (st : XS) (K : Bool → XS → Prop) : Prop := match v with
  | .v (.bool b) => K b st
  | .v .none => K false st
  | v => DoB c (truthy (v.den st.ρ)) st K
def exInp (op : Operator) (a b : RV) (st : XS) (K : RV → XS → Prop) : Prop := match intRV a, intRV b with
  | some x, some y => (match op with
    | .Add => ∀ t, K (.v (.int (x + y) t)) st
    | .Sub => ∀ t, K (.v (.int (x - y) t)) st
    | op => Do c (inplaceOp op (a.den st.ρ) (b.den st.ρ)) st K)
  | _, _ => Do c (inplaceOp op (a.den st.ρ) (b.den st.ρ)) st K
def exUn (op : UnaryOp) (a : RV) (st : XS) (K : RV → XS → Prop) : Prop := match intRV a with
  | some x => (match op with
    | .USub => ∀ t, K (.v (.int (-x) t)) st
    | op => Do c (unaryOp op (a.den st.ρ)) st K)
  | none => Do c (unaryOp op (a.den st.ρ)) st K
def exBin (op : Operator) (a b : RV) (st : XS) (K : RV → XS → Prop) : Prop := match intRV a, intRV b with
  | some x, some y => (match op with
    | .Add => ∀ t, K (.v (.int (x + y) t)) st
    | .Sub => ∀ t, K (.v (.int (x - y) t)) st
    | op => Do c (binaryOp op (a.den st.ρ) (b.den st.ρ)) st K)
  | _, _ => Do c (binaryOp op (a.den st.ρ) (b.den st.ρ)) st K
noncomputable def cmpInt (op : CmpOp) (x y : Int) : Option Bool := match op with
  | .Eq => some (x == y)
  | .NotEq => some (x != y)
  | .Lt => some (decide (x < y))
  | .LtE => some (decide (x ≤ y))
  | .Gt => some (decide (x > y))
  | .GtE => some (decide (x ≥ y))
  | _ => none
noncomputable def cmpNone (op : CmpOp) (r : Bool) : Option Bool := match op with
  | .Is => some r
  | .IsNot => some (!r)
  | _ => none
def exCmp (op : CmpOp) (a b : RV) (st : XS) (K : RV → XS → Prop) : Prop := match intRV a, intRV b with
  | some x, some y => (match cmpInt op x y with
    | some r => K (.v (.bool r)) st
    | none => Do c (compareOp op (a.den st.ρ) (b.den st.ρ)) st K)
  | _, _ => match isNoneRV b, noneRV a with
    | true, some r => (match cmpNone op r with
      | some r => K (.v (.bool r)) st
      | none => Do c (compareOp op (a.den st.ρ) (b.den st.ρ)) st K)
    | _, _ => match isEq op, strRV a, strRV b with
      | true, some x, some y => K (.v (.bool (x == y))) st
      | _, _, _ => Do c (compareOp op (a.den st.ρ) (b.den st.ρ)) st K
noncomputable def getE (x : Str) : List (Int × Str × Tok × RV) → Option RV
  | [] => none
  | e :: r => if e.2.1 == x then some e.2.2.2 else getE x r
noncomputable def putE (x : Str) (q : Int) (t : Tok) (v : RV) : List (Int × Str × Tok × RV) → List (Int × Str × Tok × RV)
  | [] => [(q, x, t, v)]
  | e :: r => if e.2.1 == x then (e.1, e.2.1, e.2.2.1, v) :: r else e :: putE x q t v r
noncomputable def hasE (x : Str) : List (Int × Str × Tok × RV) → Bool
  | [] => false
  | e :: r => e.2.1 == x || hasE x r
noncomputable def okName (C : Addr) (x : Str) : Bool := match xt.tab.lookup C with
  | some names => names.contains x
  | none => false
noncomputable def handRV : RV → Bool
  | .r _ => true
  | .v x => handedIn x
def exAttr (o : RV) (x : Str) (st : XS) (K : RV → XS → Prop) : Prop := match o with
  | .r i => match st.ob[i]? with
    | some (.inst C d) => match st.ob[d]? with
      | some (.dict es _) => match okName xt C x with
        | true => match getE x es with
          | some v => match handRV v with
            | true => K v st
            | false => False
          | none => Do c (getAttr ((RV.r i).den st.ρ) x true) st K
        | false => Do c (getAttr ((RV.r i).den st.ρ) x true) st K
      | _ => False
    | _ => Do c (getAttr ((RV.r i).den st.ρ) x true) st K
  | o => Do c (getAttr (o.den st.ρ) x true) st K
def exSet (o : RV) (x : Str) (v : RV) (st : XS) (K : Unit → XS → Prop) : Prop := match o with
  | .r i => match st.ob[i]? with
    | some (.inst C d) => match st.ob[d]? with
      | some (.dict es n) => match okName xt C x && st.mu.contains d && Nat.ble (es.length + 1) 1000 with
        | true => ∀ q t, K () (st.set d (.dict (putE x q t v es) (if hasE x es then n else n + 1)))
        | false => False
      | _ => False
    | _ => DoU c (setAttr ((RV.r i).den st.ρ) x (v.den st.ρ)) st K
  | o => DoU c (setAttr (o.den st.ρ) x (v.den st.ρ)) st K
noncomputable def listMeth (x : Str) : Option String := if x == ("append" : Str) then some "list.append" else if x == ("pop" : Str) then some "list.pop" else if x == ("reverse" : Str) then some "list.reverse" else none
def exMeth (o : RV) (x : Str) (st : XS) (K : Value → Prop) : Prop := match o with
  | .r i => match st.ob[i]? with
    | some (.inst C d) => match st.ob[d]? with
      | some (.dict es _) => match getE x es with
        | none => match xt.me.lookup C with
          | some l => match l.lookup x with
            | some f => K (.ref f)
            | none => False
          | none => False
        | some _ => False
      | _ => False
    | some (.lst _ _) => match listMeth x with
      | some id => K (.builtin id)
      | none => False
    | some (.raw o) => match x == ("get" : Str) with
      | true => (o.cls = .type "dict" ∧ o.dict = none) ∧ K (.builtin "dict.get")
      | false => False
    | _ => False
  | _ => False
noncomputable def noSlice : Expr → Bool
  | .Slice .. => false
  | _ => true
noncomputable def noStar : Expr → Bool
  | .Starred .. => false
  | _ => true
noncomputable def noComp : Expr → Bool
  | .ListComp .. | .SetComp .. | .DictComp .. => false
  | _ => true
def exSub (val sl : Expr) (o i : RV) (st : XS) (K : RV → XS → Prop) : Prop := match o with
  | .r k => match st.ob[k]? with
    | some (.tup vs) => match i with
      | .v (.int (.ofNat j) _) => match noSlice sl && Nat.ble j 1000 with
        | true => match vs[j]? with
          | some v => K v st
          | none => False
        | false => False
      | i => Do c (subscriptTail val sl ((RV.r k).den st.ρ) (i.den st.ρ)) st K
    | _ => Do c (subscriptTail val sl ((RV.r k).den st.ρ) (i.den st.ρ)) st K
  | o => Do c (subscriptTail val sl (o.den st.ρ) (i.den st.ρ)) st K
structure DoI (c : XC) (x : Str) (body : List Stmt) (v : RV) (st : XS) (K : RF → XS → Prop) : Prop where
  run : ∀ (Q : Flow → Shared → Prop) (s : Shared), Rest c s → Sat c st s.heap → (∀ f st' h' tk', K f st' → Sat c st' h' → ExtP c.pin st st' → Q (f.den st'.ρ) { s with heap := h', toks := tk' }) →
    wpAny (model c.prog c.w) c.A (pyIter (v.den st.ρ)) (fun it s₂ => LoopR c.prog c.w c.A c.env x body Q c.E it s₂) c.E s
noncomputable def notSet : Expr → Bool
  | .Set .. => false
  | _ => true
def exName (x : Str) (st : XS) (K : RV → XS → Prop) : Prop := match x == ("__debug__" : Str) with
  | true => False
  | false => match xt.cs.names.lookup x with
    | some .local => match xt.cm with
      | false => match st.fr.lookup x with
        | some v => K v st
        | none => False
      | true => match noName x with
        | true => False
        | false => match ceLook true x st.ce with
          | some v => K v st
          | none => False
    | some .globalImplicit => match xt.gl.lookup x with
      | some v => K (.v v) st
      | none => False
    | some .cell => match noName x with
      | true => False
      | false => match ceLook false x st.ce with
        | some v => K v st
        | none => False
    | some .free => match noName x || (x == ("__classdict__" : Str)) with
      | true => False
      | false => match ceLook false x st.ce with
        | some v => K v st
        | none => False
    | _ => False
noncomputable def exArgs (ih : Expr → XS → (RV → XS → Prop) → Prop) : List Expr → XS → (List RV → XS → Prop) → Prop
  | [], st, K => K [] st
  | e :: es, st, K => match noStar e with
    | true => ih e st fun v st1 => match v.wf st1.ob.length with
      | true => exArgs ih es st1 fun vs st2 => K (v :: vs) st2
      | false => False
    | false => False
end
section
variable {c : XC} {xt : XT} (O : c.Ok xt)
theorem truth_ok {v : RV} {st : XS} {K : Bool → XS → Prop} (H : exTruth c v st K) : EvB c (truthy (v.den st.ρ)) st K := by
  intro Q s z S hq
  unfold exTruth at H
  split at H
  · exact wpAny_truthy_bool (hq _ _ _ _ H S (Ext.refl _))
  · exact PyProof.Rows.truthy_none (hq _ _ _ _ H S (Ext.refl _))
  · exact H.run Q s z S hq
set_option tactic.hygienic true in
theorem inp_ok {op : Operator} {a b : RV} {st : XS} {K : RV → XS → Prop} (H : exInp c op a b st K) : Ev c (inplaceOp op (a.den st.ρ) (b.den st.ρ)) st K := by
  unfold exInp at H
  split at H
  · rename_i x y e1 e2
    cases op with
    | Add => obtain ⟨t, rfl⟩ := intRV_is e1; obtain ⟨u, rfl⟩ := intRV_is e2; exact fun Q s z S hq => PyProof.Rows.iadd_int (hq _ _ _ _ (H _) S (Ext.refl _))
    | Sub => obtain ⟨t, rfl⟩ := intRV_is e1; obtain ⟨u, rfl⟩ := intRV_is e2; exact fun Q s z S hq => PyProof.Rows.isub_int (hq _ _ _ _ (H _) S (Ext.refl _))
    | _ => exact H.run
  · exact H.run
set_option tactic.hygienic true in
theorem un_ok {op : UnaryOp} {a : RV} {st : XS} {K : RV → XS → Prop} (H : exUn c op a st K) : Ev c (unaryOp op (a.den st.ρ)) st K := by
  unfold exUn at H
  split at H
  · rename_i x e1
    cases op with
    | USub => obtain ⟨t, rfl⟩ := intRV_is e1; exact fun Q s z S hq => PyProof.Rows.neg_int (hq _ _ _ _ (H _) S (Ext.refl _))
    | _ => exact H.run
  · exact H.run
set_option tactic.hygienic true in
theorem bin_ok {op : Operator} {a b : RV} {st : XS} {K : RV → XS → Prop} (H : exBin c op a b st K) : Ev c (binaryOp op (a.den st.ρ) (b.den st.ρ)) st K := by
  unfold exBin at H
  split at H
  · rename_i x y e1 e2
    cases op with
    | Add => obtain ⟨t, rfl⟩ := intRV_is e1; obtain ⟨u, rfl⟩ := intRV_is e2; exact fun Q s z S hq => PyProof.Rows.add_int (hq _ _ _ _ (H _) S (Ext.refl _))
    | Sub => obtain ⟨t, rfl⟩ := intRV_is e1; obtain ⟨u, rfl⟩ := intRV_is e2; exact fun Q s z S hq => PyProof.Rows.sub_int (hq _ _ _ _ (H _) S (Ext.refl _))
    | _ => exact H.run
  · exact H.run
omit c in
theorem cmpInt_ok {prog : Program} {w : World} {A : Around} {E : Value → Shared → Prop} {s : Shared} {Q : Value → Shared → Prop} {op : CmpOp} {x y : Int} {t u : Tok} {r : Bool} (hr : cmpInt op x y = some r) (h : Q (.bool r) s) : wpAny (model prog w) A (compareOp op (.int x t) (.int y u)) Q E s := by
  cases op with
  | Eq => exact PyProof.Rows.eq_int (Option.some.inj hr ▸ h)
  | NotEq => exact PyProof.Rows.ne_int (Option.some.inj hr ▸ h)
  | Lt => exact PyProof.Rows.lt_int (Option.some.inj hr ▸ h)
  | LtE => exact PyProof.Rows.le_int (Option.some.inj hr ▸ h)
  | Gt => exact PyProof.Rows.gt_int (Option.some.inj hr ▸ h)
  | GtE => exact PyProof.Rows.ge_int (Option.some.inj hr ▸ h)
  | _ => exact none_no hr
omit c in
theorem noneRV_is {a : RV} {r : Bool} (h : noneRV a = some r) : NoneAre a r := by
  cases a with
  | r i => exact Option.some.inj h ▸ .r i
  | v y =>
    cases y with
    | none => exact Option.some.inj h ▸ .n
    | int x t => exact Option.some.inj h ▸ .i x t
    | _ => exact none_no h
omit c in
theorem cmpNone_ok {prog : Program} {w : World} {A : Around} {E : Value → Shared → Prop} {s : Shared} {Q : Value → Shared → Prop} {op : CmpOp} {a : RV} {ρ : List Addr} {r r' : Bool} (ha : NoneAre a r) (hr : cmpNone op r = some r') (h : Q (.bool r') s) : wpAny (model prog w) A (compareOp op (a.den ρ) .none) Q E s := by
  cases op with
  | Is => cases Option.some.inj hr; cases ha with
    | r i => exact is_ref_none h
    | n => exact is_none_none h
    | i x t => exact PyProof.Rows.is_int_none h
  | IsNot => cases Option.some.inj hr; cases ha with
    | r i => exact isnot_ref_none h
    | n => exact isnot_none_none h
    | i x t => exact isnot_int_none h
  | _ => exact none_no hr
set_option tactic.hygienic true in
theorem cmp_ok {op : CmpOp} {a b : RV} {st : XS} {K : RV → XS → Prop} (H : exCmp c op a b st K) : Ev c (compareOp op (a.den st.ρ) (b.den st.ρ)) st K := by
  unfold exCmp at H
  split at H
  · rename_i x y e1 e2
    split at H
    · rename_i r hr
      obtain ⟨t, rfl⟩ := intRV_is e1
      obtain ⟨u, rfl⟩ := intRV_is e2
      exact fun Q s z S hq => cmpInt_ok hr (hq _ _ _ _ H S (Ext.refl _))
    · exact H.run
  · split at H
    · rename_i r hb ha
      split at H
      · rename_i r' hr
        rw [isNoneRV_is hb]
        exact fun Q s z S hq => cmpNone_ok (noneRV_is ha) hr (hq _ _ _ _ H S (Ext.refl _))
      · exact H.run
    · split at H
      · rename_i hop ha hb
        obtain ⟨t, rfl⟩ := strRV_is ha
        obtain ⟨u, rfl⟩ := strRV_is hb
        rw [isEq_is hop]
        exact fun Q s z S hq => PyProof.Rows.eq_str (hq _ _ _ _ H S (Ext.refl _))
      · exact H.run
end
end
section
section
variable {c : XC} {xt : XT}
set_option tactic.hygienic true in
theorem getE_is (ρ : List Addr) (x : Str) : ∀ {es : List (Int × Str × Tok × RV)} {v : RV}, getE x es = some v → getL x (es.map (entry ρ)) = some (some (v.den ρ))
  | [], _, h => by cases h
  | e :: r, v, h => by
    unfold getE at h
    unfold getL
    rw [List.map_cons, List.find?_cons]
    have e0 : (entry ρ e).key.isStr x = (e.2.1 == x) := rfl
    rw [e0]
    split at h
    · rename_i q
      cases h
      rw [q]; rfl
    · rename_i q
      rw [Bool.eq_false_iff.mpr q]
      have := getE_is ρ x h
      unfold getL at this
      split at this
      · rename_i y hy; rw [hy]; exact this
      · split at this <;> cases this
theorem getL_some (ρ : List Addr) (x : Str) : ∀ es : List (Int × Str × Tok × RV), (getL x (es.map (entry ρ))).isSome = true := by
  intro es
  unfold getL
  split
  · rfl
  · rw [if_neg]; rfl
    intro q
    obtain ⟨y, hy, hr⟩ := List.any_eq_true.mp q
    obtain ⟨e, _, rfl⟩ := mM hy
    cases hr
theorem putE_is (ρ : List Addr) (x : Str) (q : Int) (t : Tok) (v : RV) : ∀ es : List (Int × Str × Tok × RV), putL x q (.str x t) (v.den ρ) (es.map (entry ρ)) = (putE x q t v es).map (entry ρ)
  | [] => rfl
  | e :: r => by
    rw [List.map_cons]
    unfold putL putE
    have e0 : (entry ρ e).key.isStr x = (e.2.1 == x) := rfl
    rw [e0]
    split
    · rfl
    · rw [List.map_cons, putE_is ρ x q t v r]
theorem putN_is (ρ : List Addr) (x : Str) (n : Nat) : ∀ es : List (Int × Str × Tok × RV), putN x (es.map (entry ρ)) n = if hasE x es then n else n + 1 := by
  intro es
  unfold putN
  have : (es.map (entry ρ)).any (fun y => y.key.isStr x) = hasE x es := by
    induction es with
    | nil => rfl
    | cons e r ih =>
      rw [List.map_cons, List.any_cons, ih]
      rfl
  rw [this]
theorem putE_length (x : Str) (q : Int) (t : Tok) (v : RV) : ∀ es : List (Int × Str × Tok × RV), (putE x q t v es).length ≤ es.length + 1
  | [] => Nat.le_refl _
  | e :: r => by
    unfold putE
    split
    · exact Nat.le_succ _
    · exact Nat.succ_le_succ (putE_length x q t v r)
set_option tactic.hygienic true in
theorem okName_is (O : c.Ok xt) {C : Addr} {x : Str} (h : okName xt C x = true) : ∃ names, ClsOk c.K C names ∧ x ∈ names := by
  unfold okName at h
  split at h
  · rename_i names e
    exact ⟨names, O.cls C names e, by simpa using h⟩
  · cases h
theorem hand_is {v : RV} (h : handRV v = true) (ρ : List Addr) : handedIn (v.den ρ) = true := by cases v <;> first | rfl | exact h
set_option tactic.hygienic true in
theorem attr_ok (O : c.Ok xt) {o : RV} {x : Str} {st : XS} {K : RV → XS → Prop} (H : exAttr xt c o x st K) : Ev c (getAttr (o.den st.ρ) x true) st K := by
  unfold exAttr at H
  split at H
  · rename_i i
    split at H
    · rename_i C d e1
      split at H
      · rename_i es n e2
        split at H
        · rename_i hn
          split at H
          · rename_i v hv
            split at H
            · rename_i hh
              intro Q s z S hq
              obtain ⟨names, k, hx⟩ := okName_is O hn
              exact get_own S.F O.X (InstAt.of_news S.N (S.mem e1) (S.mem e2)) (k.get x) k.has (k.fnd x hx) rfl (getE_is st.ρ x hv) (hand_is hh _) (hq _ _ _ _ H S (Ext.refl _))
            · cases H
          · exact H.run
        · exact H.run
      · cases H
    · exact H.run
  · exact H.run
set_option tactic.hygienic true in
theorem set_ok (O : c.Ok xt) {o : RV} {x : Str} {v : RV} {st : XS} {K : Unit → XS → Prop} (H : exSet xt c o x v st K) : EvU c (setAttr (o.den st.ρ) x (v.den st.ρ)) st K := by
  unfold exSet at H
  split at H
  · rename_i i
    split at H
    · rename_i C d e1
      split at H
      · rename_i es n e2
        split at H
        · rename_i hb
          obtain ⟨hb, h3⟩ := bA hb
          obtain ⟨h1, h2⟩ := bA hb
          obtain ⟨names, k, hx⟩ := okName_is O h1
          intro Q s z S hq
          refine set_dict S.F O.X S.N (InstAt.of_news S.N (S.mem e1) (S.mem e2)) rfl k.set k.over (k.tak x hx) k.has (getL_some _ _ _) (by rw [putE_is, putN_is]) (S.upd e2 (by simpa using h2) (.dict (putE x (PyData.keyHash c.w.params x) (s.toks + 1) v es) (if hasE x es then n else n + 1))) ?_ fun h' F' N' => hq () _ _ _ (H _ _) (S.setTo F' N') ⟨List.prefix_refl _, rfl⟩
          rw [List.length_map]
          exact Nat.le_trans (putE_length ..) (Nat.le_of_ble_eq_true h3)
        · cases H
      · cases H
    · exact H.run
  · exact H.run
set_option tactic.hygienic true in
theorem getE_no (ρ : List Addr) (x : Str) : ∀ {es : List (Int × Str × Tok × RV)}, getE x es = none → getL x (es.map (entry ρ)) = some none := by
  intro es h
  have h1 : es.find? (fun e => e.2.1 == x) = none := by
    induction es with
    | nil => rfl
    | cons e r ih =>
      unfold getE at h
      split at h
      · cases h
      · rename_i q
        rw [List.find?_cons, Bool.eq_false_iff.mpr q]
        exact ih h
  have h2 : (es.map (entry ρ)).find? (·.key.isStr x) = none := by
    rw [List.find?_map]
    show Option.map _ (es.find? fun e => e.2.1 == x) = none
    rw [h1]; rfl
  have h3 := getL_some ρ x es
  unfold getL at h3 ⊢
  rw [h2] at h3 ⊢
  dsimp only at h3 ⊢
  split
  · rename_i q; rw [if_pos q] at h3; cases h3
  · rfl
set_option tactic.hygienic true in
theorem meth_ok (O : c.Ok xt) {o : RV} {x : Str} {st : XS} {K : Value → Prop} (H : exMeth xt o x st K) {pl : Sem Bool} {Q : Value × List Value → Shared → Prop} {s : Shared} (S : Sat c st s.heap)
    (hq : ∀ f, K f → (keepIn c.K f = true ∨ ∃ id, f = .builtin id) → Q (f, [o.den st.ρ]) s) : wpAny (model c.prog c.w) c.A (getMethod (o.den st.ρ) x pl) Q c.E s := by
  unfold exMeth at H
  split at H
  · rename_i i
    split at H
    · rename_i C d e1
      split at H
      · rename_i es n e2
        split at H
        · rename_i hg
          split at H
          · rename_i l hl
            split at H
            · rename_i f hf
              obtain ⟨h1, h2, h3, h4⟩ := O.me C l x f hl hf
              exact method_inst S.F O.X (InstAt.of_news S.N (S.mem e1) (S.mem e2)) h1 h2 h3 (getE_no st.ρ x hg) (hq _ H (.inl h4))
            · cases H
          · cases H
        · cases H
      · cases H
    · rename_i vs n e1
      split at H
      · rename_i id hid
        have hm := S.mem e1
        unfold listMeth at hid
        split at hid
        · rename_i q; cases hid; rw [eq_of_beq q]
          exact kl_method S.N hm PySem.F.slot_list_append PySem.F.type_list_append (hq _ H (.inr ⟨_, rfl⟩))
        · split at hid
          · rename_i q; cases hid; rw [eq_of_beq q]
            exact kl_method S.N hm PySem.F.slot_list_pop PySem.F.type_list_pop (hq _ H (.inr ⟨_, rfl⟩))
          · split at hid
            · rename_i q; cases hid; rw [eq_of_beq q]
              exact kl_method S.N hm PySem.F.slot_list_reverse PySem.F.type_list_reverse (hq _ H (.inr ⟨_, rfl⟩))
            · cases hid
      · cases H
    · rename_i ro e1
      split at H
      · rename_i q
        obtain ⟨⟨h1, h2⟩, H⟩ := H
        have hm := (S.N _ (S.mem e1)).1
        rw [eq_of_beq q]
        exact getMethod_builtin ⟨_, hm, h1⟩ PySem.F.plainAttrs_dict PySem.F.slot_dict_get PySem.F.type_dict_get (fun a e => by cases e; exact ⟨_, hm, h2⟩) (hq _ H (.inr ⟨_, rfl⟩))
      · cases H
    · cases H
  · cases H
theorem sl_is {sl : Expr} {o i : Value} (h2 : noSlice sl = true) : subscripted sl false o i = operate [o, i] (getItem o i) := by cases sl <;> first | rfl | cases h2
set_option tactic.hygienic true in
theorem sub_ok {val sl : Expr} {o i : RV} {st : XS} {K : RV → XS → Prop} (H : exSub c val sl o i st K) : Ev c (subscriptTail val sl (o.den st.ρ) (i.den st.ρ)) st K := by
  unfold exSub at H
  split at H
  · rename_i k
    split at H
    · rename_i vs e1
      split at H
      · rename_i j t
        split at H
        · rename_i hb
          obtain ⟨h2, h3⟩ := bA hb
          split at H
          · rename_i v hv
            intro Q s z S hq
            refine kba_turn (value' := .Name "x" default) (fun _ => rfl) ?_
            have hj : j < vs.length := (gS hv).1
            have h3' : j ≤ 1000 := Nat.le_of_ble_eq_true h3
            refine kim_tup (l := vs.map (RV.den st.ρ)) (n := 0) (j := j) S.N (S.mem e1) rfl rfl (by show (-2 ^ 63 : Int) ≤ ((j : Nat) : Int); lia) (by show ((j : Nat) : Int) < 2 ^ 63; lia) ?_ (by rw [List.getElem?_map, hv]; rfl) (hq _ _ _ _ H S (Ext.refl _)) (sl_is h2) (fun _ => rfl)
            show seqIndex? ((j : Nat) : Int) _ = some j
            rw [List.length_map]
            unfold seqIndex?
            simp
            lia
          · cases H
        · cases H
      · exact H.run
    · exact H.run
  · exact H.run
set_option tactic.hygienic true in
theorem name_ok (O : c.Ok xt) {x : Str} {pos : Pos} {st : XS} {K : RV → XS → Prop} (H : exName xt x st K) : Ev c (eval (.Name x pos) c.env) st K := by
  have hko : ∀ k, xt.cs.names.lookup x = k → c.env.kindOf x = k := fun k h => by unfold Env.kindOf; rw [O.cs]; exact h
  have cell : ∀ {v : RV}, noName x = false → ceLook false x st.ce = some v → ∀ {h : Heap}, Sat c st h → ∃ a, c.env.cells.lookup x = some a ∧ h.IsCell a (some (v.den st.ρ)) := fun hn0 hv h S => by
    obtain ⟨e, he, ⟨hx, hk⟩, hev⟩ := ceLook_is hv
    obtain ⟨q1, q2⟩ := S.CE.cl e he (by unfold CE.dm; rw [hx]; exact hn0) hk
    rw [hev] at q2
    exact ⟨e.a, by rw [← hx]; exact q1, e.o, S.N.get (mR _ (mL _ (List.mem_map.mpr ⟨e, he, rfl⟩))), q2⟩
  unfold exName at H
  split at H
  · cases H
  · rename_i hd
    split at H
    · rename_i hk
      split at H
      · rename_i hcm
        split at H
        · rename_i v hv
          intro Q s z S hq
          exact wpAny_Name (wpAny_loadName_local O.kf (hko _ hk) (by rw [O.lo hcm]; exact S.F.ns) (frm_at hv) (hq _ _ _ _ H S (Ext.refl _))) hd
        · cases H
      · split at H
        · cases H
        rename_i hn0
        split at H
        · rename_i v hv
          obtain ⟨e, he, ⟨hx, hek⟩, hev⟩ := ceLook_is hv
          intro Q s z S hq
          obtain ⟨q1, m, q2, q3⟩ := S.CE.nm e he (by unfold CE.dm; rw [hx]; exact hn0) hek
          rw [hev, hx] at q3
          refine wpAny_Name (wpAny_loadName_local O.kf (hko _ hk) (m := m) ?_ q3 (hq _ _ _ _ H S (Ext.refl _))) hd
          rw [q1]
          exact q2.ns (S.N.get (mR _ (mL _ (List.mem_map.mpr ⟨e, he, rfl⟩))))
        · cases H
    · rename_i hk
      split at H
      · rename_i v hv
        intro Q s z S hq
        obtain ⟨p, loose, mg, mb, T⟩ := O.T
        refine Name_function_global O.kf (hko _ hk) ?_ hd
        rcases O.gl x v hv with h1 | ⟨h1, h2, h3⟩
        · exact loadGlobal_global (by rw [O.gg]; exact T.g.keeps S.F.keep) (mg_of O.X T.g h1) (hq (.v v) _ _ _ H S (Ext.refl _))
        · exact loadGlobal_builtin (by rw [O.gg]; exact T.g.keeps S.F.keep) (mg_none_of O.X T.g h1) (by rw [O.gb]; exact T.b.keeps S.F.keep) ((T.builtins x h3).trans h2) (hq (.v v) _ _ _ H S (Ext.refl _))
      · cases H
    · rename_i hk
      split at H
      · cases H
      rename_i hn0
      split at H
      · rename_i v hv
        intro Q s z S hq
        obtain ⟨a, q1, q2⟩ := cell hn0 hv S
        exact wpAny_Name (wpAny_loadName_cell O.kf (hko _ hk) q1 q2 (hq _ _ _ _ H S (Ext.refl _))) hd
      · cases H
    · rename_i hk
      split at H
      · cases H
      rename_i hn0
      have hn0 : (noName x || (x == ("__classdict__" : Str))) = false := hn0
      obtain ⟨hn1, hn2⟩ := Bool.or_eq_false_iff.mp hn0
      split at H
      · rename_i v hv
        intro Q s z S hq
        obtain ⟨a, q1, q2⟩ := cell hn1 hv S
        exact wpAny_Name (wpAny_loadName_free O.kf (hko _ hk) q1 q2 (hq _ _ _ _ H S (Ext.refl _)) hn2) hd
      · cases H
    · cases H
theorem star_is {e : Expr} {rest : List Expr} {env : Env} (h : noStar e = true) : starEach (e :: rest) env = (false, eval e env) :: starEach rest env := by cases e <;> first | rfl | cases h
set_option tactic.hygienic true in
theorem args_ok {ih : Expr → XS → (RV → XS → Prop) → Prop} (IH : ∀ e st K, ih e st K → Ev c (eval e c.env) st K) {pos : Pos} : ∀ {es : List Expr} {st : XS} {K : List RV → XS → Prop}, exArgs ih es st K → EvL c (spliced (backTo pos (starEach es c.env))) st K
  | [], _, _, H => fun _ _ z S hq => args_nil (hq [] _ _ _ H S (Ext.refl _))
  | e :: es, st, K, H => by
    unfold exArgs at H
    split at H
    · rename_i hs
      intro Q s z S hq
      refine args_cons (IH _ _ _ H _ s z S fun v st1 h1 tk1 H1 S1 p1 => ?_) (star_is hs)
      split at H1
      · rename_i hw
        refine args_ok IH H1 _ _ z.to S1 fun vs st2 h2 tk2 H2 S2 p2 => ?_
        have e1 : v.den st2.ρ = v.den st1.ρ := by
          obtain ⟨r, hr⟩ := p2.pre
          rw [← hr]
          exact RV.den_grow (Nat.le_of_eq S1.len.symm) r v hw
        have : Q (v.den st2.ρ :: vs.map (RV.den st2.ρ)) { s with heap := h2, toks := tk2 } := hq (v :: vs) st2 h2 tk2 H2 S2 (p1.trans p2)
        rw [e1] at this
        exact this
      · cases H1
    · cases H
end
end
section
noncomputable def okBase : Expr → Bool
  | .Call .. => false
  | _ => true
section
variable (xt : XT) (c : XC)
def hold (v : RV) (st : XS) (P : Prop) : Prop := match v.wf st.ob.length with
  | true => P
  | false => False
def exNew (o : RO) (st : XS) (K : RV → XS → Prop) : Prop := match st.wf && o.wf st.ob.length with
  | true => ∀ a, K (.r st.ob.length) (st.add a o)
  | false => False
noncomputable def one? {α : Type} : List α → Option α
  | [] => none
  | a :: l => match l with
    | [] => some a
    | _ :: _ => none
theorem one_is {α : Type} {l : List α} {a : α} (h : one? l = some a) : l = [a] := by
  cases l with
  | nil => exact none_no h
  | cons x l =>
    cases l with
    | nil => cases h; rfl
    | cons y l => exact none_no h
def exTwo (ih : Expr → XS → (RV → XS → Prop) → Prop) (ops : List CmpOp) (l : Expr) (rs : List Expr) (st : XS) (K : RV → XS → Prop) (dflt : Prop) : Prop := match one? ops, one? rs with
  | some op, some r => (match behindInMarks op r with
    | true => False
    | false => ih l st fun a st1 => hold a st1 (ih r st1 fun b st2 => exCmp c op a b st2 K))
  | _, _ => dflt
def exTBool (re : Expr → XS → (Bool → XS → Prop) → Prop) (op : BoolOp) (es : List Expr) (p : Pos) (st : XS) (K : Bool → XS → Prop) : Prop := match es with
  | [] => (match op with
    | .Or => K false st
    | .And => K true st)
  | x :: xs => (match op with
    | .Or => re x st fun b st1 => Ite b (K true st1) (re (.BoolOp .Or xs p) st1 K)
    | .And => re x st fun b st1 => Ite b (re (.BoolOp .And xs p) st1 K) (K false st1))
def exTNot (re : Expr → XS → (Bool → XS → Prop) → Prop) (op : UnaryOp) (x : Expr) (st : XS) (K : Bool → XS → Prop) : Prop := match op with
  | .Not => re x st fun b st1 => K (!b) st1
  | _ => False
noncomputable def exTest (ih : Expr → XS → (RV → XS → Prop) → Prop) : Nat → Expr → XS → (Bool → XS → Prop) → Prop
  | 0 => fun _ _ _ => False
  | n + 1 => fun e st K => match e with
    | .Compare l ops rs _ => exTwo c ih ops l rs st (fun v st3 => exTruth c v st3 K) False
    | .BoolOp op es p => exTBool (exTest ih n) op es p st K
    | .UnaryOp op x _ => exTNot (exTest ih n) op x st K
    | .Name x p => ih (.Name x p) st fun v st1 => exTruth c v st1 K
    | .Attribute o x p => ih (.Attribute o x p) st fun v st1 => exTruth c v st1 K
    | .Call f a k p => ih (.Call f a k p) st fun v st1 => exTruth c v st1 K
    | .Subscript o i p => ih (.Subscript o i p) st fun v st1 => exTruth c v st1 K
    | _ => False
def exConst (k : Const) (st : XS) (K : RV → XS → Prop) : Prop := match k with
  | .int i => ∀ t, K (.v (.int i t)) st
  | .str x => ∀ t, K (.v (.str x t)) st
  | .none => K (.v .none) st
  | .bool b => K (.v (.bool b)) st
  | _ => False
def exCallM (fin : Value → List RV → XS → (RV → XS → Prop) → Prop) (ih : Expr → XS → (RV → XS → Prop) → Prop) (o : Expr) (x : Str) (ap : Pos) (args : List Expr) (pos : Pos) (st : XS) (K : RV → XS → Prop) : Prop := match okBase o && Nat.ble args.length 3 && (ap.endLine == pos.line) && args.all noStar with
  | true => ih o st fun ov st1 => (match ov with
    | .v cv => (match classAttr cv x with
      | some f => exArgs ih args st1 fun vs st2 => fin f vs st2 K
      | none => False)
    | .r i => hold (.r i) st1 (exMeth xt (.r i) x st1 fun f => exArgs ih args st1 fun vs st2 => fin f (.r i :: vs) st2 K))
  | false => False
noncomputable def calleeOk (v : Value) : Bool := match v with
  | .ref a => xt.fs.contains a
  | .builtin _ => true
  | .type _ => true
  | _ => false
def exCallN (ih : Expr → XS → (RV → XS → Prop) → Prop) (g : Expr) (args : List Expr) (st : XS) (K : RV → XS → Prop) : Prop := match args.all noStar with
  | true => ih g st fun fv st1 => (match fv with
    | .v f => (match calleeOk xt f with
      | true => exArgs ih args st1 fun vs st2 => DoC c f vs st2 K
      | false => False)
    | .r _ => False)
  | false => False
def exCall (ih : Expr → XS → (RV → XS → Prop) → Prop) (f : Expr) (args : List Expr) (kws : List Keyword) (pos : Pos) (st : XS) (K : RV → XS → Prop) : Prop := match kws with
  | [] => (match f with
    | .Attribute o x ap => exCallM xt (DoC c) ih o x ap args pos st K
    | .Name x p => exCallN xt c ih (.Name x p) args st K
    | .Subscript o i p => exCallN xt c ih (.Subscript o i p) args st K
    | _ => Do c (eval (.Call f args [] pos) c.env) st K)
  | _ :: _ => Do c (eval (.Call f args kws pos) c.env) st K
def exDict0 (st : XS) (K : RV → XS → Prop) : Prop := match st.wf with
  | true => ∀ a o, (a == sysModules) = false → o.IsDictOf (strKind c.prog c.w) [] → K (.r st.ob.length) (st.add a (.raw o))
  | false => False
def exE1 (ih : Expr → XS → (RV → XS → Prop) → Prop) (it : Expr → XS → (Bool → XS → Prop) → Prop) (e : Expr) (st : XS) (K : RV → XS → Prop) : Prop := match e with
  | .Name x _ => exName xt x st K
  | .Constant k _ _ => exConst k st K
  | .BinOp l op r _ => ih l st fun a st1 => hold a st1 (ih r st1 fun b st2 => exBin c op a b st2 K)
  | .Compare l ops rs p => exTwo c ih ops l rs st K (Do c (eval (.Compare l ops rs p) c.env) st K)
  | .Attribute o attr _ => (match okBase o with
    | true => ih o st fun ov st1 => exAttr xt c ov attr st1 K
    | false => False)
  | .Subscript v sl _ => ih v st fun o st1 => hold o st1 (ih sl st1 fun i st2 => exSub c v sl o i st2 K)
  | .Tuple es _ _ => exArgs ih es st fun vs st1 => (match Nat.ble vs.length 1000 with
    | true => exNew (.tup vs) st1 K
    | false => False)
  | .List es _ => exArgs ih es st fun vs st1 => (match Nat.ble vs.length 1000 with
    | true => exNew (.lst (vs.map (RV.den st1.ρ)) 0) st1 K
    | false => False)
  | .Dict ks vs p => (match ks.isEmpty && vs.isEmpty with
    | true => exDict0 c st K
    | false => Do c (eval (.Dict ks vs p) c.env) st K)
  | .UnaryOp op x _ => ih x st fun a st1 => exUn c op a st1 K
  | .IfExp test body orelse _ => it test st fun b st1 => Ite b (ih body st1 K) (ih orelse st1 K)
  | .Call f args kws pos => exCall xt c ih f args kws pos st K
  | e => Do c (eval e c.env) st K
noncomputable def exE : Nat → Expr → XS → (RV → XS → Prop) → Prop
  | 0 => fun _ _ _ => False
  | n + 1 => exE1 xt c (exE n) (exTest c (exE n) n)
def exStore (x : Str) (v : RV) (st : XS) (K : Unit → XS → Prop) : Prop := match xt.cs.names.lookup x with
  | some .local => (match xt.cm with
    | false => K () (st.put x v)
    | true => False)
  | some .cell => (match !noName x && ceHas x st.ce with
    | true => ∀ o, K () (st.putC x v o)
    | false => False)
  | _ => DoU c (storeName c.env x (v.den st.ρ)) st K
noncomputable def nameE : Expr → Option (Str × Pos)
  | .Name x p => some (x, p)
  | _ => none
noncomputable def namesOf : List Expr → Option (List Str)
  | [] => some []
  | e :: r => match nameE e, namesOf r with
    | some (x, _), some ns => some (x :: ns)
    | _, _ => none
noncomputable def exStores : List Str → List RV → XS → (Unit → XS → Prop) → Prop
  | x :: xs, v :: vs, st, K => exStore xt c x v st fun _ st1 => exStores xs vs st1 K
  | _, _, st, K => K () st
noncomputable def noTup : Expr → Bool
  | .Tuple .. | .List .. => false
  | _ => true
noncomputable def tupRV (v : RV) (st : XS) : Option (List RV) := match v with
  | .r i => (match st.ob[i]? with
    | some (.tup vs) => some vs
    | _ => none)
  | .v _ => none
noncomputable def soleCall : Expr → Option (Expr × Str × Pos × Pos)
  | .Call (.Attribute o a ap) [] [] pos => some (o, a, ap, pos)
  | _ => none
def exAsg (ihE : Expr → XS → (RV → XS → Prop) → Prop) (t value : Expr) (p : Pos) (st : XS) (K : RF → XS → Prop) : Prop := match noComp value with
  | false => DoF c (exec (.Assign [t] value p) c.env) st K
  | true => (match t with
    | .Name x _ => (match soleCall value with
      | some (o, a, ap, pos) => exCallM xt (DoCR c) ihE o a ap [] pos st fun v st1 => exStore xt c x v st1 fun _ st2 => K .next st2
      | none => ihE value st fun v st1 => exStore xt c x v st1 fun _ st2 => K .next st2)
    | .Attribute o attr _ => ihE value st fun v st1 => hold v st1 (ihE o st1 fun ov st2 => exSet xt c ov attr v st2 fun _ st3 => K .next st3)
    | .Subscript o i _ => ihE value st fun v st1 => hold v st1 (ihE o st1 fun ov st2 => hold v st2 (hold ov st2 (ihE i st2 fun iv st3 => DoU c (setItem (ov.den st3.ρ) (iv.den st3.ρ) (v.den st3.ρ)) st3 fun _ st4 => K .next st4)))
    | .Tuple elts k p' => (match noTup value, namesOf elts with
      | true, some names => ihE value st fun v st1 => (match tupRV v st1 with
        | some vs => (match Nat.beq names.length vs.length && vs.all (RV.wf st1.ob.length) with
          | true => exStores xt c names vs st1 fun _ st2 => K .next st2
          | false => False)
        | none => False)
      | _, _ => DoF c (exec (.Assign [.Tuple elts k p'] value p) c.env) st K)
    | t => DoF c (exec (.Assign [t] value p) c.env) st K)
def exAug (ihE : Expr → XS → (RV → XS → Prop) → Prop) (t : Expr) (op : Operator) (value : Expr) (p : Pos) (st : XS) (K : RF → XS → Prop) : Prop := match t with
  | .Name x _ => (match xt.cs.names.lookup x with
    | some .local => (match xt.cm with
      | false => (match st.fr.lookup x with
        | some old => hold old st (ihE value st fun v st1 => exInp c op old v st1 fun r st2 => exStore xt c x r st2 fun _ st3 => K .next st3)
        | none => False)
      | true => False)
    | _ => False)
  | .Attribute o attr _ => ihE o st fun ov st1 => hold ov st1 (exAttr xt c ov attr st1 fun old st2 => hold old st2 (hold ov st2 (ihE value st2 fun v st3 => exInp c op old v st3 fun r st4 => hold ov st4 (exSet xt c ov attr r st4 fun _ st5 => K .next st5))))
  | t => DoF c (exec (.AugAssign t op value p) c.env) st K
def exS1 (ihE : Expr → XS → (RV → XS → Prop) → Prop) (ihT : Expr → XS → (Bool → XS → Prop) → Prop) (ihS : List Stmt → XS → (RF → XS → Prop) → Prop) (s : Stmt) (st : XS) (K : RF → XS → Prop) : Prop := match s with
  | .If test body orelse _ => ihT test st fun b st1 => Ite b (ihS body st1 K) (ihS orelse st1 K)
  | .Assign ts value p => (match one? ts with
    | some t => exAsg xt c ihE t value p st K
    | none => DoF c (exec (.Assign ts value p) c.env) st K)
  | .AugAssign t op value p => exAug xt c ihE t op value p st K
  | .Return e p => (match e with
    | none => K (.ret (.v .none)) st
    | some e => ihE e st fun v st1 => K (.ret v) st1)
  | .Break _ => K .brk st
  | .Continue _ => K .cont st
  | .Pass _ => K .next st
  | .Expr e p => (match noComp e with
    | true => ihE e st fun _ st1 => K .next st1
    | false => DoF c (exec (.Expr e p) c.env) st K)
  | .For t iter body orelse p => (match t, orelse with
    | .Name x px, [] => (match notSet iter && !xt.cm, xt.cs.names.lookup x with
      | true, some .local => ihE iter st fun v st1 => DoI c x body v st1 K
      | _, _ => DoF c (exec (.For (.Name x px) iter body [] p) c.env) st K)
    | t, orelse => DoF c (exec (.For t iter body orelse p) c.env) st K)
  | s => DoF c (exec s c.env) st K
noncomputable def exS : Nat → List Stmt → XS → (RF → XS → Prop) → Prop
  | 0, _, _, _ => False
  | _ + 1, [], st, K => K .next st
  | n + 1, s :: rest, st, K => exS1 xt c (exE xt c n) (exTest c (exE xt c n) n) (exS n) s st fun f st1 => match f with
    | .next => exS n rest st1 K
    | f => K f st1
end
section
variable {c : XC} {xt : XT}
set_option tactic.hygienic true in
theorem hold_is {v : RV} {st : XS} {P : Prop} (h : hold v st P) : v.wf st.ob.length = true ∧ P := by
  unfold hold at h
  split at h
  · exact ⟨‹_›, h⟩
  · cases h
theorem held {v : RV} {st st2 : XS} {h : Heap} (S : Sat c st h) (hw : v.wf st.ob.length = true) (p : Ext st st2) : v.den st2.ρ = v.den st.ρ := by
  obtain ⟨r, hr⟩ := p.pre
  rw [← hr]
  exact RV.den_grow (Nat.le_of_eq S.len.symm) r v hw
theorem EvR.thenR {α β : Type} {Rel : XS → XS → Prop} {d : List Addr → β → α} {t : Sem α} {st st0 : XS} {K : β → XS → Prop} (H : EvR c Rel d t st K) {Q : α → Shared → Prop} {s : Shared} {h : Heap} {tk : Nat} (z : Rest c { s with heap := h, toks := tk }) (S : Sat c st h) (p : Rel st0 st)
    (hq : ∀ v st' h' tk', K v st' → Sat c st' h' → Rel st0 st' → Q (d st'.ρ v) { s with heap := h', toks := tk' }) (tr : ∀ {a b d : XS}, Rel a b → Rel b d → Rel a d) : wpAny (model c.prog c.w) c.A t Q c.E { s with heap := h, toks := tk } :=
  H Q { s with heap := h, toks := tk } z S fun v st' h' tk' hk S' p' => hq v st' h' tk' hk S' (tr p p')
theorem EvR.then {α β : Type} {d : List Addr → β → α} {t : Sem α} {st st0 : XS} {K : β → XS → Prop} (H : EvR c Ext d t st K) {Q : α → Shared → Prop} {s : Shared} {h : Heap} {tk : Nat} (z : Rest c { s with heap := h, toks := tk }) (S : Sat c st h) (p : Ext st0 st)
    (hq : ∀ v st' h' tk', K v st' → Sat c st' h' → Ext st0 st' → Q (d st'.ρ v) { s with heap := h', toks := tk' }) : wpAny (model c.prog c.w) c.A t Q c.E { s with heap := h, toks := tk } :=
  H.thenR z S p hq Ext.trans
theorem EvF.then {t : Sem Flow} {st st0 : XS} {K : RF → XS → Prop} (H : EvF c t st K) {Q : Flow → Shared → Prop} {s : Shared} {h : Heap} {tk : Nat} (z : Rest c { s with heap := h, toks := tk }) (S : Sat c st h) (p : ExtP c.pin st0 st)
    (hq : ∀ f st' h' tk', K f st' → Sat c st' h' → ExtP c.pin st0 st' → Q (f.den st'.ρ) { s with heap := h', toks := tk' }) : wpAny (model c.prog c.w) c.A t Q c.E { s with heap := h, toks := tk } :=
  EvR.thenR H z S p hq ExtP.trans
theorem two_ok {ih : Expr → XS → (RV → XS → Prop) → Prop} (IH : ∀ e st K, ih e st K → Ev c (eval e c.env) st K) {l r : Expr} {f : Value → Value → Sem Value} {st : XS} {K : RV → XS → Prop} {g : RV → RV → XS → (RV → XS → Prop) → Prop}
    (G : ∀ a b st, g a b st K → Ev c (f (a.den st.ρ) (b.den st.ρ)) st K) (H : ih l st fun a st1 => hold a st1 (ih r st1 fun b st2 => g a b st2 K)) {Q : Value → Shared → Prop} {s : Shared} (z : Rest c s) (S : Sat c st s.heap)
    (hq : ∀ v st' h' tk', K v st' → Sat c st' h' → Ext st st' → Q (v.den st'.ρ) { s with heap := h', toks := tk' }) :
    wpAny (model c.prog c.w) c.A (eval l c.env) (fun a s₁ => wpAny (model c.prog c.w) c.A (eval r c.env) (fun b s₂ => wpAny (model c.prog c.w) c.A (f a b) Q c.E s₂) c.E s₁) c.E s := by
  refine IH _ _ _ H _ s z S fun a st1 h1 tk1 H1 S1 p1 => ?_
  obtain ⟨hw, H1⟩ := hold_is H1
  refine IH _ _ _ H1 _ _ z.to S1 fun b st2 h2 tk2 H2 S2 p2 => ?_
  rw [← held S1 hw p2]
  exact (G a b st2 H2).then z.to S2 (p1.trans p2) hq
set_option tactic.hygienic true in
theorem new_ok {o : RO} {st : XS} {K : RV → XS → Prop} (H : exNew o st K) {Q : Value → Shared → Prop} {s : Shared} (S : Sat c st s.heap)
    (hq : ∀ v st' h' tk', K v st' → Sat c st' h' → Ext st st' → Q (v.den st'.ρ) { s with heap := h', toks := tk' })
    {a : Addr} {h' : Heap} (F : Fr c.h₀ c.L h' (frm st)) (N : News c.h₀ c.L h' ((a, o.den st.ρ) :: led st)) (l : ∀ p ∈ led st, p.1 < a) (tk : Nat) : Q (.ref a) { s with heap := h', toks := tk } := by
  unfold exNew at H
  split at H
  · rename_i hw
    obtain ⟨hw, ho⟩ := bA hw
    have := hq _ _ h' tk (H a) (S.add hw F (by rw [RO.den_grow (Nat.le_of_eq S.len.symm) [a] o ho]; exact N) l) Ext.add
    have e : RV.den (st.add a o).ρ (.r st.ob.length) = .ref a := by
      show Value.ref _ = Value.ref a
      show Value.ref ((st.ρ ++ [a]).getD st.ob.length 0) = _
      rw [← S.len]; simp
    rw [e] at this
    exact this
  · cases H
end
end
section
section
variable {c : XC} {xt : XT}
theorem any_star {pos : Pos} {env : Env} : ∀ {es : List Expr}, es.all noStar = true → (backTo pos (starEach es env)).any (fun x => x.fst) = false
  | [], _ => rfl
  | e :: es, h => by
    obtain ⟨h1, h2⟩ := bA (by simpa only [List.all_cons] using h)
    rw [star_is h1]
    show (false || (backTo pos (starEach es env)).any _) = false
    rw [any_star h2]; rfl
theorem swap_no {v : Expr} {t : Option Expr} {n : Nat} {env : Env} (h : noComp v = true) : swapsWith v t n env = pure false := by cases v <;> first | rfl | cases h
noncomputable def isPlain : Expr → Bool
  | .BoolOp .. => false
  | _ => true
theorem plain_test {ih : Expr → XS → (RV → XS → Prop) → Prop} (IH : ∀ e st K, ih e st K → Ev c (eval e c.env) st K) {e : Expr} {st : XS} {K : Bool → XS → Prop} (H : ih e st fun v st1 => exTruth c v st1 K)
    (he : PySem.isTrue e c.env (eval e c.env) = (do let v ← eval e c.env; standAt e.pos; holding [v] (truthy v))) : EvB c (PySem.isTrue e c.env (eval e c.env)) st K := fun _ s z S hq =>
  isTrue_plain (IH _ _ _ H _ s z S fun _ _ _ _ H1 S1 p1 => (truth_ok H1).then z.to S1 p1 hq) he
def TestG (c : XC) (e : Expr) (st : XS) (K : Bool → XS → Prop) : Prop := ∀ whole, (isPlain e = true → whole = eval e c.env) → EvB c (PySem.isTrue e c.env whole) st K
set_option tactic.hygienic true in
theorem test_ok {ih : Expr → XS → (RV → XS → Prop) → Prop} (IH : ∀ e st K, ih e st K → Ev c (eval e c.env) st K) : ∀ (n : Nat) (e : Expr) (st : XS) (K : Bool → XS → Prop), exTest c ih n e st K → TestG c e st K
  | 0, _, _, _, H => by cases H
  | n + 1, e, st, K, H => by
    have R : ∀ e st K, exTest c ih n e st K → ∀ whole, (isPlain e = true → whole = eval e c.env) → EvB c (PySem.isTrue e c.env whole) st K := test_ok IH n
    cases e with
    | Compare l ops rs p =>
      intro whole hwh
      have H : exTwo c ih ops l rs st (fun v st3 => exTruth c v st3 K) False := H
      unfold exTwo at H
      split at H
      · rename_i op r h1 h2
        rw [one_is h1, one_is h2]
        split at H
        · cases H
        · rename_i hb
          intro Q s z S hq
          refine wpAny_isTrue_Compare1 (IH _ _ _ H _ s z S fun a st1 h1 tk1 H1 S1 p1 => ?_) hb
          obtain ⟨hw, H1⟩ := hold_is H1
          refine IH _ _ _ H1 _ _ z.to S1 fun b st2 h2 tk2 H2 S2 p2 => ?_
          rw [← held S1 hw p2]
          refine (cmp_ok H2).then z.to S2 (p1.trans p2) fun v st3 h3 tk3 H3 S3 p3 => ?_
          exact (truth_ok H3).then z.to S3 p3 hq
      · cases H
    | BoolOp op es p =>
      intro whole hwh Q s z S hq
      have H : exTBool (exTest c ih n) op es p st K := H
      cases es with
      | nil => cases op with
        | Or => exact isTrue_or_nil (hq _ _ _ _ (show K false st from H) S (Ext.refl _))
        | And => exact isTrue_and_nil (hq _ _ _ _ (show K true st from H) S (Ext.refl _))
      | cons x xs => cases op with
        | Or =>
          have H : exTest c ih n x st fun b st1 => Ite b (K true st1) (exTest c ih n (.BoolOp .Or xs p) st1 K) := H
          refine isTrue_or (R _ _ _ H _ (fun _ => rfl) _ s z S fun b st1 h1 tk1 H1 S1 p1 => ?_)
          cases b with
          | true => rw [if_pos rfl]; exact hq _ _ _ _ (H1.yes rfl) S1 p1
          | false => rw [if_neg (by simp)]; exact (R _ _ _ (H1.no rfl) _ (fun q => nomatch q)).then z.to S1 p1 hq
        | And =>
          have H : exTest c ih n x st fun b st1 => Ite b (exTest c ih n (.BoolOp .And xs p) st1 K) (K false st1) := H
          refine isTrue_and (R _ _ _ H _ (fun _ => rfl) _ s z S fun b st1 h1 tk1 H1 S1 p1 => ?_)
          cases b with
          | true => rw [if_pos rfl]; exact (R _ _ _ (H1.yes rfl) _ (fun q => nomatch q)).then z.to S1 p1 hq
          | false => rw [if_neg (by simp)]; exact hq _ _ _ _ (H1.no rfl) S1 p1
    | UnaryOp op x p =>
      have H : exTNot (exTest c ih n) op x st K := H
      cases op with
      | Not => exact fun _ _ Q s z S hq => isTrue_not (R _ _ _ H _ (fun _ => rfl) _ s z S fun b st1 h1 tk1 H1 S1 p1 => hq (!b) st1 h1 tk1 H1 S1 p1)
      | _ => cases H
    | Name x p => exact fun _ hwh => hwh rfl ▸ plain_test IH H rfl
    | Attribute o x p => exact fun _ hwh => hwh rfl ▸ plain_test IH H rfl
    | Call f a k p => exact fun _ hwh => hwh rfl ▸ plain_test IH H rfl
    | Subscript o i p => exact fun _ hwh => hwh rfl ▸ plain_test IH H rfl
    | _ => exact False.elim H
theorem meth_eq {o : Expr} {x : Str} {ap pos : Pos} {args : List Expr} {env : Env} (h1 : okBase o = true) (h2 : args.all noStar = true) (h3 : Nat.ble args.length 3 = true) (h4 : (ap.endLine == pos.line) = true) : eval (.Call (.Attribute o x ap) args [] pos) env = (do
      let ov ← eval o env
      standAt ap.atName
      let (f, first) ← holding [ov] (getMethod ov x (do return (← importBound o env).getD true))
      callWith pos f first (backTo pos (starEach args env)) []) := by
  have ab : attributeBase o x env (eval o env) = eval o env := by cases o <;> first | rfl | cases h1
  have fm : methodCallForm (args.length + ([] : List Keyword).length) (backTo pos (starEach args env)) (backToKw pos (keywordEach [] env)) = true := by
    have hs := any_star (pos := pos) (env := env) h2
    have hl : args.length ≤ 3 := Nat.le_of_ble_eq_true h3
    have ha : (backTo pos (starEach args env)).all (fun x => !x.1) = true := by
      rw [List.all_eq_true]
      intro y hy
      have := List.any_eq_false.mp hs y hy
      simpa using this
    unfold methodCallForm
    rw [ha]
    show (true && true && decide (args.length + 0 + 0 < 30)) = true
    simp; lia
  show (do
    let ov ← attributeBase o x env (eval o env)
    standAt ap.atName
    methodCall o x ap pos env ov (args.length + ([] : List Keyword).length) (backTo pos (starEach args env)) (backToKw pos (keywordEach [] env))) = _
  rw [ab]
  unfold methodCall
  rw [fm]
  unfold calleeOf methodCallPos
  rw [h4]
  rfl
theorem attr_eq {o : Expr} {x : Str} {pos : Pos} {env : Env} (h1 : okBase o = true) : eval (.Attribute o x pos) env = (do
      let ov ← eval o env
      standAt pos.atName
      let r ← holding [ov] (getAttr ov x true)
      letTemporaryGo o ov r
      pure r) := by
  have ab : attributeBase o x env (eval o env) = eval o env := by cases o <;> first | rfl | cases h1
  show (do
    let ov ← attributeBase o x env (eval o env)
    standAt pos.atName
    let r ← holding [ov] (getAttr ov x true)
    letTemporaryGo o ov r
    pure r) = _
  rw [ab]
theorem callWith_typeN {M : Model} {A : Around} {E : Value → Shared → Prop} {s : Shared} {env : Env} {pos : Pos} {T : String} {e : Expr} {rest : List Expr} {Q : Value → Shared → Prop} (h : wpAny M A (spliced (backTo pos (starEach (e :: rest) env))) (fun vs s₁ => wpAny M A (call (.type T) vs) Q E s₁) E s)
    (he : starEach (e :: rest) env = (false, eval e env) :: starEach rest env) (hplain : (backTo pos (starEach rest env)).any (·.1) = false) : wpAny M A (callWith pos (.type T) [] (backTo pos (starEach (e :: rest) env)) []) Q E s := by
  rw [he] at h ⊢
  exact PyProof.Rows.callWith_type (by show (false || (backTo pos (starEach rest env)).any (·.1)) = false; rw [hplain]; rfl) (evalArgs_plain h)
set_option tactic.hygienic true in
theorem callN_ok (O : c.Ok xt) {ih : Expr → XS → (RV → XS → Prop) → Prop} (IH : ∀ e st K, ih e st K → Ev c (eval e c.env) st K) {g : Expr} {pos : Pos} {args : List Expr} {st : XS} {K : RV → XS → Prop} (H : exCallN xt c ih g args st K)
    (he : eval (.Call g args [] pos) c.env = (do callWith pos (← eval g c.env) [] (backTo pos (starEach args c.env)) (backToKw pos (keywordEach [] c.env)))) : Ev c (eval (.Call g args [] pos) c.env) st K := by
  unfold exCallN at H
  split at H
  · rename_i hst
    intro Q s z S hq
    refine Call_ (IH _ _ _ H _ s z S fun fv st1 h1 tk1 H1 S1 p1 => ?_) he
    split at H1
    · rename_i f
      split at H1
      · rename_i hk
        cases args with
        | nil =>
          have H2 : DoC c f [] st1 K := H1
          cases f with
          | ref a => exact callWith_K0 (O.X.keeps S1.F.keep) (O.fs _ hk) (H2.run.then z.to S1 p1 hq)
          | builtin id => exact callWith_method0 (H2.run.then z.to S1 p1 hq)
          | type T => exact PyProof.Rows.callWith_type (args := backTo pos (starEach [] c.env)) rfl (PyProof.Rows.evalArgs_none (H2.run.then z.to S1 p1 hq))
          | _ => exact ft_no hk
        | cons e es =>
          obtain ⟨hs1, hs2⟩ := bA (by simpa only [List.all_cons] using hst)
          cases f with
          | ref a => exact callWith_K O.X (O.fs _ hk) (args_ok IH H1 _ _ z.to S1 fun vs st2 h2 tk2 H2 S2 p2 => ⟨O.X.keeps S2.F.keep, H2.run.then z.to S2 (p1.trans p2) hq⟩) (star_is hs1) (any_star hs2)
          | builtin id => exact callWith_builtin1 (args_ok IH H1 _ _ z.to S1 fun vs st2 h2 tk2 H2 S2 p2 => H2.run.then z.to S2 (p1.trans p2) hq) (star_is hs1) (any_star hs2)
          | type T => exact callWith_typeN (args_ok IH H1 _ _ z.to S1 fun vs st2 h2 tk2 H2 S2 p2 => H2.run.then z.to S2 (p1.trans p2) hq) (star_is hs1) (any_star hs2)
          | _ => exact ft_no hk
      · cases H1
    · cases H1
  · cases H
set_option tactic.hygienic true in
theorem callM_ok (O : c.Ok xt) {ih : Expr → XS → (RV → XS → Prop) → Prop} (IH : ∀ e st K, ih e st K → Ev c (eval e c.env) st K) {o : Expr} {x : Str} {ap pos : Pos} {args : List Expr} {st : XS} {K : RV → XS → Prop} {Rel : XS → XS → Prop} {fin : Value → List RV → XS → (RV → XS → Prop) → Prop} (FIN : ∀ f vs st K, fin f vs st K → EvR c Rel RV.den (call f (vs.map (RV.den st.ρ))) st K) (rel : ∀ {a b : XS}, Ext a b → Rel a b) (tr : ∀ {a b d : XS}, Rel a b → Rel b d → Rel a d)
    (H : exCallM xt fin ih o x ap args pos st K) : EvR c Rel RV.den (eval (.Call (.Attribute o x ap) args [] pos) c.env) st K := by
  unfold exCallM at H
  split at H
  · rename_i hall
    obtain ⟨hall, hst⟩ := bA hall
    obtain ⟨hall, hln⟩ := bA hall
    obtain ⟨hob, hln3⟩ := bA hall
    intro Q s z S hq
    refine MethodCall_ (pl := do return (← importBound o c.env).getD true) (IH _ _ _ H _ s z S fun ov st1 h1 tk1 H1 S1 p1 => ?_) (meth_eq hob hst hln3 hln)
    split at H1
    · rename_i cv
      split at H1
      · rename_i f hf
        obtain ⟨g1, g2⟩ := O.ca cv x f hf
        refine g2 _ _ _ { s with heap := h1, toks := tk1 } _ _ _ _ S1.F O.X ?_
        cases args with
        | nil =>
          have H3 : fin f [] st1 K := H1
          rcases g1 with ⟨id, rfl⟩ | g1
          · exact callWith_method0 ((FIN _ _ _ _ H3).thenR z.to S1 (rel p1) hq tr)
          · exact callWith_K0 (O.X.keeps S1.F.keep) g1 ((FIN _ _ _ _ H3).thenR z.to S1 (rel p1) hq tr)
        | cons e es =>
          obtain ⟨hs1, hs2⟩ := bA (by simpa only [List.all_cons] using hst)
          rcases g1 with ⟨id, rfl⟩ | g1
          · exact callWith_method1 (args_ok IH H1 _ _ z.to S1 fun vs st2 h2 tk2 H3 S2 p2 => (FIN _ _ _ _ H3).thenR z.to S2 (rel (p1.trans p2)) hq tr) (star_is hs1) (any_star hs2)
          · exact callWith_K O.X g1 (args_ok IH H1 _ _ z.to S1 fun vs st2 h2 tk2 H3 S2 p2 => ⟨O.X.keeps S2.F.keep, (FIN _ _ _ _ H3).thenR z.to S2 (rel (p1.trans p2)) hq tr⟩) (star_is hs1) (any_star hs2)
      · cases H1
    rename_i i
    generalize hov : RV.r i = ov at H1 ⊢
    obtain ⟨hw, H1⟩ := hold_is H1
    refine meth_ok O H1 (s := { s with heap := h1, toks := tk1 }) S1 fun f H2 hf => ?_
    have tail : ∀ (vs : List RV) (st2 : XS) (h2 : Heap) (tk2 : Nat), fin f (ov :: vs) st2 K → Sat c st2 h2 → Ext st1 st2 → wpAny (model c.prog c.w) c.A (call f ([ov.den st1.ρ] ++ vs.map (RV.den st2.ρ))) Q c.E { s with heap := h2, toks := tk2 } := fun vs st2 h2 tk2 H3 S2 p2 => by
      rw [← held S1 hw p2]
      exact (FIN _ _ _ _ H3).thenR z.to S2 (rel (p1.trans p2)) hq tr
    cases args with
    | nil =>
      have H3 : fin f [ov] st1 K := H2
      rcases hf with hf | ⟨id, rfl⟩
      · exact callWith_K0 (O.X.keeps S1.F.keep) hf (tail [] st1 h1 tk1 H3 S1 (Ext.refl _))
      · exact callWith_method0 (tail [] st1 h1 tk1 H3 S1 (Ext.refl _))
    | cons e es =>
      obtain ⟨hs1, hs2⟩ := bA (by simpa only [List.all_cons] using hst)
      rcases hf with hf | ⟨id, rfl⟩
      · exact callWith_K O.X hf (args_ok IH H2 _ _ z.to S1 fun vs st2 h2 tk2 H3 S2 p2 => ⟨O.X.keeps S2.F.keep, tail vs st2 h2 tk2 H3 S2 p2⟩) (star_is hs1) (any_star hs2)
      · exact callWith_method1 (args_ok IH H2 _ _ z.to S1 fun vs st2 h2 tk2 H3 S2 p2 => tail vs st2 h2 tk2 H3 S2 p2) (star_is hs1) (any_star hs2)
  · cases H
set_option tactic.hygienic true in
theorem e1_ok (O : c.Ok xt) {ih : Expr → XS → (RV → XS → Prop) → Prop} {it : Expr → XS → (Bool → XS → Prop) → Prop} (IH : ∀ e st K, ih e st K → Ev c (eval e c.env) st K) (IT : ∀ e st K, it e st K → EvB c (PySem.isTrue e c.env (eval e c.env)) st K) (e : Expr) (st : XS) (K : RV → XS → Prop) (H : exE1 xt c ih it e st K) : Ev c (eval e c.env) st K := by
  cases e with
  | Name x p => exact name_ok O H
  | Constant k _ _ =>
    have H : exConst k st K := H
    intro Q s z S hq
    cases k with
    | int i => exact PySem.wpAny_Constant_int (hq _ _ _ _ ((show ∀ t, K (.v (.int i t)) st from H) _) S (Ext.refl _))
    | str x => exact PySem.Calls.Constant_str (hq _ _ _ _ ((show ∀ t, K (.v (.str x t)) st from H) _) S (Ext.refl _))
    | none => exact PySem.wpAny_Constant_none (hq _ _ _ _ (show K (.v .none) st from H) S (Ext.refl _))
    | bool b => exact PySem.wpAny_Constant_bool (hq _ _ _ _ (show K (.v (.bool b)) st from H) S (Ext.refl _))
    | _ => cases H
  | BinOp l op r p => intro Q s z S hq; exact wpAny_BinOp (two_ok IH (fun _ _ _ h => bin_ok h) (g := fun a b st K => exBin c op a b st K) H z S hq)
  | Compare l ops rs p =>
    have H : exTwo c ih ops l rs st K (Do c (eval (.Compare l ops rs p) c.env) st K) := H
    unfold exTwo at H
    split at H
    · rename_i op r h1 h2
      rw [one_is h1, one_is h2]
      split at H
      · cases H
      · rename_i hb
        intro Q s z S hq; exact wpAny_Compare1 (two_ok IH (fun _ _ _ h => cmp_ok h) H z S hq) hb
    · exact H.run
  | Attribute o x p =>
    have H : (match okBase o with | true => ih o st fun ov st1 => exAttr xt c ov x st1 K | false => False) := H
    split at H
    · rename_i hob
      intro Q s z S hq
      refine Attribute_any_ (IH _ _ _ H _ s z S fun o st1 h1 tk1 H1 S1 p1 => ?_) (attr_eq hob)
      exact (attr_ok O H1).then z.to S1 p1 hq
    · cases H
  | Subscript v sl p => intro Q s z S hq; exact Subscript_ (two_ok IH (fun _ _ _ h => sub_ok h) (g := fun o i st K => exSub c v sl o i st K) H z S hq)
  | Tuple es k p =>
    intro Q s z S hq
    have H : exArgs ih es st fun vs st1 => (match Nat.ble vs.length 1000 with | true => exNew (.tup vs) st1 K | false => False) := H
    refine Tuple_ (args_ok IH H _ s z S fun vs st1 h1 tk1 H1 S1 p1 => ?_)
    split at H1
    · rename_i hl
      refine kup_newTuple S1.F S1.N (fun D h' F' N' l => ?_) ?_
      · exact new_ok (s := { s with heap := h1, toks := tk1 }) H1 S1 (fun v st' h' tk' hk S' p' => hq v st' h' tk' hk S' (p1.trans p')) F' N' l tk1
      · rw [List.length_map, PySem.sizeLine_eq]; exact Nat.le_trans (Nat.le_of_ble_eq_true hl) (by decide)
    · cases H1
  | List es p =>
    intro Q s z S hq
    have H : exArgs ih es st fun vs st1 => (match Nat.ble vs.length 1000 with | true => exNew (.lst (vs.map (RV.den st1.ρ)) 0) st1 K | false => False) := H
    refine List_ (args_ok IH H _ s z S fun vs st1 h1 tk1 H1 S1 p1 => ?_)
    split at H1
    · rename_i hl
      refine newList_K S1.F S1.N (fun D h' F' N' l => ?_) ?_
      · exact new_ok (s := { s with heap := h1, toks := tk1 }) H1 S1 (fun v st' h' tk' hk S' p' => hq v st' h' tk' hk S' (p1.trans p')) F' N' l tk1
      · rw [List.length_map, PySem.sizeLine_eq]; exact Nat.le_trans (Nat.le_of_ble_eq_true hl) (by decide)
    · cases H1
  | Dict ks vs p =>
    have H : (match ks.isEmpty && vs.isEmpty with | true => exDict0 c st K | false => Do c (eval (.Dict ks vs p) c.env) st K) := H
    split at H
    · rename_i he
      obtain ⟨h1, h2⟩ := bA he
      rw [List.isEmpty_iff.mp h1, List.isEmpty_iff.mp h2]
      unfold exDict0 at H
      split at H
      · rename_i hw
        intro Q s z S hq
        obtain ⟨p, loose, mg, mb, T⟩ := O.T
        refine newDict_K S.F S.N T.nolimit fun d h' o F' N' l lo hs _ _ _ => ?_
        have := hq _ _ h' s.toks (H d o lo hs) (S.add hw F' (o := .raw o) N' l) Ext.add
        have e : RV.den (st.add d (.raw o)).ρ (.r st.ob.length) = .ref d := by
          show Value.ref ((st.ρ ++ [d]).getD st.ob.length 0) = _
          rw [← S.len]; simp
        rw [e] at this
        exact this
      · cases H
    · exact H.run
  | UnaryOp op x p => intro Q s z S hq; exact UnaryOp_ (IH _ _ _ (show ih x st fun a st1 => exUn c op a st1 K from H) _ s z S fun v st1 h1 tk1 H1 S1 p1 => (un_ok H1).then z.to S1 p1 hq)
  | IfExp test body orelse p =>
    intro Q s z S hq
    have H : it test st fun b st1 => Ite b (ih body st1 K) (ih orelse st1 K) := H
    refine IfExp_ (IT _ _ _ H _ s z S fun b st1 h1 tk1 H1 S1 p1 => ?_)
    cases b with
    | true => rw [if_pos rfl]; exact (IH _ _ _ (H1.yes rfl)).then z.to S1 p1 hq
    | false => rw [if_neg (by simp)]; exact (IH _ _ _ (H1.no rfl)).then z.to S1 p1 hq
  | Call f args kws pos =>
    cases kws with
    | cons k r => exact (show Do c (eval (.Call f args (k :: r) pos) c.env) st K from H).run
    | nil =>
      cases f with
      | Attribute o x ap => exact callM_ok O IH (fun _ _ _ _ h => h.run) id Ext.trans H
      | Name x p => exact callN_ok O IH H rfl
      | Subscript o i p => exact callN_ok O IH H rfl
      | _ => exact (show Do c (eval _ c.env) st K from H).run
  | _ => exact (show Do c (eval _ c.env) st K from H).run
theorem exE_ok (O : c.Ok xt) : ∀ n e st K, exE xt c n e st K → Ev c (eval e c.env) st K
  | 0, _, _, _, H => by cases H
  | n + 1, e, st, K, H => e1_ok O (exE_ok O n) (fun e st K h => test_ok (exE_ok O n) n e st K h _ fun _ => rfl) e st K H
theorem cePut_adr (x : Str) (v : RV) (o : Obj) : ∀ l : List CE, (cePut x v o l).map (·.a) = l.map (·.a)
  | [] => rfl
  | e :: r => by
    unfold cePut
    split
    · rfl
    · rw [List.map_cons, cePut_adr x v o r]; rfl
set_option tactic.hygienic true in
theorem cePut_mem {x : Str} {v : RV} {o : Obj} : ∀ {l : List CE} {e : CE}, e ∈ cePut x v o l → e ∈ l ∨ (e.x = x ∧ e.o = o ∧ e.v = some v ∧ ∃ e' ∈ l, (e'.x = x ∧ e'.k = false) ∧ e'.a = e.a ∧ e.k = false)
  | [], _, h => by cases h
  | f :: r, e, h => by
    unfold cePut at h
    split at h
    · rename_i q
      rcases mK h with rfl | h
      · obtain ⟨q1, q2⟩ := bA q
        exact .inr ⟨eq_of_beq q1, rfl, rfl, f, mS, ⟨eq_of_beq q1, by simpa using (bA q2).1⟩, rfl, rfl⟩
      · exact .inl (mC _ h)
    · rcases mK h with rfl | h
      · exact .inl mS
      · rcases cePut_mem h with h | ⟨h1, h2, h3, e', h4, h5⟩
        · exact .inl (mC _ h)
        · exact .inr ⟨h1, h2, h3, e', mC _ h4, h5⟩
set_option tactic.hygienic true in
theorem cePut_key {x : Str} {v : RV} {o : Obj} (hx : noName x = false) : ∀ l : List CE, (cePut x v o l).map CE.key = l.map CE.key
  | [] => rfl
  | e :: r => by
    unfold cePut
    split
    · rename_i q
      have h1 : e.dm = false := by unfold CE.dm; rw [eq_of_beq (bA q).1]; exact hx
      have h2 : CE.dm ⟨e.x, e.a, o, some v, false, true⟩ = false := h1
      have h3 : e.w = true := (bA (bA q).2).2
      rw [List.map_cons, List.map_cons]
      unfold CE.key
      rw [h1, h2, h3]
      rfl
    · rw [List.map_cons, List.map_cons, cePut_key hx r]
set_option tactic.hygienic true in
theorem ce_upd {x : Str} {v : RV} {tl : List (Addr × Obj)} : ∀ {l : List CE}, ceHas x l = true → (l.map (·.a)).Nodup → (∀ e ∈ l, ∀ p ∈ tl, p.1 ≠ e.a) → ∃ e ∈ l, (e.x = x ∧ e.k = false) ∧ UpdF e.a e.o (l.map (fun e => (e.a, e.o)) ++ tl) fun o => (cePut x v o l).map (fun e => (e.a, e.o)) ++ tl
  | [], h, _, _ => by exact ft_no h
  | f :: r, h, hn, ht => by
    cases q : (f.x == x && (!f.k && f.w)) with
    | true =>
      obtain ⟨q1, q2⟩ := bA q
      refine ⟨f, mS, ⟨eq_of_beq q1, by simpa using (bA q2).1⟩, ?_⟩
      have : (fun o => (cePut x v o (f :: r)).map (fun e => (e.a, e.o)) ++ tl) = fun o => (f.a, o) :: (r.map (fun e => (e.a, e.o)) ++ tl) := by
        funext o; unfold cePut; rw [q]; rfl
      rw [this]
      refine .head fun p hp => ?_
      rcases mA hp with hp | hp
      · obtain ⟨e, he, rfl⟩ := mM hp
        exact fun hh => (List.nodup_cons.mp hn).1 (List.mem_map.mpr ⟨e, he, hh⟩)
      · exact ht f mS p hp
    | false =>
      have h' : ceHas x r = true := by unfold ceHas at h; rw [q] at h; exact h
      obtain ⟨e, he, hx, U⟩ := ce_upd (v := v) h' (List.nodup_cons.mp hn).2 fun e he => ht e (mC _ he)
      refine ⟨e, mC _ he, hx, ?_⟩
      have : (fun o => (cePut x v o (f :: r)).map (fun e => (e.a, e.o)) ++ tl) = fun o => (f.a, f.o) :: ((cePut x v o r).map (fun e => (e.a, e.o)) ++ tl) := by
        funext o
        have h0 : cePut x v o (f :: r) = f :: cePut x v o r := by
          show (if (f.x == x && (!f.k && f.w)) = true then _ else _) = _
          rw [q]; rfl
        rw [h0]; rfl
      rw [this]
      exact .tail (fun hh => (List.nodup_cons.mp hn).1 (List.mem_map.mpr ⟨e, he, hh.symm⟩)) U
theorem updF_pre {d : Addr} {o : Obj} {g : Obj → List (Addr × Obj)} {l : List (Addr × Obj)} (U : UpdF d o l g) : ∀ {pre : List (Addr × Obj)}, (∀ p ∈ pre, p.1 ≠ d) → UpdF d o (pre ++ l) fun o' => pre ++ g o'
  | [], _ => U
  | p :: pre, h => .tail (h p mS) (updF_pre U fun q hq => h q (mC _ hq))
set_option tactic.hygienic true in
theorem store_ok (O : c.Ok xt) {x : Str} {v : RV} {st : XS} {K : Unit → XS → Prop} (H : exStore xt c x v st K) : EvU c (storeName c.env x (v.den st.ρ)) st K := by
  have hko : ∀ k, xt.cs.names.lookup x = k → c.env.kindOf x = k := fun k h => by unfold Env.kindOf; rw [O.cs]; exact h
  unfold exStore at H
  split at H
  · rename_i hk
    split at H
    · rename_i hcm
      intro Q s z S hq
      have hp : (c.env.scope.kind == .class || (c.env.scope.kind == .module && c.env.locals != c.env.globals)) = false := by rw [O.kf]; rfl
      refine wpAny_storeName_local (m := frm st) (hko _ hk) (by rw [O.lo hcm]; exact S.F.ns) (fun h' hn hs => ?_) hp
      rw [O.lo hcm] at hn hs
      exact hq () _ _ _ H (S.putTo (S.F.set hn hs) (S.N.set hs)) ⟨List.prefix_refl _, rfl⟩
    · cases H
  · rename_i hk
    split at H
    · rename_i hh
      obtain ⟨hx0, hh⟩ := bA hh
      have hx0 : noName x = false := by simpa using hx0
      intro Q s z S hq
      obtain ⟨e, he1, ⟨hx, hek⟩, U⟩ := ce_upd (v := v) hh S.CE.nd fun e he => (S.CE.ap e he).2
      obtain ⟨q1, q2⟩ := S.CE.cl e he1 (by unfold CE.dm; rw [hx]; exact hx0) hek
      have hz : ∀ p ∈ st.ρ.zip (st.ob.map (RO.den st.ρ)), p.1 ≠ e.a := fun p hp => by
        obtain ⟨j, hj⟩ := zip_at hp
        exact (S.CE.ap e he1).1 j _ hj
      obtain ⟨own, rest, e1, hg, u1, u2⟩ := (updF_pre U hz).split
      have N0 : News c.h₀ c.L s.heap (own ++ (e.a, e.o) :: rest) := e1 ▸ S.N
      have hmem := N0 (e.a, e.o) (mR _ mS)
      refine wpAny_storeName_cell O.kf (hko _ hk) (by rw [← hx]; exact q1) ⟨e.o, hmem.1, q2⟩ fun h' hv hs => ?_
      obtain ⟨o', ho', d'⟩ := hv
      have N' : News c.h₀ c.L h' (led (st.putC x v o')) := by
        have := hg o' ▸ N0.setAt u1 u2 hs ho'
        exact this
      refine hq () (st.putC x v o') _ _ (H o') ⟨⟨S.F.ns.sameBut hs (Ne.symm hmem.2.1), fun b ob eb => (hs.2 b fun q => by rw [q, hmem.2.2] at eb; cases eb).trans (S.F.keep b ob eb), S.F.above⟩, N', S.len, ?_, ⟨fun f hf hd hfk => ?_, fun f hf hd hfk => ?_, fun f hf => ?_, by show ((cePut x v o' st.ce).map (·.a)).Nodup; rw [cePut_adr]; exact S.CE.nd⟩⟩ ⟨List.prefix_refl _, cePut_key hx0 _⟩
      · intro i a hi ha
        obtain ⟨d1, d2⟩ := S.D i a hi ha
        refine ⟨d1, fun p hp => ?_⟩
        rcases mA hp with hp | hp
        · obtain ⟨f, hf, rfl⟩ := mM hp
          have : f.a ∈ st.ce.map (·.a) := by rw [← cePut_adr x v o' st.ce]; exact List.mem_map.mpr ⟨f, hf, rfl⟩
          obtain ⟨f', hf', e'⟩ := mM this
          have := d2 (f'.a, f'.o) (mL _ (List.mem_map.mpr ⟨f', hf', rfl⟩))
          rw [← e']; exact this
        · exact d2 p (mR _ hp)
      · rcases cePut_mem hf with h1 | ⟨h1, h2, h3, e', h4, ⟨h5, h5'⟩, h6, _⟩
        · exact S.CE.cl f h1 hd hfk
        · rw [h1, h2, h3]
          refine ⟨?_, d'⟩
          have := (S.CE.cl e' h4 (by unfold CE.dm; rw [h5]; exact hx0) h5').1
          rw [h5, h6] at this; exact this
      · rcases cePut_mem hf with h1 | ⟨_, _, _, _, _, _, _, h7⟩
        · exact S.CE.nm f h1 hd hfk
        · rw [hfk] at h7; exact tf_no h7
      · have : f.a ∈ st.ce.map (·.a) := by rw [← cePut_adr x v o' st.ce]; exact List.mem_map.mpr ⟨f, hf, rfl⟩
        obtain ⟨f', hf', e'⟩ := mM this
        have := S.CE.ap f' hf'
        rw [e'] at this
        exact this
    · cases H
  · exact H.run
end
end
section
section
variable {c : XC} {xt : XT}
theorem not_interactive (O : c.Ok xt) : interactive c.env = false := by
  unfold interactive
  have : c.env.scope.kind = .function := O.kf
  rw [this]; rfl
theorem no_swap {elts : List Expr} {k : Nat} {p : Pos} {v : Expr} {env : Env} (h : noTup v = true) : swappedStores [.Tuple elts k p] v env = pure none := by cases v <;> first | rfl | cases h
theorem sole_no {t v : Expr} {n : Nat} {env : Env} (h : noComp v = true) : swapsWithSole [t] v n env = pure false := by
  unfold swapsWithSole
  exact swap_no h
theorem soleCall_is {e o : Expr} {a : Str} {ap pos : Pos} (h : soleCall e = some (o, a, ap, pos)) : e = .Call (.Attribute o a ap) [] [] pos := by
  unfold soleCall at h
  split at h
  · cases h; rfl
  · exact none_no h
theorem nameE_is {e : Expr} {y : Str × Pos} (h : nameE e = some y) : e = .Name y.1 y.2 := by
  cases e with
  | Name x p => cases h; rfl
  | _ => exact none_no h
inductive NamesAre (env : Env) (names : List Str) (l : List (Bool × (Value → Sem Unit))) : Prop
  | mk (h1 : l.length = names.length) (h2 : l.findIdx? (fun x => x.1) = none) (ps : List Pos) (h3 : l.map (·.2) = (names.zip ps).map (fun y => assign (.Name y.1 y.2) env)) (h4 : ps.length = names.length)
theorem names_each {env : Env} : ∀ (elts : List Expr) {names : List Str}, namesOf elts = some names → NamesAre env names (assignEach elts env)
  | [], names, h => by cases h; exact ⟨rfl, rfl, [], rfl, rfl⟩
  | e :: r, names, h => by
    unfold namesOf at h
    cases he : nameE e with
    | none => rw [he] at h; exact none_no h
    | some y =>
      cases hr : namesOf r with
      | none => rw [he, hr] at h; exact none_no h
      | some ns =>
        rw [he, hr] at h
        cases h
        obtain ⟨h1, h2, ps, h4, h5⟩ := names_each (env := env) r hr
        rw [nameE_is he]
        refine ⟨congrArg (· + 1) h1, ?_, y.2 :: ps, ?_, congrArg (· + 1) h5⟩
        · show List.findIdx? _ ((false, assign (.Name y.1 y.2) env) :: assignEach r env) = none
          rw [List.findIdx?_cons, h2]; rfl
        · exact congrArg (assign (.Name y.1 y.2) env :: ·) h4
theorem stores_ok (O : c.Ok xt) : ∀ (names : List Str) (ps : List Pos) (vs : List RV) (st : XS) (K : Unit → XS → Prop) (ρ : List Addr), ps.length = names.length → names.length = vs.length → (∀ v ∈ vs, v.wf ρ.length = true) → ρ <+: st.ρ → exStores xt c names vs st K →
    EvU c (assignInOrder ((names.zip ps).map fun y => assign (.Name y.1 y.2) c.env) (vs.map (RV.den ρ))) st K
  | [], _, [], st, K, _, _, _, _, _, H => fun Q s z S hq => assignInOrder_nil (hq () _ _ _ H S (Ext.refl _))
  | x :: xs, p :: ps, v :: vs, st, K, ρ, hp, hl, hv, hr, H => fun Q s z S hq => by
    unfold exStores at H
    have e : v.den ρ = v.den st.ρ := by
      obtain ⟨r, hr⟩ := hr
      rw [← hr]
      exact (RV.den_grow (Nat.le_refl _) r v (hv v mS)).symm
    refine assignInOrder_cons (PyProof.Rows.assign_Name ?_)
    rw [e]
    exact store_ok O H _ s z S fun _ st1 h1 tk1 H1 S1 p1 => (stores_ok O xs ps vs st1 K ρ (Nat.succ.inj hp) (Nat.succ.inj hl) (fun u hu => hv u (mC _ hu)) (hr.trans p1.pre) H1).then z.to S1 p1 hq
  | [], _, _ :: _, _, _, _, _, hl, _, _, _ => by cases hl
  | _ :: _, _, [], _, _, _, _, hl, _, _, _ => by cases hl
  | _ :: _, [], _ :: _, _, _, _, hp, _, _, _, _ => by cases hp
set_option tactic.hygienic true in
theorem tupRV_is {v : RV} {st : XS} {vs : List RV} (h : tupRV v st = some vs) : ∃ i, v = .r i ∧ st.ob[i]? = some (.tup vs) := by
  cases v with
  | v x => exact none_no h
  | r i =>
    unfold tupRV at h
    dsimp only at h
    split at h
    · rename_i us e; cases h; exact ⟨i, rfl, e⟩
    · exact none_no h
section
variable {ihE : Expr → XS → (RV → XS → Prop) → Prop} (IE : ∀ e st K, ihE e st K → Ev c (eval e c.env) st K)
include IE
set_option tactic.hygienic true in
theorem asg_ok (O : c.Ok xt) {t value : Expr} {p : Pos} {st : XS} {K : RF → XS → Prop} (H : exAsg xt c ihE t value p st K) : EvF c (exec (.Assign [t] value p) c.env) st K := by
  unfold exAsg at H
  split at H
  · exact H.run
  · rename_i hc
    cases t with
    | Name x p' =>
      intro Q s z S hq
      have H : (match soleCall value with
        | some (o, a, ap, pos) => exCallM xt (DoCR c) ihE o a ap [] pos st fun v st1 => exStore xt c x v st1 fun _ st2 => K .next st2
        | none => ihE value st fun v st1 => exStore xt c x v st1 fun _ st2 => K .next st2) := H
      split at H
      · rename_i o a ap pos hv
        rw [soleCall_is hv]
        refine wpAny_Assign_Name (callM_ok O IE (fun _ _ _ _ h => h.run) Ext.p ExtP.trans H _ s z S fun v st1 h1 tk1 H1 S1 p1 => ?_) rfl
        exact (store_ok O H1) _ _ z.to S1 fun _ st2 h2 tk2 H2 S2 p2 => hq .next st2 h2 tk2 H2 S2 (p1.trans p2.p)
      · refine wpAny_Assign_Name (IE _ _ _ H _ s z S fun v st1 h1 tk1 H1 S1 p1 => ?_) (swap_no hc)
        exact (store_ok O H1).then z.to S1 p1 fun _ st2 h2 tk2 H2 S2 p2 => hq .next st2 h2 tk2 H2 S2 p2.p
    | Attribute o attr p' =>
      intro Q s z S hq
      have H : ihE value st fun v st1 => hold v st1 (ihE o st1 fun ov st2 => exSet xt c ov attr v st2 fun _ st3 => K .next st3) := H
      refine plainObj_wpAny_Assign_Attribute (IE _ _ _ H _ s z S fun v st1 h1 tk1 H1 S1 p1 => ?_) (swap_no hc)
      obtain ⟨hw, H1⟩ := hold_is H1
      refine IE _ _ _ H1 _ _ z.to S1 fun ov st2 h2 tk2 H2 S2 p2 => ?_
      rw [← held S1 hw p2]
      exact (set_ok O H2).then z.to S2 (p1.trans p2) fun _ st3 h3 tk3 H3 S3 p3 => hq .next st3 h3 tk3 H3 S3 p3.p
    | Subscript o i p' =>
      intro Q s z S hq
      have H : ihE value st fun v st1 => hold v st1 (ihE o st1 fun ov st2 => hold v st2 (hold ov st2 (ihE i st2 fun iv st3 => DoU c (setItem (ov.den st3.ρ) (iv.den st3.ρ) (v.den st3.ρ)) st3 fun _ st4 => K .next st4))) := H
      refine wpAny_Assign_Subscript (IE _ _ _ H _ s z S fun v st1 h1 tk1 H1 S1 p1 => ?_) (swap_no hc)
      obtain ⟨hw, H1⟩ := hold_is H1
      refine IE _ _ _ H1 _ _ z.to S1 fun ov st2 h2 tk2 H2 S2 p2 => ?_
      obtain ⟨_, H2⟩ := hold_is H2
      obtain ⟨hw2, H2⟩ := hold_is H2
      refine IE _ _ _ H2 _ _ z.to S2 fun iv st3 h3 tk3 H3 S3 p3 => ?_
      rw [← held S2 hw2 p3, ← held S1 hw (p2.trans p3)]
      exact H3.run.then z.to S3 ((p1.trans p2).trans p3) fun _ st4 h4 tk4 H4 S4 p4 => hq .next st4 h4 tk4 H4 S4 p4.p
    | Tuple elts k p' =>
      have H : (match noTup value, namesOf elts with
        | true, some names => ihE value st fun v st1 => (match tupRV v st1 with
          | some vs => (match Nat.beq names.length vs.length && vs.all (RV.wf st1.ob.length) with
            | true => exStores xt c names vs st1 fun _ st2 => K .next st2
            | false => False)
          | none => False)
        | _, _ => DoF c (exec (.Assign [.Tuple elts k p'] value p) c.env) st K) := H
      split at H
      · rename_i names ht hn
        intro Q s z S hq
        refine Assign_Tuple (IE _ _ _ H _ s z S fun v st1 h1 tk1 H1 S1 p1 => ?_) (sole_no hc) (no_swap ht)
        split at H1
        · rename_i vs hv
          obtain ⟨i, rfl, e1⟩ := tupRV_is hv
          split at H1
          · rename_i hb
            obtain ⟨hlen, hwf⟩ := bA hb
            have hlen : names.length = vs.length := Nat.eq_of_beq_eq_true hlen
            obtain ⟨g1, g2, ps, g3, g4⟩ := names_each (env := c.env) _ hn
            refine unpackN_ (s := { s with heap := h1, toks := tk1 }) S1.F S1.N (S1.N.isTup (S1.mem e1)) O.hh (by rw [g1, hlen]; simp) g2 fun h2 F2 N2 => ?_
            rw [g3]
            have hv : ∀ v ∈ vs, v.wf st1.ρ.length = true := fun v hv' => by rw [S1.len]; exact aT hwf v hv'
            exact (stores_ok O names ps vs st1 _ st1.ρ g4 hlen hv (List.prefix_refl _) H1).then z.to ⟨F2, N2, S1.len, S1.D, S1.CE⟩ p1 fun _ st2 h3 tk3 H3 S3 p3 => hq .next st2 h3 tk3 H3 S3 p3.p
          · cases H1
        · cases H1
      · exact H.run
    | _ => exact (show DoF c (exec (.Assign [_] value p) c.env) st K from H).run
set_option tactic.hygienic true in
theorem aug_ok (O : c.Ok xt) {t value : Expr} {op : Operator} {p : Pos} {st : XS} {K : RF → XS → Prop} (H : exAug xt c ihE t op value p st K) : EvF c (exec (.AugAssign t op value p) c.env) st K := by
  cases t with
  | Name x p' =>
    have H : (match xt.cs.names.lookup x with
      | some .local => (match xt.cm with
        | false => (match st.fr.lookup x with
          | some old => hold old st (ihE value st fun v st1 => exInp c op old v st1 fun r st2 => exStore xt c x r st2 fun _ st3 => K .next st3)
          | none => False)
        | true => False)
      | _ => False) := H
    split at H
    · rename_i hk
      split at H
      rotate_left
      · cases H
      rename_i hcm
      split at H
      · rename_i old ho
        intro Q s z S hq
        obtain ⟨hw, H⟩ := hold_is H
        refine wpAny_AugAssign_Name ?_
        exact wpAny_loadName_local O.kf (by unfold Env.kindOf; rw [O.cs]; exact hk) (by rw [O.lo hcm]; exact S.F.ns) (v := old.den st.ρ) (frm_at ho) (IE _ _ _ H _ s z S fun v st1 h1 tk1 H1 S1 p1 => by
            rw [← held S hw p1]
            exact (inp_ok H1).then z.to S1 p1 fun r st2 h2 tk2 H2 S2 p2 => (store_ok O H2).then z.to S2 p2 fun _ st3 h3 tk3 H3 S3 p3 => hq .next st3 h3 tk3 H3 S3 p3.p)
      · cases H
    · cases H
  | Attribute o attr p' =>
    have H : ihE o st fun ov st1 => hold ov st1 (exAttr xt c ov attr st1 fun old st2 => hold old st2 (hold ov st2 (ihE value st2 fun v st3 => exInp c op old v st3 fun r st4 => hold ov st4 (exSet xt c ov attr r st4 fun _ st5 => K .next st5)))) := H
    intro Q s z S hq
    refine wpAny_AugAssign_AttributeAny (IE _ _ _ H _ s z S fun ov st1 h1 tk1 H1 S1 p1 => ?_)
    obtain ⟨hw, H1⟩ := hold_is H1
    refine attr_ok O H1 _ _ z.to S1 fun old st2 h2 tk2 H2 S2 p2 => ?_
    obtain ⟨hw2, H2⟩ := hold_is H2
    obtain ⟨hw3, H2⟩ := hold_is H2
    refine IE _ _ _ H2 _ _ z.to S2 fun v st3 h3 tk3 H3 S3 p3 => ?_
    rw [← held S2 hw2 p3]
    refine inp_ok H3 _ _ z.to S3 fun r st4 h4 tk4 H4 S4 p4 => ?_
    obtain ⟨hw4, H4⟩ := hold_is H4
    rw [← held S1 hw ((p2.trans p3).trans p4)]
    exact (set_ok O H4).then z.to S4 (((p1.trans p2).trans p3).trans p4) fun _ st5 h5 tk5 H5 S5 p5 => hq .next st5 h5 tk5 H5 S5 p5.p
  | _ => exact (show DoF c (exec (.AugAssign _ op value p) c.env) st K from H).run
end
theorem notSet_is {iter : Expr} {env : Env} (h : notSet iter = true) (x : Value) : foldedSetIterable iter env x = pure x := by cases iter <;> first | rfl | cases h
set_option tactic.hygienic true in
theorem s1_ok (O : c.Ok xt) {ihE : Expr → XS → (RV → XS → Prop) → Prop} {ihT : Expr → XS → (Bool → XS → Prop) → Prop} {ihS : List Stmt → XS → (RF → XS → Prop) → Prop} (IE : ∀ e st K, ihE e st K → Ev c (eval e c.env) st K)
    (IT : ∀ e st K, ihT e st K → EvB c (PySem.isTrue e c.env (eval e c.env)) st K) (IS : ∀ l st K, ihS l st K → EvF c (execs l c.env) st K) (x : Stmt) (st : XS) (K : RF → XS → Prop) (H : exS1 xt c ihE ihT ihS x st K) : EvF c (exec x c.env) st K := by
  cases x with
  | If test body orelse p =>
    have H : ihT test st fun b st1 => Ite b (ihS body st1 K) (ihS orelse st1 K) := H
    intro Q s z S hq
    refine wpAny_If (IT _ _ _ H _ s z S fun b st1 h1 tk1 H1 S1 p1 => ?_)
    cases b with
    | true => rw [if_pos rfl]; exact (IS _ _ _ (H1.yes rfl)).then z.to S1 p1.p hq
    | false => rw [if_neg (by simp)]; exact (IS _ _ _ (H1.no rfl)).then z.to S1 p1.p hq
  | Assign ts value p =>
    have H : (match one? ts with | some t => exAsg xt c ihE t value p st K | none => DoF c (exec (.Assign ts value p) c.env) st K) := H
    split at H
    · rename_i t ht
      rw [one_is ht]
      exact asg_ok IE O H
    · exact H.run
  | AugAssign t op value p => exact aug_ok IE O H
  | Return e p =>
    intro Q s z S hq
    cases e with
    | none => exact wpAny_Return_none (hq (.ret (.v .none)) _ _ _ (show K (.ret (.v .none)) st from H) S (ExtP.refl _ _))
    | some e => exact wpAny_Return_some (IE _ _ _ (show ihE e st fun v st1 => K (.ret v) st1 from H) _ s z S fun v st1 h1 tk1 H1 S1 p1 => hq (.ret v) st1 h1 tk1 H1 S1 p1.p)
  | Break p => intro Q s z S hq; exact wpAny_Break (hq .brk _ _ _ (show K .brk st from H) S (ExtP.refl _ _))
  | Continue p => intro Q s z S hq; exact wpAny_Continue (hq .cont _ _ _ (show K .cont st from H) S (ExtP.refl _ _))
  | Pass p => intro Q s z S hq; exact wpAny_Pass (hq .next _ _ _ (show K .next st from H) S (ExtP.refl _ _))
  | Expr e p =>
    have H : (match noComp e with | true => ihE e st fun _ st1 => K .next st1 | false => DoF c (exec (.Expr e p) c.env) st K) := H
    split at H
    · rename_i hc
      intro Q s z S hq
      exact wpAny_Expr_any (IE _ _ _ H _ s z S fun v st1 h1 tk1 H1 S1 p1 => hq .next st1 h1 tk1 H1 S1 p1.p) (not_interactive O) (swap_no hc)
    · exact H.run
  | For t iter body orelse p =>
    cases t with
    | Name x px =>
      cases orelse with
      | nil =>
        have H : (match notSet iter && !xt.cm, xt.cs.names.lookup x with
          | true, some .local => ihE iter st fun v st1 => DoI c x body v st1 K
          | _, _ => DoF c (exec (.For (.Name x px) iter body [] p) c.env) st K) := H
        split at H
        · rename_i hb hx
          obtain ⟨hs, hcm⟩ := bA hb
          intro Q s z S hq
          refine For_R (by unfold Env.kindOf; rw [O.cs]; exact hx) (by rw [O.kf]; rfl) (IE _ _ _ H _ s z S fun v st1 h1 tk1 H1 S1 p1 => ?_) (notSet_is hs) (O.po (by simpa using hcm))
          exact H1.run Q { s with heap := h1, toks := tk1 } z.to S1 fun f st' h' tk' hk S' p' => hq f st' h' tk' hk S' (p1.p.trans p')
        · exact H.run
      | cons _ _ => exact (show DoF c (exec _ c.env) st K from H).run
    | _ => exact (show DoF c (exec _ c.env) st K from H).run
  | _ => exact (show DoF c (exec _ c.env) st K from H).run
set_option tactic.hygienic true in
theorem exS_ok (O : c.Ok xt) : ∀ n l st K, exS xt c n l st K → EvF c (execs l c.env) st K
  | 0, _, _, _, H => by cases H
  | _ + 1, [], st, K, H => fun Q s z S hq => wpAny_execs_nil (hq .next _ _ _ H S (ExtP.refl _ _))
  | n + 1, x :: rest, st, K, H => fun Q s z S hq => by
    refine wpAny_execs_cons (s1_ok O (exE_ok O n) (fun e st K h => test_ok (exE_ok O n) n e st K h _ fun _ => rfl) (exS_ok O n) x st _ H _ s z S fun f st1 h1 tk1 H1 S1 p1 => ?_)
    cases f with
    | next => exact (exS_ok O n rest st1 K H1).then z.to S1 p1 hq
    | brk => exact hq .brk _ _ _ H1 S1 p1
    | cont => exact hq .cont _ _ _ H1 S1 p1
    | ret v => exact hq (.ret v) _ _ _ H1 S1 p1
end
end
section
structure FD where
  params : Arguments
  body : List Stmt
  scope : Scope
noncomputable def fdOf : Stmt → FD
  | .FunctionDef _ args body _ _ _ scope _ _ _ => ⟨args, body, scope⟩
  | _ => ⟨⟨[], [], none, [], [], none, []⟩, [], default⟩
noncomputable def bodyOf : Stmt → List Stmt
  | .ClassDef _ _ _ body _ _ _ _ _ _ _ => body
  | _ => []
noncomputable def stm (i : Nat) : Stmt := PG.main.body.getD i (.Pass default)
noncomputable def mth (i j : Nat) : Stmt := (bodyOf (stm i)).getD j (.Pass default)
noncomputable def fd_117 : FD := fdOf (stm 8)
noncomputable def fd_124 : FD := fdOf (stm 9)
noncomputable def fd_131 : FD := fdOf (stm 10)
noncomputable def fd_152 : FD := fdOf (stm 13)
noncomputable def fd_145 : FD := fdOf (stm 12)
noncomputable def fd_187 : FD := fdOf (stm 18)
noncomputable def fd_194 : FD := fdOf (stm 25)
noncomputable def fd_208 : FD := fdOf (stm 29)
noncomputable def fd_215 : FD := fdOf (stm 30)
noncomputable def fd_264 : FD := fdOf (stm 34)
noncomputable def fd_271 : FD := fdOf (stm 35)
noncomputable def fd_278 : FD := fdOf (stm 36)
noncomputable def fd_285 : FD := fdOf (stm 37)
noncomputable def fd_313 : FD := fdOf (stm 41)
noncomputable def fd_320 : FD := fdOf (stm 42)
noncomputable def fd_339 : FD := fdOf (stm 45)
noncomputable def fd_346 : FD := fdOf (stm 46)
noncomputable def fd_353 : FD := fdOf (stm 47)
noncomputable def fd_381 : FD := fdOf (stm 50)
noncomputable def fd_388 : FD := fdOf (stm 51)
noncomputable def fd_407 : FD := fdOf (stm 54)
noncomputable def fd_414 : FD := fdOf (stm 55)
noncomputable def fd_421 : FD := fdOf (stm 56)
noncomputable def fd_428 : FD := fdOf (stm 57)
noncomputable def fd_435 : FD := fdOf (stm 58)
noncomputable def fd_442 : FD := fdOf (stm 60)
noncomputable def fd_449 : FD := fdOf (stm 61)
noncomputable def fd_477 : FD := fdOf (stm 64)
noncomputable def fd_484 : FD := fdOf (stm 65)
noncomputable def fd_526 : FD := fdOf (stm 67)
noncomputable def fd_547 : FD := fdOf (stm 72)
noncomputable def fd_568 : FD := fdOf (stm 75)
noncomputable def fd_575 : FD := fdOf (stm 76)
noncomputable def fd_582 : FD := fdOf (stm 77)
noncomputable def fd_589 : FD := fdOf (stm 78)
noncomputable def fd_644 : FD := fdOf (stm 88)
noncomputable def fd_721 : FD := fdOf (stm 92)
noncomputable def fd_728 : FD := fdOf (stm 93)
noncomputable def fd_733 : FD := fdOf (stm 94)
noncomputable def fd_740 : FD := fdOf (stm 95)
noncomputable def fd_105 : FD := fdOf (mth 6 0)
noncomputable def fd_35 : FD := fdOf (mth 2 0)
noncomputable def fd_236 : FD := fdOf (mth 33 1)
noncomputable def fd_243 : FD := fdOf (mth 33 2)
noncomputable def fd_505 : FD := fdOf (mth 66 1)
noncomputable def fd_512 : FD := fdOf (mth 66 2)
noncomputable def fd_665 : FD := fdOf (mth 89 1)
noncomputable def fd_700 : FD := fdOf (mth 90 1)
noncomputable def fd_229 : FD := fdOf (mth 33 0)
noncomputable def fd_367 : FD := fdOf (mth 49 0)
noncomputable def fd_463 : FD := fdOf (mth 63 0)
noncomputable def fd_498 : FD := fdOf (mth 66 0)
noncomputable def fd_625 : FD := fdOf (mth 82 0)
noncomputable def fd_658 : FD := fdOf (mth 89 0)
noncomputable def fd_693 : FD := fdOf (mth 90 0)
noncomputable def FNS : List (Nat × FD) := (117, fd_117) :: (124, fd_124) :: (131, fd_131) :: (152, fd_152) :: (145, fd_145) :: (187, fd_187) :: (194, fd_194) :: (208, fd_208) :: (215, fd_215) :: (264, fd_264) :: (271, fd_271) :: (278, fd_278) :: (285, fd_285) :: (313, fd_313) :: (320, fd_320) :: (339, fd_339) :: (346, fd_346) :: (353, fd_353) :: (381, fd_381) :: (388, fd_388) :: (407, fd_407) :: (414, fd_414) :: (421, fd_421) :: (428, fd_428) :: (435, fd_435) :: (442, fd_442) :: (449, fd_449) :: (477, fd_477) :: (484, fd_484) :: (526, fd_526) :: (547, fd_547) :: (568, fd_568) :: (575, fd_575) :: (582, fd_582) :: (589, fd_589) :: (644, fd_644) :: (721, fd_721) :: (728, fd_728) :: (733, fd_733) :: (740, fd_740) :: (105, fd_105) :: (35, fd_35) :: (236, fd_236) :: (243, fd_243) :: (505, fd_505) :: (512, fd_512) :: (665, fd_665) :: (700, fd_700) :: (229, fd_229) :: (367, fd_367) :: (463, fd_463) :: (498, fd_498) :: (625, fd_625) :: (658, fd_658) :: (693, fd_693) :: []
noncomputable def GK : List (Str × Value) := (Str.ofString "CHARACTER", Value.int 5 428) :: (Str.ofString "COMPLEX", Value.int 3 426) :: (Str.ofString "DOUBLE", Value.int 2 424) :: (Str.ofString "INTEGER", Value.int 0 420) :: (Str.ofString "REAL", Value.int 1 422) :: (Str.ofString "SECOND", Value.int 6 475) :: (Str.ofString "MOST_SIGNS", Value.int 10000000 1154) :: (Str.ofString "fit_int", Value.ref 117) :: (Str.ofString "int_add", Value.ref 124) :: (Str.ofString "int_sub", Value.ref 131) :: (Str.ofString "int_div", Value.ref 152) :: (Str.ofString "cut_quotient", Value.ref 145) :: (Str.ofString "int_binary", Value.ref 187) :: (Str.ofString "units_of", Value.ref 194) :: (Str.ofString "is_zero", Value.ref 208) :: (Str.ofString "trip_count", Value.ref 215) :: (Str.ofString "need_units", Value.ref 264) :: (Str.ofString "read_cell", Value.ref 271) :: (Str.ofString "load_number", Value.ref 278) :: (Str.ofString "store_number", Value.ref 285) :: (Str.ofString "unit_size", Value.ref 313) :: (Str.ofString "extent", Value.ref 320) :: (Str.ofString "elements_of", Value.ref 339) :: (Str.ofString "held_elements", Value.ref 346) :: (Str.ofString "span_of", Value.ref 353) :: (Str.ofString "evaluate", Value.ref 381) :: (Str.ofString "named_place", Value.ref 388) :: (Str.ofString "place_of", Value.ref 407) :: (Str.ofString "has_place", Value.ref 414) :: (Str.ofString "eval_const", Value.ref 421) :: (Str.ofString "eval_place", Value.ref 428) :: (Str.ofString "reckon", Value.ref 435) :: (Str.ofString "count_steps", Value.ref 442) :: (Str.ofString "count_step", Value.ref 449) :: (Str.ofString "begin_loop", Value.ref 477) :: (Str.ofString "end_round", Value.ref 484) :: (Str.ofString "walked", Value.ref 526) :: (Str.ofString "counted_elements", Value.ref 547) :: (Str.ofString "io_put", Value.ref 568) :: (Str.ofString "io_put_all", Value.ref 575) :: (Str.ofString "io_take", Value.ref 582) :: (Str.ofString "io_take_all", Value.ref 589) :: (Str.ofString "size_with", Value.ref 644) :: (Str.ofString "_law_pick", Value.ref 721) :: (Str.ofString "_law_items", Value.ref 728) :: (Str.ofString "_law_due", Value.ref 733) :: (Str.ofString "_law_heard", Value.ref 740) :: (Str.ofString "Level", Value.ref 466) :: (Str.ofString "Limits", Value.ref 607) :: (Str.ofString "ListWalk", Value.ref 515) :: (Str.ofString "Machine", Value.ref 628) :: (Str.ofString "Memory", Value.ref 253) :: (Str.ofString "PlainIn", Value.ref 710) :: (Str.ofString "PlainOut", Value.ref 675) :: (Str.ofString "Run", Value.ref 370) :: (Str.ofString "TooLong", Value.ref 108) :: (Str.ofString "F77Error", Value.ref 38) :: (Str.ofString "RunFault", Value.ref 51) :: (Str.ofString "IoFault", Value.ref 70) :: (Str.ofString "plain_frame", Value.ref 637) :: []
noncomputable def BL : List (Str × Value) := (Str.ofString "len", Value.builtin "len") :: (Str.ofString "abs", Value.builtin "abs") :: (Str.ofString "max", Value.builtin "max") :: (Str.ofString "isinstance", Value.builtin "isinstance") :: (Str.ofString "range", Value.type "range") :: (Str.ofString "tuple", Value.type "tuple") :: (Str.ofString "str", Value.type "str") :: (Str.ofString "Exception", Value.type "Exception") :: []
noncomputable def GL : List (Str × Value) := GK ++ BL
noncomputable def FS : List Nat := 117 :: 124 :: 131 :: 152 :: 145 :: 187 :: 194 :: 208 :: 215 :: 264 :: 271 :: 278 :: 285 :: 313 :: 320 :: 339 :: 346 :: 353 :: 381 :: 388 :: 407 :: 414 :: 421 :: 428 :: 435 :: 442 :: 449 :: 477 :: 484 :: 526 :: 547 :: 568 :: 575 :: 582 :: 589 :: 644 :: 721 :: 728 :: 733 :: 740 :: 466 :: 607 :: 515 :: 628 :: 253 :: 710 :: 675 :: 370 :: 108 :: []
noncomputable def TAB : List (Addr × List Str) := [(253, ["numeric", "characters"]), (370, ["memory", "limits", "units", "world", "expressions", "statements", "frame", "depth", "steps", "places", "flows", "clears", "active", "loops", "operations", "library"]), (466, ["items", "at", "target", "step", "count"]), (515, ["run", "levels", "elements"]), (607, ["width", "real_digits", "double_digits", "top_exponent", "steps", "continuations", "columns", "depth"]), (628, ["memory", "limits", "codes", "frames", "ops", "operations", "io", "enter", "world", "library", "functions", "clears", "places", "units", "active", "transfers", "steps"]), (675, ["items", "size"]), (710, ["record", "at"])]
noncomputable def ME : List (Addr × List (Str × Addr)) := [(253, [("load", 236), ("store", 243)]), (515, [("next", 505), ("take", 512)]), (675, [("put", 665)]), (710, [("take", 700)])]
noncomputable def MK : List (Addr × Addr) := [(253, 229), (370, 367), (466, 463), (515, 498), (628, 625), (675, 658), (710, 693), (607, 604)]
inductive FnOk (K : Frag) (f : Addr) (d : FD) : Prop
  | mk (name qual : Str) (doc pm : Value) (an : Option Addr) (cdv ct oc : Value) (od : Option Addr) (osl : Array (Option Value)) (ho : K.lookup f = some ⟨oc, od, .func (fnOf name qual d.params d.body d.scope .none .none doc pm an cdv ct), osl⟩) (hc : codeIn K cdv qual = true)
structure GrF (K : Frag) : Prop where
  gl : ∀ p ∈ GK, nsIn K mainGlobals p.1 = some (some p.2)
  bl : ∀ p ∈ BL, nsIn K mainGlobals p.1 = some none ∧ bootBuiltins p.1 = some p.2 ∧ p.1 ≠ Str.ofString "__name__"
  fs : ∀ a ∈ FS, keepIn K (.ref a) = true
  cls : ∀ p ∈ TAB, ClsOk K p.1 p.2
  me : ∀ p ∈ ME, ∀ q ∈ p.2, plainGet K p.1 q.1 = true ∧ findIn K (.ref p.1) q.1 = some (some (.ref q.2)) ∧ isFn K (.ref q.2) = true ∧ keepIn K (.ref q.2) = true
  fn : ∀ p ∈ FNS, FnOk K p.1 p.2
  mks : ∀ p ∈ MK, makesIn K p.1 = true ∧ findIn K (.ref p.1) "__init__" = some (some (.ref p.2)) ∧ isFn K (.ref p.2) = true
  c108 : C108 K
  ca : keepIn K (.ref 35) = true ∧ specialIn K (.ref 38) "__getattribute__" = some (some (.builtin "type.__getattribute__")) ∧ (∃ mc, typeIn K (.ref 38) = some mc ∧ readsIn K 38 mc = true ∧ findCls K (.ref 38) mc "__init__" = some (.val (.ref 35))) ∧ findCls K (.type "Exception") (.type "type") "__init__" = some (.val (.builtin "Exception.__init__"))
  x108 : findIn K (.ref 108) "__init__" = some (some (.ref 105)) ∧ isFn K (.ref 105) = true ∧ findIn K (.ref 108) "__setattr__" = some (some (.builtin "object.__setattr__")) ∧ (∃ cd, clsIn K 108 = some cd ∧ storesIn cd = true ∧ ∀ self, refuseLoop self "__setattr__" cd.mro = pure ()) ∧ findIn K (.ref 108) "text" = some none ∧ findIn K (.ref 108) "steps" = some none
set_option tactic.hygienic true in
theorem look_mem {α : Type} {x : Str} {v : α} : ∀ {l : List (Str × α)}, l.lookup x = some v → (x, v) ∈ l
  | [], h => by exact none_no h
  | (y, u) :: l, h => by
    rw [List.lookup_cons] at h
    split at h
    · rename_i q
      cases h
      rw [eq_of_beq q]
      exact mS
    · exact mC _ (look_mem h)
set_option tactic.hygienic true in
theorem look_memN {α : Type} {x : Addr} {v : α} : ∀ {l : List (Addr × α)}, l.lookup x = some v → (x, v) ∈ l
  | [], h => by exact none_no h
  | (y, u) :: l, h => by
    rw [List.lookup_cons] at h
    split at h
    · rename_i q
      cases h
      rw [eq_of_beq q]
      exact mS
    · exact mC _ (look_memN h)
theorem all_cons {α : Type} {P : α → Prop} {a : α} {l : List α} (h : P a) (t : ∀ x ∈ l, P x) : ∀ x ∈ a :: l, P x := List.forall_mem_cons.mpr ⟨h, t⟩
theorem all_nil {α : Type} {P : α → Prop} : ∀ x ∈ ([] : List α), P x := fun _ h => nomatch h
set_option tactic.hygienic true in
theorem ca_of {K : Frag} (G : GrF K) {prog : Program} {w : World} (v : Value) (x : Str) (f : Value) (h : classAttr v x = some f) : ((∃ id, f = .builtin id) ∨ keepIn K f = true) ∧ ∀ (A : Around) (Q : Value × List Value → Shared → Prop) (E : Value → Shared → Prop) (s : Shared) (pl : Sem Bool) (h₀ : Heap) (L : Addr) (m : Str → Option Value), Fr h₀ L s.heap m → K.In h₀ → Q (f, []) { s with toks := s.toks + 1 } → wpAny (model prog w) A (getMethod v x pl) Q E s := by
  obtain ⟨c1, c2, ⟨mc, c3, c4, c5⟩, c6⟩ := G.ca
  unfold classAttr at h
  split at h
  · rename_i hx
    rw [eq_of_beq hx]
    split at h
    · rename_i a
      split at h
      · rename_i ha
        cases h
        rw [Nat.eq_of_beq_eq_true ha]
        exact ⟨.inr c1, fun A Q E s pl h₀ L m F X hq => method_of_cls F X c2 (cls_val F X c3 c4 c5 rfl hq)⟩
      · exact none_no h
    · rename_i T
      split at h
      · rename_i hT
        cases h
        rw [eq_of_beq hT]
        exact ⟨.inl ⟨_, rfl⟩, fun A Q E s pl h₀ L m F X hq => method_type F X rfl (by decide +kernel) c6 rfl hq⟩
      · exact none_no h
    · exact none_no h
  · exact none_no h
theorem ok_of {K : Frag} (G : GrF K) {w : World} {A : Around} {E : Value → Shared → Prop} {g : Heap} {L af : Addr} {cn : Str} {cs : Scope} {ccd : Value} {cl : List (Str × Addr)} {p : Program} {loose : List Str} {mean : ExcName → Option Value} {mg mb : Str → Option Value} {prog : Program} {s : Shared} {pn : Nat}
    (po : PassesOwn (model prog w) A (envX cn cs L af ccd cl) E) (hk : cs.kind = .function) (hh : A.handled = none) (X : K.In g) (T : Top p loose mean mg mb g) : XC.Ok ⟨s, prog, w, A, E, K, g, L, envX cn cs L af ccd cl, envX cn cs L af ccd cl, pn⟩ ⟨cs, GL, FS, TAB, ME, false⟩ :=
  ⟨rfl, rfl, rfl, fun _ => rfl, hh, fun _ => po, hk, X, ⟨_, _, _, _, topRead_of T⟩, fun x v h => (mA (look_mem h)).elim (fun q => .inl (G.gl (x, v) q)) fun q => .inr (G.bl (x, v) q), fun a h => G.fs a (by simpa using h), fun C l x f h h2 => G.me (C, l) (look_memN h) (x, f) (look_mem h2), fun C l h => G.cls (C, l) (look_memN h), ca_of G⟩
theorem GrF.fnAt {K : Frag} (G : GrF K) {f : Addr} {d : FD} (h : FNS.lookup f = some d) : FnOk K f d := G.fn (f, d) (look_memN h)
theorem GrF.mkAt {K : Frag} (G : GrF K) {C f : Addr} (h : MK.lookup C = some f) : makesIn K C = true ∧ findIn K (.ref C) "__init__" = some (some (.ref f)) ∧ isFn K (.ref f) = true := G.mks (C, f) (look_memN h)
end
section
theorem frm_none {st : XS} (h : st.fo = fun _ => none) (y : Str) : frm st y = (st.fr.lookup y).map (RV.den st.ρ) := by
  show (match st.fr.lookup y with | some v => some (v.den st.ρ) | none => st.fo y) = _
  rw [h]
  cases st.fr.lookup y <;> rfl
theorem lookup_map {ρ : List Addr} (y : Str) : ∀ l : List (Str × RV), (l.map fun p => (p.1, p.2.den ρ)).lookup y = (l.lookup y).map (RV.den ρ)
  | [] => rfl
  | p :: l => by
    rw [List.map_cons, List.lookup_cons, List.lookup_cons, lookup_map y l]
    cases y == p.1 <;> rfl
set_option tactic.hygienic true in
theorem Sat.start {c : XC} {st : XS} {h : Heap} {l : List (Str × Value)} {news : List (Addr × Obj)} (F : Fr c.h₀ c.L h fun y => l.lookup y) (N : News c.h₀ c.L h news) (hf : l = st.fr.map fun p => (p.1, p.2.den st.ρ)) (hfo : st.fo = fun _ => none) (hn : news = led st) (hl : st.ρ.length = st.ob.length) (D : Dis st) (C : CellsOk c st) : Sat c st h := by
  subst hf; subst hn
  refine ⟨?_, N, hl, D, C⟩
  have : frm st = fun y => (st.fr.map fun p => (p.1, p.2.den st.ρ)).lookup y := funext fun y => (frm_none hfo y).trans (lookup_map y st.fr).symm
  rw [this]; exact F
theorem ex_go {G : GR} (HG : GrF G.K) {A : Around} {E : Value → Shared → Prop} {g : Heap} {L af : Addr} {cn : Str} {cs : Scope} {ccd : Value} {cl : List (Str × Addr)} {p : Program} {loose : List Str} {mean : ExcName → Option Value} {mg mb : Str → Option Value} {prog : Program}
    {Q : Flow → Shared → Prop} {s : Shared} {body : List Stmt} {l : List (Str × Value)} {news : List (Addr × Obj)} (n : Nat) (st : XS) (F : Fr g L s.heap fun y => l.lookup y) (N : News g L s.heap news) (X : G.K.In g) (T : Top p loose mean mg mb g)
    (hf : l = st.fr.map fun p => (p.1, p.2.den st.ρ)) (hfo : st.fo = fun _ => none) (hn : news = led st) (hl : st.ρ.length = st.ob.length) (D : Dis st) (hce : st.ce = []) (po : PassesOwn (model prog G.w) A (envX cn cs L af ccd cl) E) (hk : cs.kind = .function) (hh : A.handled = none)
    {K : RF → XS → Prop} (hK : ∀ f st' h' tk', K f st' → Fr g L h' (frm st') → News g L h' (led st') → Dis st' → Q (f.den st'.ρ) { s with heap := h', toks := tk' })
    (H : ∀ c : XC, c = ⟨s, prog, G.w, A, E, G.K, g, L, envX cn cs L af ccd cl, envX cn cs L af ccd cl, 0⟩ → c.Ok ⟨cs, GL, FS, TAB, ME, false⟩ → exS ⟨cs, GL, FS, TAB, ME, false⟩ c n body st K) :
    wpAny (model prog G.w) A (execs body (envX cn cs L af ccd cl)) Q E s :=
  exS_ok (ok_of HG (s := s) po hk hh X T) n body st _ (H _ rfl (ok_of HG (s := s) po hk hh X T)) Q s ⟨rfl, rfl, rfl⟩ (Sat.start F N hf hfo hn hl D ⟨by rw [hce]; exact fun _ h => (nomatch h), by rw [hce]; exact fun _ h => (nomatch h), by unfold CAp; rw [hce]; exact fun _ h => (nomatch h), by rw [hce]; exact List.nodup_nil⟩) fun f st' h' tk' hk' S' _ => hK f st' h' tk' hk' S'.F S'.N S'.D
end
section
inductive ROwes (sub : List (Addr × Obj)) (mu : List Addr) (rais : Int → List (Addr × Obj) → Prop) (k : Int) (news : List (Addr × Obj)) : Prop
  | mk (out : List (Addr × Obj)) (h1 : ∀ q ∈ sub, q.1 ∈ mu ∨ q ∈ news) (h2 : ∀ q ∈ sub, q.1 ∈ news.map (·.1)) (h3 : ∀ q ∈ out, q ∈ news ∧ (q.1 ∈ mu ∨ ∀ x ∈ sub, x.1 ≠ q.1)) (h4 : rais k out)
inductive OkB (G : GR) (base : Heap) : Prop
  | mk (mean : ExcName → Option Value) (mg mb : Str → Option Value) (h : BaseOk G.K G.p G.loose mean mg mb base)
structure Uses (G : GR) (c : XC) (frames : List Env) (base : Heap) (D U : Nat) (R : Int → List (Addr × Obj) → Prop) : Prop where
  HG : GrF G.K
  prog : c.prog = PG
  hw : c.w = G.w
  hK : c.K = G.K
  X : c.K.In c.h₀
  B : ∃ A₀, Below A₀ base frames c.h₀
  Ok : OkB G base
  hA : c.A.handled = none
  fr : c.A.frames = some (c.fe :: frames)
  ff : c.fe.frame = some c.L
  kf : c.fe.scope.kind = .function
  hd : c.A.depth ≤ D
  hu : c.A.units ≤ U
  rz : ∀ e k m news h tk (s : Shared), Rest c s → R k news → RaisedAt base c.h₀ c.fe frames c.L m news h e k → c.E (.ref e) { s with heap := h, toks := tk }
inductive EndO (st₀ : XS) (mu : List Addr) (post : Value → List (Addr × Obj) → Prop) (v : Value) (st : XS) : Prop
  | mk (out : List (Addr × Obj)) (h1 : ∀ q ∈ led st₀, q.1 ∈ mu ∨ q ∈ led st) (h2 : ∀ q ∈ out, q ∈ led st ∧ (q.1 ∈ mu ∨ ∀ x ∈ led st₀, x.1 ≠ q.1)) (h3 : post v out)
structure EndX (st₀ : XS) (mu : List Addr) (post : Value → List (Addr × Obj) → Prop) (f : RF) (st : XS) : Prop where
  run : Dis st → EndO st₀ mu post (match f.den st.ρ with | .ret v => v | _ => .none) st
theorem CT.exK {G : GR} (HG : GrF G.K) {D U : Nat} {f : Addr} {vs : List Value} {sub : List (Addr × Obj)} {mu : List Addr} {post : Value → List (Addr × Obj) → Prop} {rais : Int → List (Addr × Obj) → Prop}
    {name qual : Str} {params : Arguments} {body : List Stmt} {scope : Scope} {dV kV doc pm cdv ct oc : Value} {an od : Option Addr} {osl : Array (Option Value)} {binds : List (Str × Value)}
    (n : Nat) (st : XS) (ho : G.K.lookup f = some ⟨oc, od, .func (fnOf name qual params body scope dV kV doc pm an cdv ct), osl⟩) (hcd : codeIn G.K cdv qual = true) (hroom : D < recursionLimit)
    (hbind : ∀ s, BindsTo s (fnOf name qual params body scope dV kV doc pm an cdv ct) ⟨vs, []⟩ binds) (hloc : ∀ y ∈ binds, scope.names.lookup y.1 = some .local)
    (hco : scope.isCoroutine = false) (hgen : scope.isGenerator = false) (hk : scope.kind = .function) (hcell : ∀ x ∈ scope.names, x.2 ≠ .cell)
    (hf : binds.reverse = st.fr.map fun p => (p.1, p.2.den st.ρ)) (hfo : st.fo = fun _ => none) (hs : ∀ q, q ∈ led st ↔ q ∈ sub) (hl : st.ρ.length = st.ob.length) (hce : st.ce = []) (hD : Dis st)
    (VC : ∀ (s : Shared) (frames : List Env) (gd : Option (List Code)) (base g : Heap) (mean : ExcName → Option Value) (mg mb : Str → Option Value) (L : Addr) (E : Value → Shared → Prop),
      Below ({ handled := none, depth := D, frames := some frames, guards := gd, units := U } : Around) base frames g → G.K.In g → Top G.p G.loose mean mg mb g →
      Uses G ⟨s, PG, G.w, ({ handled := none, depth := D, frames := some frames, guards := gd, units := U } : Around).deeper (envOf qual scope L f cdv), E, G.K, g, L, envX qual scope L f cdv [], envX qual scope L f cdv [], 0⟩ frames base (D + 1) (U + 3) (ROwes sub mu rais) →
        XC.Ok ⟨s, PG, G.w, ({ handled := none, depth := D, frames := some frames, guards := gd, units := U } : Around).deeper (envOf qual scope L f cdv), E, G.K, g, L, envX qual scope L f cdv [], envX qual scope L f cdv [], 0⟩ ⟨scope, GL, FS, TAB, ME, false⟩ → exS ⟨scope, GL, FS, TAB, ME, false⟩ ⟨s, PG, G.w, ({ handled := none, depth := D, frames := some frames, guards := gd, units := U } : Around).deeper (envOf qual scope L f cdv), E, G.K, g, L, envX qual scope L f cdv [], envX qual scope L f cdv [], 0⟩ n body st (EndX st mu post)) :
    CT G D U f vs sub mu post rais := by
  unfold CT
  refine Ctr.of_room ?_
  intro frames gd base mean mg mb s Q E C O _ he hr
  refine wpAny_call ?_
  refine enter C O ho hcd hroom (hbind s) hloc ?_ hco hgen hk hcell
  intro g' L' h' tk' kg' F' N' B' X' T' _
  refine ex_go HG (cl := []) (K := EndX st mu post) n st F' (news := led st) (fun p hp => N' p ((hs p).1 hp)) X' T' hf hfo rfl hl hD hce PassesOwn.leaving hk rfl (fun f' st' h2 tk2 H F2 N2 D2 => ?_) fun c hc hO => ?_
  · obtain ⟨out, h3, h4, h5⟩ := H.run D2
    cases f' <;> exact Ends.close he O kg' F2 N2 _ out (fun q hq => h3 q ((hs q).2 hq)) (fun q hq => ⟨(h4 q hq).1, (h4 q hq).2.imp id fun h x hx => h x ((hs x).2 hx)⟩) h5 rfl rfl rfl
  · subst hc
    refine VC _ frames gd base g' mean mg mb L' _ B' X' T' ⟨HG, rfl, rfl, rfl, X', ⟨_, B'⟩, ⟨_, _, _, C.ok⟩, rfl, rfl, rfl, hk, Nat.le_refl _, Nat.le_refl _, ?_⟩ hO
    intro e k m news h2 tk2 s2 z ⟨out, r1, r2, r3, r4⟩ RA
    exact RaisedAt.close (s' := { s2 with heap := h2, toks := tk2 }) RA hr O kg' B' rfl rfl out r1 r2 r3 r4 z.gens z.drawn z.os
theorem CT.ex {G : GR} (HG : GrF G.K) {D U : Nat} {f : Addr} {vs : List Value} {sub : List (Addr × Obj)} {mu : List Addr} {post : Value → List (Addr × Obj) → Prop} {rais : Int → List (Addr × Obj) → Prop}
    {name qual : Str} {params : Arguments} {body : List Stmt} {scope : Scope} {dV kV doc pm cdv ct oc : Value} {an od : Option Addr} {osl : Array (Option Value)} {binds : List (Str × Value)}
    (n : Nat) (st : XS) (ho : G.K.lookup f = some ⟨oc, od, .func (fnOf name qual params body scope dV kV doc pm an cdv ct), osl⟩) (hcd : codeIn G.K cdv qual = true) (hroom : D < recursionLimit)
    (hbind : ∀ s, BindsTo s (fnOf name qual params body scope dV kV doc pm an cdv ct) ⟨vs, []⟩ binds) (hloc : ∀ y ∈ binds, scope.names.lookup y.1 = some .local)
    (hco : scope.isCoroutine = false) (hgen : scope.isGenerator = false) (hk : scope.kind = .function) (hcell : ∀ x ∈ scope.names, x.2 ≠ .cell)
    (hf : binds.reverse = st.fr.map fun p => (p.1, p.2.den st.ρ)) (hfo : st.fo = fun _ => none) (hs : ∀ q, q ∈ led st ↔ q ∈ sub) (hl : st.ρ.length = st.ob.length) (hce : st.ce = []) (hD : Dis st)
    (VC : ∀ (c : XC) (frames : List Env) (base : Heap), Uses G c frames base (D + 1) (U + 3) (ROwes sub mu rais) → c.Ok ⟨scope, GL, FS, TAB, ME, false⟩ → exS ⟨scope, GL, FS, TAB, ME, false⟩ c n body st (EndX st mu post)) : CT G D U f vs sub mu post rais :=
  CT.exK HG n st ho hcd hroom hbind hloc hco hgen hk hcell hf hfo hs hl hce hD fun _ frames _ base _ _ _ _ _ _ _ _ _ Y O => VC _ frames base Y O
end
section
section
variable {prog : Program} {w : World} {K : Frag} {p : Program} {loose : List Str} {D U : Nat} {f : Value} {vs : List Value} {sub : List (Addr × Obj)} {mu : List Addr} {pre : Heap → Prop} {post : Value → List (Addr × Obj) → Prop} {rais : Int → List (Addr × Obj) → Prop}
theorem use_outs {g : Heap} {L : Addr} {m : Str → Option Value} {news : List (Addr × Obj)} {s : Shared} (F : Fr g L s.heap m) (N : News g L s.heap news) (hmu : ∀ a ∈ mu, a ∈ news.map (·.1)) (q : Addr) (h1 : q ∈ mu ∨ s.heap.get? q = none) : q ≠ L ∧ g.get? q = none := by
  rcases h1 with h1 | h1
  · obtain ⟨x, hx, e⟩ := mM (hmu _ h1)
    rw [← e]; exact (N x hx).2
  · refine ⟨fun e => ?_, ?_⟩
    · obtain ⟨oL, es, ep, hL, _⟩ := F.ns
      rw [e, hL] at h1; exact some_no h1
    · cases hg : g.get? q with
      | none => rfl
      | some o => have := F.keep _ _ hg; rw [h1] at this; exact none_no this
theorem use_ends {g : Heap} {L : Addr} {m : Str → Option Value} {news : List (Addr × Obj)} {s : Shared} {Q : Value → Shared → Prop} (F : Fr g L s.heap m) (N : News g L s.heap news) {rest : List (Addr × Obj)} (hmu : ∀ a ∈ mu, a ∈ news.map (·.1)) (hr : ∀ q ∈ rest, q ∈ news) (hoff : ∀ q ∈ rest, q.1 ∉ mu)
    (k : ∀ v out h' tk, post v out → Fr g L h' m → News g L h' (out ++ rest) → (∀ q ∈ out, q.1 ∈ mu ∨ NeAll q.1 news) → Q v { s with heap := h', toks := tk }) : Ends s mu post Q := by
  have offL : L ∉ mu := fun q => by
    obtain ⟨x, hx, e⟩ := mM (hmu L q)
    exact (N x hx).2.1 e
  have offg : ∀ b o, g.get? b = some o → b ∉ mu := fun b o e q => by
    obtain ⟨x, hx, rfl⟩ := mM (hmu b q)
    rw [(N x hx).2.2] at e; exact none_no e
  obtain ⟨oL, es, ep, hL, hLd, hLk, hLf⟩ := id F.ns
  intro v out h' tk kp ho hpost
  refine k v out h' tk hpost ⟨⟨oL, es, ep, kp _ _ hL offL, hLd, hLk, hLf⟩, fun b o e => kp _ _ (F.keep b o e) (offg b o e), F.above⟩ (fun q hq => ?_) (fun q hq => ?_)
  · rcases mA hq with hq | hq
    · exact ⟨(ho q hq).1, use_outs F N hmu _ (ho q hq).2⟩
    · have n := N q (hr q hq)
      exact ⟨kp _ _ n.1 (hoff q hq), n.2⟩
  · rcases (ho q hq).2 with h1 | h1
    · exact .inl h1
    · refine .inr (NeAll.of fun x hx e => ?_)
      have := (N x hx).1
      rw [e, h1] at this; exact none_no this
theorem use_raises {A₀ : Around} {base g : Heap} {frames : List Env} {L : Addr} {m : Str → Option Value} {env : Env} {news : List (Addr × Obj)} {s : Shared} {E : Value → Shared → Prop} (B : Below A₀ base frames g) (F : Fr g L s.heap m) (N : News g L s.heap news) (hf : env.frame = some L) (hk : env.scope.kind = .function)
    {rest : List (Addr × Obj)} (hmu : ∀ a ∈ mu, a ∈ news.map (·.1)) (hr : ∀ q ∈ rest, q ∈ news) (hoff : ∀ q ∈ rest, q.1 ∉ mu) (r : ∀ e c out h' tk, rais c out → RaisedAt base g env frames L m (out ++ rest) h' e c → E (.ref e) { s with heap := h', toks := tk }) : Raises s (env :: frames) mu rais E := by
  have offL : L ∉ mu := fun q => by
    obtain ⟨x, hx, e⟩ := mM (hmu L q)
    exact (N x hx).2.1 e
  have offg : ∀ b o, g.get? b = some o → b ∉ mu := fun b o e q => by
    obtain ⟨x, hx, rfl⟩ := mM (hmu b q)
    rw [(N x hx).2.2] at e; exact none_no e
  obtain ⟨oL, es, ep, hL, hLd, hLk, hLf⟩ := id F.ns
  have lt : ∀ b o, g.get? b = some o → b ≠ L := fun b o e q => Nat.lt_irrefl _ (Nat.lt_of_lt_of_le (q ▸ Heap.lt_size e) F.above)
  intro e c out h' tk kp ho hfl hrais
  have kept : ∀ q ∈ rest, h'.get? q.1 = some q.2 := fun q hq => kp.1 _ _ (N q (hr q hq)).1 (hoff q hq) (off_frames B N hf (hr q hq))
  refine r e c out h' tk hrais ⟨F.above, fun b o eb hb => ?_, fun b o eb => kp.2 b o (F.keep b o eb) (offg b o eb), ?_, ?_, fun q hq => ?_, ?_⟩
  · refine kp.1 b o (F.keep b o eb) (offg b o eb) fun hm => ?_
    unfold frs at hm
    rw [List.filterMap_cons, hf] at hm
    rcases mK hm with hm | hm
    · exact lt b o eb hm
    · exact hb hm
  · refine frames_held (pushX B F hf hk).frames fun a ha o hao => kp.2 a o hao fun hm => ?_
    obtain ⟨x, hx, e⟩ := mM (hmu a hm)
    exact off_frames B N hf hx (e ▸ ha)
  · obtain ⟨sl, hsl⟩ := kp.2 _ _ hL offL
    exact ⟨_, es, ep, hsl, hLd, hLk, hLf⟩
  · rcases mA hq with hq | hq
    · exact ⟨(ho q hq).1, use_outs F N hmu _ (ho q hq).2⟩
    · exact ⟨kept q hq, (N q (hr q hq)).2⟩
  · have fresh : ∀ b, (s.heap.get? b = none ∧ ∀ q ∈ out, q.1 ≠ b) → g.get? b = none ∧ b ≠ L ∧ ∀ q ∈ out ++ rest, q.1 ≠ b := fun b ⟨hb, hbo⟩ => by
      have := use_outs F N hmu b (.inr hb)
      refine ⟨this.2, this.1, fun q hq e => ?_⟩
      rcases mA hq with hq | hq
      · exact hbo q hq e
      · have := (N q (hr q hq)).1
        rw [e, hb] at this; exact none_no this
    obtain ⟨dx, T, q1, t1, v1, q2, t2, tk, x1, x2, x3, x4, x5, x6⟩ := hfl
    exact ⟨dx, T, q1, t1, v1, q2, t2, tk, x1, x2, fun t e => ⟨(x3 t e).1, fresh t (x3 t e).2⟩, fresh _ x4, fresh _ x5, x6⟩
theorem Ctr.use3 (C : Ctr prog w K p loose D U f vs sub mu pre post rais) {A₀ A : Around} {base g : Heap} {frames : List Env} {L : Addr} {m : Str → Option Value} {env : Env} {news : List (Addr × Obj)} {mean : ExcName → Option Value} {mg mb : Str → Option Value} {s : Shared} {Q E : Value → Shared → Prop}
    (B : Below A₀ base frames g) (F : Fr g L s.heap m) (N : News g L s.heap news) (Ok : BaseOk K p loose mean mg mb base)
    (hA : A.handled = none) (hAf : A.frames = some (env :: frames)) (hf : env.frame = some L) (hk : env.scope.kind = .function) (hd : A.depth ≤ D) (hu : A.units ≤ U) (hs : ∀ q ∈ sub, q ∈ news) (hp : pre s.heap) {rest : List (Addr × Obj)} (hmu : ∀ a ∈ mu, a ∈ news.map (·.1)) (hr : ∀ q ∈ rest, q ∈ news) (hoff : ∀ q ∈ rest, q.1 ∉ mu)
    (k : ∀ v out h' tk, post v out → Fr g L h' m → News g L h' (out ++ rest) → (∀ q ∈ out, q.1 ∈ mu ∨ NeAll q.1 news) → Q v { s with heap := h', toks := tk })
    (r : ∀ e c out h' tk, rais c out → RaisedAt base g env frames L m (out ++ rest) h' e c → E (.ref e) { s with heap := h', toks := tk }) : wpAny (model prog w) A (call f vs) Q E s :=
  C A (env :: frames) base mean mg mb s Q E (cx_of B F Ok hA hAf hf hk) (own_of B N hf hs) hd hu hp (use_ends F N hmu hr hoff k) (use_raises B F N hf hk hmu hr hoff r)
end
noncomputable def keepL (mui : List Nat) : Nat → List RO → List (Option RO)
  | _, [] => []
  | i, o :: r => (match mui.contains i with
    | true => none
    | false => some o) :: keepL mui (i + 1) r
theorem keepL_at (mui : List Nat) : ∀ (i j : Nat) (l : List RO) (o : RO), l[j]? = some o → (keepL mui i l)[j]? = some (match mui.contains (i + j) with | true => none | false => some o)
  | i, 0, x :: l, o, h => by cases h; rfl
  | i, j + 1, x :: l, o, h => by
    have := keepL_at mui (i + 1) j l o h
    rw [Nat.add_assoc, Nat.add_comm 1 j] at this
    exact this
  | _, _, [], _, h => by simp at h
theorem keepL_back (mui : List Nat) : ∀ (i j : Nat) (l : List RO) (o : RO), (keepL mui i l)[j]? = some (some o) → l[j]? = some o
  | i, 0, x :: l, o, h => by
    unfold keepL at h
    split at h
    · cases h
    · cases h; rfl
  | i, j + 1, x :: l, o, h => keepL_back mui (i + 1) j l o h
  | _, _, [], _, h => by simp [keepL] at h
theorem keep_is {mui : List Nat} {l l' : List RO} (h : keepL mui 0 l = keepL mui 0 (l'.take l.length)) {j : Nat} {o : RO} (e : l[j]? = some o) (hj : mui.contains j = false) : l'[j]? = some o := by
  have := keepL_at mui 0 j l o e
  rw [Nat.zero_add, hj, h] at this
  have := keepL_back mui 0 j _ o this
  rw [List.getElem?_take] at this
  split at this
  · exact this
  · exact none_no this
theorem led_at {st : XS} {q : Addr × Obj} (h : q ∈ led st) : (∃ (j : Nat) (o : RO), st.ρ[j]? = some q.1 ∧ st.ob[j]? = some o ∧ q.2 = o.den st.ρ) ∨ q ∈ st.tlc := by
  rcases mA h with h | h
  · obtain ⟨j, hj⟩ := List.mem_iff_getElem?.mp h
    rw [List.getElem?_zip_eq_some, List.getElem?_map] at hj
    obtain ⟨h1, h2⟩ := hj
    cases e : st.ob[j]? with
    | none => rw [e] at h2; exact none_no h2
    | some o => rw [e] at h2; exact .inl ⟨j, o, h1, e, (Option.some.inj h2).symm⟩
  · exact .inr h
theorem led_of {st : XS} {j : Nat} {a : Addr} {o : RO} (h1 : st.ρ[j]? = some a) (h2 : st.ob[j]? = some o) : (a, o.den st.ρ) ∈ led st :=
  mL _ (List.mem_iff_getElem?.mpr ⟨j, by rw [List.getElem?_zip_eq_some]; exact ⟨h1, by rw [List.getElem?_map, h2]; rfl⟩⟩)
theorem pre_at {l l' as : List Addr} (h : l' = l ++ as) {j : Nat} {a : Addr} (e : l[j]? = some a) : l'[j]? = some a := by
  rw [h, List.getElem?_append_left (gS e).1]; exact e
theorem getD_at {l : List Addr} {j : Nat} (h : j < l.length) : l[j]? = some (l.getD j 0) := by
  rw [List.getD_eq_getElem?_getD, List.getElem?_eq_getElem h]; rfl
noncomputable def pick (st : XS) (is : List Nat) : List (Addr × Obj) := is.map fun i => (st.ρ.getD i 0, (st.ob.getD i (.raw default)).den st.ρ)
theorem EndX.out {mu : List Addr} {post : Value → List (Addr × Obj) → Prop} {f : RF} {st st' : XS} (mui outs : List Nat) (as : List Addr) (hmu : mu = mui.map fun i => st.ρ.getD i 0) (hρ : st'.ρ = st.ρ ++ as) (htl : ∀ p ∈ st.tlc, p ∈ st'.tlc)
    (hl : st.ρ.length = st.ob.length) (hl' : st'.ρ.length = st'.ob.length) (hwf : st.ob.all (RO.wf st.ob.length) = true) (hkeep : keepL mui 0 st.ob = keepL mui 0 (st'.ob.take st.ob.length))
    (hout : outs.all (fun i => Nat.blt i st'.ob.length && (mui.contains i || (Nat.ble st.ob.length i && st'.mu.contains i))) = true) (hmi : mui.all (fun i => Nat.blt i st.ob.length) = true)
    (hp : Dis st' → post (match f.den st'.ρ with | .ret v => v | _ => .none) (pick st' outs)) : EndX st mu post f st' := by
  subst hmu
  refine ⟨fun D => ?_⟩
  refine ⟨pick st' outs, fun q hq => ?_, fun q hq => ?_, hp D⟩
  · rcases led_at hq with ⟨j, o, h1, h2, h3⟩ | h
    · cases hj : mui.contains j with
      | true =>
        refine .inl (List.mem_map.mpr ⟨j, by simpa using hj, ?_⟩)
        rw [List.getD_eq_getElem?_getD, h1]; rfl
      | false =>
        refine .inr ?_
        have h4 := keep_is hkeep h2 hj
        have := led_of (st := st') (pre_at hρ h1) h4
        have ho : o.den st'.ρ = o.den st.ρ := by
          rw [hρ]
          exact RO.den_grow (Nat.le_of_eq hl.symm) as o (aT hwf o (List.mem_of_getElem? h2))
        rw [ho, ← h3] at this
        exact this
    · exact .inr (mR _ (htl q h))
  · obtain ⟨i, hi, rfl⟩ := mM hq
    have h0 := aT hout i hi
    obtain ⟨h1, h2⟩ := bA h0
    have h1 : i < st'.ob.length := Nat.le_of_ble_eq_true h1
    have h1' : i < st'.ρ.length := hl' ▸ h1
    have ha := getD_at h1'
    have hob : st'.ob[i]? = some (st'.ob.getD i (.raw default)) := by rw [List.getD_eq_getElem?_getD, List.getElem?_eq_getElem h1]; rfl
    refine ⟨led_of ha hob, ?_⟩
    rcases Bool.or_eq_true_iff.mp h2 with h3 | h3
    · refine .inl (List.mem_map.mpr ⟨i, by simpa using h3, ?_⟩)
      have h4 : i < st.ρ.length := hl ▸ Nat.le_of_ble_eq_true (aT hmi i (by simpa using h3))
      have := pre_at hρ (getD_at h4)
      rw [ha] at this
      exact (Option.some.inj this).symm
    · obtain ⟨h4, h5⟩ := bA h3
      have h4 : st.ob.length ≤ i := Nat.le_of_ble_eq_true h4
      obtain ⟨d1, d2⟩ := D i _ (by simpa using h5) ha
      refine .inr fun x hx => ?_
      rcases led_at hx with ⟨j, o, e1, _, _⟩ | h
      · have hj : j < st.ρ.length := (gS e1).1
        exact d1 j _ (pre_at hρ e1) (by lia)
      · exact d2 x (htl x h)
theorem EndX.same {post : Value → List (Addr × Obj) → Prop} {f : RF} {st st' : XS} (hs : led st = led st') (hp : post (match f.den st'.ρ with | .ret v => v | _ => .none) []) : EndX st [] post f st' := ⟨fun _ => ⟨[], fun _ h => .inr (hs ▸ h), fun _ h => (nomatch h), hp⟩⟩
noncomputable def disL (a : Addr) (i : Nat) : Nat → List Addr → Prop
  | _, [] => True
  | j, b :: r => (match Nat.beq j i with
    | true => True
    | false => b ≠ a) ∧ disL a i (j + 1) r
noncomputable def disAll (st : XS) : List Nat → Prop
  | [] => True
  | i :: r => (disL (st.ρ.getD i 0) i 0 st.ρ ∧ ∀ p ∈ st.tlc, p.1 ≠ st.ρ.getD i 0) ∧ disAll st r
theorem disL_at {a : Addr} {i : Nat} : ∀ {l : List Addr} {k j : Nat} {b : Addr}, disL a i k l → l[j]? = some b → k + j ≠ i → b ≠ a
  | x :: l, k, 0, b, h, e, hn => by
    cases e
    have h1 := h.1
    have : Nat.beq k i = false := by
      cases q : Nat.beq k i with
      | false => rfl
      | true => exact absurd (Nat.eq_of_beq_eq_true q) hn
    rw [this] at h1
    exact h1
  | x :: l, k, j + 1, b, h, e, hn => disL_at (k := k + 1) (j := j) h.2 e (by lia)
  | [], _, _, _, _, e, _ => by simp at e
theorem Dis.of {st : XS} (h : disAll st st.mu) : Dis st := by
  have key : ∀ l, disAll st l → ∀ i a, i ∈ l → st.ρ[i]? = some a → (∀ j b, st.ρ[j]? = some b → j ≠ i → b ≠ a) ∧ ∀ p ∈ st.tlc, p.1 ≠ a := by
    intro l
    induction l with
    | nil => intro _ i a hi; cases hi
    | cons x l ih =>
      intro hd i a hi ha
      rcases mK hi with rfl | hi
      · have e : st.ρ.getD i 0 = a := by rw [List.getD_eq_getElem?_getD, ha]; rfl
        have h1 := hd.1
        rw [e] at h1
        exact ⟨fun j b hb hj => disL_at h1.1 hb (by lia), h1.2⟩
      · exact ih hd.2 i a hi ha
  exact key _ h
theorem dis_at {st : XS} {a b : Addr} (D : Dis st) (i j : Nat) (hi : st.mu.contains i = true) (ha : st.ρ[i]? = some a) (hb : st.ρ[j]? = some b) (hj : Nat.beq j i = false) : b ≠ a :=
  (D i a (by simpa using hi) ha).1 j b hb (Nat.ne_of_beq_eq_false hj)
end
section
structure Next (st : XS) (mui : List Nat) (out : List (Addr × Obj)) (st' : XS) : Prop where
  as : ∃ as, st'.ρ = st.ρ ++ as
  fr : st'.fr = st.fr
  fo : st'.fo = st.fo
  len : st'.ρ.length = st'.ob.length
  wf : st.wf = true
  keep : keepL mui 0 st.ob = keepL mui 0 (st'.ob.take st.ob.length)
  tl : ∀ p ∈ st'.tlc, p ∈ st.tlc ∨ p ∈ out
  ce : st'.ce = st.ce
  cap : CAp st'
  chg : ∀ i ∈ mui, (st'.ρ.getD i 0, (st'.ob.getD i (.raw default)).den st'.ρ) ∈ out
  new : ∀ i, st.ob.length ≤ i → i < st'.ob.length → (st'.ρ.getD i 0, (st'.ob.getD i (.raw default)).den st'.ρ) ∈ out
  dis : Dis st'
inductive Bk (st : XS) (mui : List Nat) (out : List (Addr × Obj)) (v : Value) (K : RV → XS → Prop) : Prop
  | mk (rv : RV) (st' : XS) (hv : v = rv.den st'.ρ) (N : Next st mui out st') (k : K rv st')
set_option tactic.hygienic true in
theorem frm_grow {st st' : XS} {as : List Addr} (hl : st.ρ.length = st.ob.length) (hw : st.wf = true) (h1 : st'.ρ = st.ρ ++ as) (h2 : st'.fr = st.fr) (h3 : st'.fo = st.fo) : frm st' = frm st := by
  have hw1 := (bA hw).1
  funext y
  show (match st'.fr.lookup y with | some v => some (v.den st'.ρ) | none => st'.fo y) = match st.fr.lookup y with | some v => some (v.den st.ρ) | none => st.fo y
  rw [h1, h2, h3]
  cases e : st.fr.lookup y with
  | none => rfl
  | some v => exact congrArg some (RV.den_grow (Nat.le_of_eq hl.symm) as _ (aT hw1 (y, v) (look_mem e)))
theorem Do.useE {c : XC} {G : GR} {frames : List Env} {base : Heap} {D U : Nat} {R : Int → List (Addr × Obj) → Prop} (Y : Uses G c frames base D U R) {D' U' : Nat} {f : Addr} {vs : List Value} {sub : List (Addr × Obj)} {mu : List Addr} {post : Value → List (Addr × Obj) → Prop} {rais : Int → List (Addr × Obj) → Prop}
    {st : XS} {K : RV → XS → Prop} (C : st.ρ.length = st.ob.length → Dis st → CT G D' U' f vs sub mu post rais) (mui : List Nat) (hD : Nat.ble D D' = true) (hU : Nat.ble U U' = true) (hs : st.ρ.length = st.ob.length → ∀ q ∈ sub, q ∈ led st) (hmu : mu = mui.map fun i => st.ρ.getD i 0) (hmi : mui.all (fun i => st.mu.contains i && Nat.blt i st.ob.length) = true)
    (k : ∀ v out, post v out → (∀ q ∈ out, q.1 ∈ mu ∨ NeAll q.1 (led st)) → Dis st → st.ρ.length = st.ob.length → CAp st → Bk st mui out v K)
    (r : ∀ e k' out rest h tk (s : Shared), Rest c s → rais k' out → Dis st → (∀ q ∈ led st, q ∈ rest ∨ q.1 ∈ mu) → (∀ q ∈ rest, q ∈ led st) → RaisedAt base c.h₀ c.fe frames c.L (frm st) (out ++ rest) h e k' → c.E (.ref e) { s with heap := h, toks := tk }) {rvs : List RV} (hv : rvs.map (RV.den st.ρ) = vs := by rfl) : DoC c (.ref f) rvs st K := by
  refine ⟨fun Q s z S hq => ?_⟩
  rw [hv]
  obtain ⟨A₀, B⟩ := Y.B
  obtain ⟨mean, mg, mb, Ok⟩ := Y.Ok
  have hprog := Y.prog
  have hw := Y.hw
  subst hmu
  have mmem : ∀ i ∈ mui, i ∈ st.mu ∧ st.ρ[i]? = some (st.ρ.getD i 0) ∧ i < st.ob.length := fun i hi => by
    have h0 := aT hmi i hi
    obtain ⟨h1, h2⟩ := bA h0
    have h2 : i < st.ob.length := Nat.le_of_ble_eq_true h2
    exact ⟨by simpa using h1, getD_at (S.len ▸ h2), h2⟩
  have apart : ∀ j a, st.ρ[j]? = some a → mui.contains j = false → a ∉ mui.map fun i => st.ρ.getD i 0 := fun j a e hj hm => by
    obtain ⟨i, hi, rfl⟩ := mM hm
    obtain ⟨h1, h2, _⟩ := mmem i hi
    refine (S.D i _ h1 h2).1 j _ e (fun q => ?_) rfl
    subst q
    simp at hj
    exact hj hi
  have apartT : ∀ p ∈ st.tlc, p.1 ∉ mui.map fun i => st.ρ.getD i 0 := fun p hp hm => by
    obtain ⟨i, hi, e⟩ := mM hm
    obtain ⟨h1, h2, _⟩ := mmem i hi
    exact (S.D i _ h1 h2).2 p hp e.symm
  have key := Ctr.use3 (C S.len S.D) (A := c.A) (env := c.fe) (s := s) (Q := Q) (E := c.E) B S.F S.N Ok Y.hA Y.fr Y.ff Y.kf (Nat.le_trans Y.hd (Nat.le_of_ble_eq_true hD)) (Nat.le_trans Y.hu (Nat.le_of_ble_eq_true hU)) (hs S.len) trivial (rest := (led st).filter fun p => !((mui.map fun i => st.ρ.getD i 0).contains p.1))
    (fun a ha => by
      obtain ⟨i, hi, rfl⟩ := mM ha
      obtain ⟨_, h2, h3⟩ := mmem i hi
      exact List.mem_map.mpr ⟨_, led_of h2 (List.getElem?_eq_getElem h3), rfl⟩)
    (fun q hq => (List.mem_filter.mp hq).1) (fun q hq hm => by
      have := (List.mem_filter.mp hq).2
      simp only [Bool.not_eq_true', List.contains_eq_mem, decide_eq_false_iff_not] at this
      exact this hm)
    (fun v out h' tk hp F' N' hn => by
      obtain ⟨rv, st', rfl, X, hk⟩ := k v out hp hn S.D S.len S.CE.ap
      obtain ⟨as, hρ⟩ := X.as
      refine hq rv st' h' tk hk ⟨by rw [frm_grow S.len X.wf hρ X.fr X.fo]; exact F', fun q hq' => N' q ?_, X.len, X.dis, S.CE.grow S.len X.wf hρ X.ce X.cap⟩ ⟨⟨as, hρ.symm⟩, by rw [X.ce]⟩
      have hw2 := (bA (bA X.wf).2).1
      rcases led_at hq' with ⟨j, o, h1, h2, h3⟩ | h
      · have hj' : j < st'.ob.length := (gS h2).1
        have e1 : st'.ρ.getD j 0 = q.1 := by rw [List.getD_eq_getElem?_getD, h1]; rfl
        have e2 : (st'.ob.getD j (.raw default)).den st'.ρ = q.2 := by rw [List.getD_eq_getElem?_getD, h2, h3]; rfl
        rcases Nat.lt_or_ge j st.ob.length with q1 | q1
        · cases hc : mui.contains j with
          | true =>
            have := X.chg j (by simpa using hc)
            rw [e1, e2] at this
            exact mL _ this
          | false =>
            have h4 := keep_is X.keep (List.getElem?_eq_getElem q1) hc
            rw [h4] at h2
            cases h2
            have h5 : st.ρ[j]? = some q.1 := by
              have h6 := getD_at (l := st.ρ) (j := j) (S.len ▸ q1)
              have := pre_at hρ h6
              rw [h1] at this
              rw [h6, Option.some.inj this]
            have h7 := led_of (st := st) h5 (List.getElem?_eq_getElem q1)
            have ho : (st.ob[j]).den st'.ρ = (st.ob[j]).den st.ρ := by
              rw [hρ]
              exact RO.den_grow (Nat.le_of_eq S.len.symm) as _ (aT hw2 _ (List.getElem_mem q1))
            rw [← ho, ← h3] at h7
            refine mR _ (List.mem_filter.mpr ⟨h7, ?_⟩)
            simp only [Bool.not_eq_true', List.contains_eq_mem, decide_eq_false_iff_not]
            exact apart j _ h5 hc
        · have := X.new j q1 hj'
          rw [e1, e2] at this
          exact mL _ this
      · rcases X.tl q h with h | h
        · refine mR _ (List.mem_filter.mpr ⟨mR _ h, ?_⟩)
          simp only [Bool.not_eq_true', List.contains_eq_mem, decide_eq_false_iff_not]
          exact apartT q h
        · exact mL _ h)
    (fun e k' out h' tk hr RA => r e k' out _ h' tk s z hr S.D (fun q hq => by
      cases hc : (mui.map fun i => st.ρ.getD i 0).contains q.1 with
      | true => exact .inr (by simpa using hc)
      | false => exact .inl (List.mem_filter.mpr ⟨hq, by rw [hc]; rfl⟩)) (fun q hq => (List.mem_filter.mp hq).1) RA)
  rw [← hprog, ← hw] at key
  exact key
theorem Do.use {c : XC} {G : GR} {frames : List Env} {base : Heap} {D U : Nat} {R : Int → List (Addr × Obj) → Prop} (Y : Uses G c frames base D U R) {D' U' : Nat} {f : Addr} {vs : List Value} {sub : List (Addr × Obj)} {mu : List Addr} {post : Value → List (Addr × Obj) → Prop} {rais : Int → List (Addr × Obj) → Prop}
    {st : XS} {K : RV → XS → Prop} (C : st.ρ.length = st.ob.length → Dis st → CT G D' U' f vs sub mu post rais) (mui : List Nat) (hD : Nat.ble D D' = true) (hU : Nat.ble U U' = true) (hs : st.ρ.length = st.ob.length → ∀ q ∈ sub, q ∈ led st) (hmu : mu = mui.map fun i => st.ρ.getD i 0) (hmi : mui.all (fun i => st.mu.contains i && Nat.blt i st.ob.length) = true)
    (k : ∀ v out, post v out → (∀ q ∈ out, q.1 ∈ mu ∨ NeAll q.1 (led st)) → Dis st → st.ρ.length = st.ob.length → CAp st → Bk st mui out v K)
    (r : ∀ e out rest, rais e out → Dis st → (∀ q ∈ led st, q ∈ rest ∨ q.1 ∈ mu) → (∀ q ∈ rest, q ∈ led st) → R e (out ++ rest)) {rvs : List RV} (hv : rvs.map (RV.den st.ρ) = vs := by rfl) : DoC c (.ref f) rvs st K :=
  Do.useE Y C mui hD hU hs hmu hmi k (fun e k' out rest h tk s z hr D h1 h2 RA => Y.rz e k' _ _ h tk s z (r k' out rest hr D h1 h2) RA) hv
theorem keepL_same (mui : List Nat) : ∀ (l l' : List RO) (k : Nat), l.length = l'.length → (∀ j o, l[j]? = some o → mui.contains (k + j) = false → l'[j]? = some o) → keepL mui k l = keepL mui k l'
  | [], [], _, _, _ => rfl
  | x :: l, y :: l', k, hl, h => by
    have ih := keepL_same mui l l' (k + 1) (Nat.succ.inj hl) fun j o e hj => h (j + 1) o e (by rw [← hj]; congr 1; lia)
    unfold keepL
    rw [ih]
    cases hc : mui.contains k with
    | true => rfl
    | false =>
      have := h 0 x rfl (by rw [← hc]; rfl)
      cases this
      rfl
  | [], _ :: _, _, hl, _ => by cases hl
  | _ :: _, [], _, hl, _ => by cases hl
theorem ne_at {st : XS} {a : Addr} (hl : st.ρ.length = st.ob.length) (h : NeAll a (led st)) : (∀ (j : Nat) (b : Addr), st.ρ[j]? = some b → b ≠ a) ∧ ∀ p ∈ st.tlc, p.1 ≠ a :=
  ⟨fun j b e => by
    have h1 : j < st.ρ.length := (gS e).1
    exact NeAll.all h _ (led_of e (List.getElem?_eq_getElem (hl ▸ h1))), fun p hp => NeAll.all h p (mR _ hp)⟩
theorem Dis.add {st : XS} {a : Addr} {o : RO} (hl : st.ρ.length = st.ob.length) (D : Dis st) (h : NeAll a (led st)) : Dis (st.add a o) := by
  obtain ⟨h1, h2⟩ := ne_at hl h
  have split : ∀ j b, (st.ρ ++ [a])[j]? = some b → (j < st.ob.length ∧ st.ρ[j]? = some b) ∨ (j = st.ob.length ∧ b = a) := fun j b e => by
    rcases Nat.lt_or_ge j st.ρ.length with q | q
    · rw [List.getElem?_append_left q] at e; exact .inl ⟨hl ▸ q, e⟩
    · rw [List.getElem?_append_right q] at e
      rcases Nat.eq_or_lt_of_le q with r | r
      · refine .inr ⟨by rw [← hl]; exact r.symm, ?_⟩
        rw [r, Nat.sub_self] at e; exact (Option.some.inj e).symm
      · rw [List.getElem?_eq_none (by simp; lia)] at e; exact none_no e
  intro i b hi hb
  rcases split _ _ hb with ⟨q1, q2⟩ | ⟨q1, q2⟩
  · have hi' : i ∈ st.mu := by
      rcases mK hi with h | h
      · exact absurd q1 (by rw [h]; exact Nat.lt_irrefl _)
      · exact h
    obtain ⟨d1, d2⟩ := D i b hi' q2
    refine ⟨fun j b' hj hne => ?_, d2⟩
    rcases split _ _ hj with ⟨_, q'⟩ | ⟨_, rfl⟩
    · exact d1 j b' q' hne
    · exact (h1 _ _ q2).symm
  · subst q2
    refine ⟨fun j b' hj hne => ?_, h2⟩
    rcases split _ _ hj with ⟨_, q'⟩ | ⟨q', _⟩
    · exact h1 _ _ q'
    · exact absurd (q'.trans q1.symm) hne
theorem cap_add {st : XS} {a : Addr} {o : RO} (A : CAp st) (hn : NeAll a (led st)) : CAp (st.add a o) := by
  intro e he
  refine ⟨fun j b hb => ?_, (A e he).2⟩
  have hb : (st.ρ ++ [a])[j]? = some b := hb
  rcases Nat.lt_or_ge j st.ρ.length with q | q
  · rw [List.getElem?_append_left q] at hb
    exact (A e he).1 j b hb
  · rw [List.getElem?_append_right q] at hb
    rcases Nat.eq_or_lt_of_le q with r | r
    · rw [r, Nat.sub_self] at hb
      have : a = b := Option.some.inj hb
      rw [← this]
      exact (NeAll.all hn (e.a, e.o) (mR _ (mL _ (List.mem_map.mpr ⟨e, he, rfl⟩)))).symm
    · rw [List.getElem?_eq_none (by simp; lia)] at hb; exact none_no hb
theorem contains_one {i j : Nat} (h : [i].contains j = false) : i ≠ j := by
  intro e; subst e; simp at h
section
variable {st : XS} {out : List (Addr × Obj)}
theorem Next.set1 {i : Nat} {o : RO} (hl : st.ρ.length = st.ob.length) (hw : st.wf = true) (D : Dis st) (A : CAp st) (hi : i < st.ob.length) (ho : (st.ρ.getD i 0, o.den st.ρ) ∈ out) : Next st [i] out (st.set i o) := by
  have hlen : (st.ob.set i o).length = st.ob.length := List.length_set ..
  refine ⟨⟨[], by simp [XS.set]⟩, rfl, rfl, by show st.ρ.length = (st.ob.set i o).length; rw [hlen, hl], hw, ?_, fun p h => .inl h, rfl, A, fun j hj => ?_, fun j h1 h2 => absurd h2 (by show ¬ j < (st.ob.set i o).length; rw [hlen]; exact Nat.not_lt.mpr h1), D⟩
  · show keepL [i] 0 st.ob = keepL [i] 0 ((st.ob.set i o).take st.ob.length)
    rw [List.take_of_length_le (Nat.le_of_eq hlen)]
    refine keepL_same _ _ _ _ hlen.symm fun j x e hj => ?_
    rw [Nat.zero_add] at hj
    rw [List.getElem?_set_ne (contains_one hj)]; exact e
  · cases mG hj
    show (st.ρ.getD i 0, ((st.ob.set i o).getD i (.raw default)).den st.ρ) ∈ out
    have e2 : (st.ob.set i o).getD i (.raw default) = o := by rw [List.getD_eq_getElem?_getD, List.getElem?_set_self hi]; rfl
    rw [e2]; exact ho
theorem Next.add1 {a : Addr} {o : RO} (hl : st.ρ.length = st.ob.length) (hw : st.wf = true) (D : Dis st) (A : CAp st) (hn : NeAll a (led st)) (ho : (a, o.den (st.ρ ++ [a])) ∈ out) : Next st [] out (st.add a o) := by
  refine ⟨⟨[a], rfl⟩, rfl, rfl, by show (st.ρ ++ [a]).length = (st.ob ++ [o]).length; simp [hl], hw, ?_, fun p h => .inl h, rfl, cap_add A hn, fun _ h => (nomatch h), fun j h1 h2 => ?_, D.add hl hn⟩
  · show keepL [] 0 st.ob = keepL [] 0 ((st.ob ++ [o]).take st.ob.length)
    rw [List.take_left]
  · have hj : j = st.ob.length := by
      have h2 : j < (st.ob ++ [o]).length := h2
      simp at h2; lia
    subst hj
    show ((st.ρ ++ [a]).getD st.ob.length 0, ((st.ob ++ [o]).getD st.ob.length (.raw default)).den (st.ρ ++ [a])) ∈ out
    have e1 : (st.ρ ++ [a]).getD st.ob.length 0 = a := by rw [← hl]; simp
    have e2 : (st.ob ++ [o]).getD st.ob.length (.raw default) = o := by simp
    rw [e1, e2]; exact ho
theorem Next.setadd {i : Nat} {a : Addr} {o o1 : RO} (hl : st.ρ.length = st.ob.length) (hw : st.wf = true) (D : Dis st) (A : CAp st) (hi : i < st.ob.length) (hn : NeAll a (led st)) (ho1 : (st.ρ.getD i 0, o1.den (st.ρ ++ [a])) ∈ out) (ho : (a, o.den (st.ρ ++ [a])) ∈ out) : Next st [i] out ((st.add a o).set i o1) := by
  have hlen : ((st.ob ++ [o]).set i o1).length = st.ob.length + 1 := by rw [List.length_set]; simp
  have e0 : (st.ρ ++ [a]).getD i 0 = st.ρ.getD i 0 := by
    rw [List.getD_eq_getElem?_getD, List.getD_eq_getElem?_getD, List.getElem?_append_left (hl ▸ hi)]
  refine ⟨⟨[a], rfl⟩, rfl, rfl, by show (st.ρ ++ [a]).length = ((st.ob ++ [o]).set i o1).length; rw [hlen]; simp [hl], hw, ?_, fun p h => .inl h, rfl, cap_add (o := o) A hn, fun j hj => ?_, fun j h1 h2 => ?_, D.add (o := o) hl hn⟩
  · show keepL [i] 0 st.ob = keepL [i] 0 (((st.ob ++ [o]).set i o1).take st.ob.length)
    refine keepL_same _ _ _ _ (by rw [List.length_take, hlen]; lia) fun j x e hj => ?_
    rw [Nat.zero_add] at hj
    have hjl : j < st.ob.length := (gS e).1
    rw [List.getElem?_take, if_pos hjl, List.getElem?_set_ne (contains_one hj), List.getElem?_append_left hjl]; exact e
  · cases mG hj
    show ((st.ρ ++ [a]).getD i 0, (((st.ob ++ [o]).set i o1).getD i (.raw default)).den (st.ρ ++ [a])) ∈ out
    have e2 : ((st.ob ++ [o]).set i o1).getD i (.raw default) = o1 := by rw [List.getD_eq_getElem?_getD, List.getElem?_set_self (by simp; lia)]; rfl
    rw [e0, e2]; exact ho1
  · have hj : j = st.ob.length := by
      have h2 : j < ((st.ob ++ [o]).set i o1).length := h2
      rw [hlen] at h2; lia
    subst hj
    show ((st.ρ ++ [a]).getD st.ob.length 0, (((st.ob ++ [o]).set i o1).getD st.ob.length (.raw default)).den (st.ρ ++ [a])) ∈ out
    have e1 : (st.ρ ++ [a]).getD st.ob.length 0 = a := by rw [← hl]; simp
    have e2 : ((st.ob ++ [o]).set i o1).getD st.ob.length (.raw default) = o := by
      rw [List.getD_eq_getElem?_getD, List.getElem?_set_ne (by lia)]; simp
    rw [e1, e2]; exact ho
end
noncomputable def XS.addT (st : XS) (a : Addr) (o : RO) (tl : List (Addr × Obj)) : XS := { st.add a o with tl := tl ++ st.tl }
theorem Next.addT {st : XS} {a : Addr} {o : RO} {tl out : List (Addr × Obj)} (hl : st.ρ.length = st.ob.length) (hw : st.wf = true) (D : Dis st) (A : CAp st) (hn : NeAll a (led st)) (ho : (a, o.den (st.ρ ++ [a])) ∈ out) (ha : NeAll a tl) (ht : ∀ p ∈ tl, p ∈ out ∧ NeAll p.1 (led st)) : Next st [] out (st.addT a o tl) := by
  have N1 := Next.add1 hl hw D A hn ho
  refine ⟨N1.as, N1.fr, N1.fo, N1.len, N1.wf, N1.keep, fun p hp => ?_, rfl, fun e he => ⟨(N1.cap e he).1, fun p hp => ?_⟩, N1.chg, N1.new, fun i b hi hb => ?_⟩
  · rcases mA hp with h | h
    · exact .inl (mL _ h)
    · rcases mA h with h | h
      · exact .inr (ht p h).1
      · exact .inl (mR _ h)
  · rcases mA hp with h | h
    · exact fun q => (NeAll.all (ht p h).2 (e.a, e.o) (mR _ (mL _ (List.mem_map.mpr ⟨e, he, rfl⟩)))) q.symm
    · exact (A e he).2 p h
  · obtain ⟨d1, d2⟩ := N1.dis i b hi hb
    refine ⟨d1, fun p hp => ?_⟩
    rcases (show p ∈ tl ∨ p ∈ st.tlc from by
      rcases mA hp with h | h
      · exact .inr (mL _ h)
      · exact (mA h).imp id fun h => mR _ h) with h | h
    · have hb' : (st.ρ ++ [a])[i]? = some b := hb
      rcases Nat.lt_or_ge i st.ρ.length with q | q
      · rw [List.getElem?_append_left q] at hb'
        exact fun e => (ne_at hl (ht p h).2).1 i b hb' e.symm
      · rw [List.getElem?_append_right q] at hb'
        have : b = a := by
          rcases Nat.eq_or_lt_of_le q with r | r
          · rw [r, Nat.sub_self] at hb'; exact (Option.some.inj hb').symm
          · rw [List.getElem?_eq_none (by simp; lia)] at hb'; cases hb'
        rw [this]
        exact NeAll.all ha p h
    · exact d2 p h
end
section
theorem mem_led {st : XS} {i : Nat} {o : RO} (hl : st.ρ.length = st.ob.length) (e : st.ob[i]? = some o) : (st.ρ.getD i 0, o.den st.ρ) ∈ led st := by
  have h1 : i < st.ob.length := (gS e).1
  exact led_of (getD_at (hl ▸ h1)) e
section
variable {c : XC} {G : GR} {frames : List Env} {base : Heap} {D U : Nat} {R : Int → List (Addr × Obj) → Prop} {st : XS} {K : RV → XS → Prop}
inductive Bk0 (v : Value) (K : RV → XS → Prop) (st : XS) : Prop
  | mk (rv : RV) (hv : v = rv.den st.ρ) (k : K rv st)
theorem Do.use0 (Y : Uses G c frames base D U R) {D' U' : Nat} {f : Addr} {vs : List Value} {sub : List (Addr × Obj)} {post : Value → List (Addr × Obj) → Prop}
    (C : CT G D' U' f vs sub [] post never) (hD : Nat.ble D D' = true) (hU : Nat.ble U U' = true) (hs : st.ρ.length = st.ob.length → ∀ q ∈ sub, q ∈ led st) (k : ∀ v out, post v out → Bk0 v K st) {rvs : List RV} (hv : rvs.map (RV.den st.ρ) = vs := by rfl) : DoC c (.ref f) rvs st K := by
  refine ⟨fun Q s z S hq => ?_⟩
  rw [hv]
  obtain ⟨A₀, B⟩ := Y.B
  obtain ⟨mean, mg, mb, Ok⟩ := Y.Ok
  have hprog := Y.prog
  have hw := Y.hw
  have key := Ctr.use3 C (A := c.A) (env := c.fe) (s := s) (Q := Q) (E := c.E) B S.F S.N Ok Y.hA Y.fr Y.ff Y.kf (Nat.le_trans Y.hd (Nat.le_of_ble_eq_true hD)) (Nat.le_trans Y.hu (Nat.le_of_ble_eq_true hU)) (hs S.len) trivial (rest := led st)
    (fun _ h => nomatch h) (fun _ h => h) (fun _ _ h => nomatch h) (fun v out h' tk hp F' N' _ => by
      obtain ⟨rv, rfl, hk⟩ := k v out hp
      exact hq rv st h' tk hk ⟨F', fun q h => N' q (mR _ h), S.len, S.D, S.CE⟩ (Ext.refl _)) fun _ _ _ _ _ h => h.elim
  rw [← hprog, ← hw] at key
  exact key
theorem x_len {i : Nat} {vs : List Value} {n : Nat} (e : st.ob[i]? = some (.lst vs n)) (hl : vs.length ≤ 1000) (k : ∀ t, K (.v (.int vs.length t)) st) : DoC c (.builtin "len") [.r i] st K :=
  ⟨fun _ _ _ S hq => my_len S.N (S.mem e) hl (hq _ _ _ _ (k _) S (Ext.refl _))⟩
theorem x_item {i j : Nat} {vs : List Value} {n : Nat} {a : Int} {t : Tok} {val sl : Expr} (rv : RV) (e : st.ob[i]? = some (.lst vs n)) (ha : a = j) (hv : vs[j]? = some (rv.den st.ρ)) (hl : vs.length ≤ 1000) (h2 : noSlice sl = true) (k : K rv st) :
    Do c (subscriptTail val sl ((RV.r i).den st.ρ) ((RV.v (.int a t)).den st.ρ)) st K :=
  ⟨fun _ _ _ S hq => kba_turn (value' := .Name "x" default) (fun _ => rfl) (my_item S.N (S.mem e) hv ha hl (hq _ _ _ _ k S (Ext.refl _)) (sl_is h2) fun _ => rfl)⟩
end
section
variable {c : XC} {st : XS}
theorem x_setitem {K : Unit → XS → Prop} {i j : Nat} {vs : List Value} {n : Nat} {a : Int} {t : Tok} {rv : RV} (e : st.ob[i]? = some (.lst vs n)) (hi : st.mu.contains i = true) (ha : a = j) (hj : j < vs.length) (hl : vs.length ≤ 1000) (k : K () (st.set i (.lst (vs.set j (rv.den st.ρ)) n))) :
    DoU c (setItem ((RV.r i).den st.ρ) ((RV.v (.int a t)).den st.ρ) (rv.den st.ρ)) st K :=
  ⟨fun _ _ _ S hq => my_set S.F S.N ha hj hl (S.upd e (by simpa using hi) (.lst (vs.set j (rv.den st.ρ)) n)) fun h' F' N' => hq () _ h' _ k (S.setTo F' N') ⟨List.prefix_refl _, rfl⟩⟩
theorem x_truth {K : Bool → XS → Prop} {i : Nat} {vs : List Value} {n : Nat} (e : st.ob[i]? = some (.lst vs n)) (hl : vs.length ≤ 1000) (k : K (!vs.isEmpty) st) : DoB c (truthy ((RV.r i).den st.ρ)) st K :=
  ⟨fun _ _ _ S hq => my_truthy S.N (S.mem e) hl (hq _ _ _ _ k S (Ext.refl _))⟩
theorem x_append {K : RV → XS → Prop} {i : Nat} {vs : List Value} {n : Nat} {rv : RV} (e : st.ob[i]? = some (.lst vs n)) (hi : st.mu.contains i = true) (hl : vs.length ≤ 1000) (k : K (.v .none) (st.set i (.lst (vs ++ [rv.den st.ρ]) (n + 1)))) :
    DoC c (.builtin "list.append") [.r i, rv] st K :=
  ⟨fun _ _ _ S hq => my_append S.F S.N hl (S.upd e (by simpa using hi) (.lst (vs ++ [rv.den st.ρ]) (n + 1))) fun h' F' N' => hq (.v .none) _ h' _ k (S.setTo F' N') ⟨List.prefix_refl _, rfl⟩⟩
theorem x_pop {K : RV → XS → Prop} {i : Nat} {p : List Value} {n : Nat} (rv : RV) (e : st.ob[i]? = some (.lst (p ++ [rv.den st.ρ]) n)) (hi : st.mu.contains i = true) (hl : p.length ≤ 1000) (k : K rv (st.set i (.lst p (n + 1)))) :
    DoC c (.builtin "list.pop") [.r i] st K :=
  ⟨fun _ _ _ S hq => my_pop S.F S.N hl (S.upd e (by simpa using hi) (.lst p (n + 1))) fun h' F' N' => hq rv (st.set i (.lst p (n + 1))) h' _ k (S.setTo F' N') ⟨List.prefix_refl _, rfl⟩⟩
theorem x_reverse {K : RV → XS → Prop} {i : Nat} {vs : List Value} {n : Nat} (e : st.ob[i]? = some (.lst vs n)) (hi : st.mu.contains i = true) (hl : vs.length ≤ 1000) (k : K (.v .none) (st.set i (.lst vs.reverse n))) :
    DoC c (.builtin "list.reverse") [.r i] st K :=
  ⟨fun _ _ _ S hq => my_reverse S.F S.N hl (S.upd e (by simpa using hi) (.lst vs.reverse n)) fun h' F' N' => hq (.v .none) _ h' _ k (S.setTo F' N') ⟨List.prefix_refl _, rfl⟩⟩
end
theorem x_mul {c : XC} {st : XS} {K : RV → XS → Prop} {a b : Int} {t u : Tok} (h : IntMulOk a b) (k : ∀ t, K (.v (.int (a * b) t)) st) : Do c (binaryOp .Mult ((RV.v (.int a t)).den st.ρ) ((RV.v (.int b u)).den st.ρ)) st K :=
  ⟨fun _ _ _ S hq => PyProof.Rows.mul_int (hq _ _ _ _ (k _) S (Ext.refl _)) h⟩
end
section
section
variable {prog : Program} {w : World} {A : Around} {frames : List Env} {base : Heap} {K : Frag} {p : Program} {loose : List Str} {mean : ExcName → Option Value} {mg mb : Str → Option Value}
  {sub : List (Addr × Obj)} {s : Shared} {R : Result → Shared → Prop} {name qual : Str} {params : Arguments} {body : List Stmt} {scope : Scope} {dV kV doc pm cdv ct oc : Value} {an od : Option Addr} {osl : Array (Option Value)} {f : Addr} {args : Args} {binds : List (Str × Value)}
theorem enterC (C : Cx A frames base s.heap K p loose mean mg mb) (O : Own frames base s.heap sub)
    (ho : K.lookup f = some ⟨oc, od, .func (fnOf name qual params body scope dV kV doc pm an cdv ct), osl⟩) (hcd : codeIn K cdv qual = true) (hroom : A.depth < recursionLimit)
    (hbind : BindsTo s (fnOf name qual params body scope dV kV doc pm an cdv ct) args binds) (hkind : (binds.all fun y => scope.names.lookup y.1 == some .local || scope.names.lookup y.1 == some .cell) = true)
    (hnd : ((cellsFrom 0 scope.names []).map (·.1)).Nodup)
    (h : ∀ g L' h₁ tk cells, KeepBut s.heap g (sub.map (·.1)) → Fr g L' h₁ (bindL (envOfC qual scope L' f cdv).kindOf binds fun _ => none) → News g L' h₁ (cells ++ sub) →
      CellsAre (bindC (envOfC qual scope L' f cdv).kindOf binds fun _ => none) (cellsFrom (L' + 1) scope.names []) cells → (∀ n c, (n, c) ∈ cellsFrom (L' + 1) scope.names [] → L' < c) → Below A base frames g → K.In g → Top p loose mean mg mb g → (∀ p ∈ sub, p.1 < L') →
      wpAny (model prog w) (A.deeper (envOfC qual scope L' f cdv)) (execs body (envOfC qual scope L' f cdv))
        (fun fl s' => R (.ok (.ret (match fl with | .ret v => v | _ => .none))) s')
        (fun e s' => wpAny (model prog w) (A.deeper (envOfC qual scope L' f cdv)) (leaving (envOfC qual scope L' f cdv) e) (fun _ s'' => R (.error e) s'') (fun e' s'' => R (.error e') s'') s')
        { s with heap := h₁, toks := tk })
    (hco : scope.isCoroutine = false) (hgen : scope.isGenerator = false) (hk : scope.kind = .function) : codeAny (model prog w) A (.call (.ref f) args) R s := by
  have X := C.ok.X.keeps C.st
  refine codeAny_call_function hroom (X _ _ ho) rfl hco hgen rfl (codeRec_of X hcd) (hbind _ _ _ _ ?_)
  refine wpAny_newFunctionEnv_cells hk (kindsX hkind _) fun env' he s' x => ?_
  subst he
  refine ⟨(C.ok.T.nolimit.keeps C.st).keeps x.toInCall.keep, codeAny_func ?_⟩
  obtain ⟨h₁, tk, rfl, _⟩ := x.done
  have hk₁ := x.toInCall.keep
  have ab : ∀ n c, (n, c) ∈ cellsFrom (s.heap.objs.size + 1) scope.names [] → s.heap.objs.size < c := fun n c hm => x.above n c hm
  obtain ⟨cells, NC, Y⟩ := Cl.news (h₀ := s.heap) (Nat.le_refl _) fun n c hm => ⟨x.cell n c (lookup_of_mem_nodup (cellsFrom_names scope.names 0 (s.heap.objs.size + 1) [] [] rfl ▸ hnd) hm), x.above n c hm⟩
  obtain ⟨B, X', T'⟩ := ground_sub C O
  refine h _ s.heap.objs.size h₁ tk cells (fun b o e n => hideAll_get _ e n) ⟨x.toInCall.ns, fun b o e => hk₁ b o (of_hideAll _ e), Nat.le_of_eq (hideAll_size _ _)⟩ (fun p hp => ?_) Y ab B X' T' (fun q hq => Heap.lt_size (O q hq).1)
  rcases mA hp with hp | hp
  · refine ⟨(NC p hp).1, (NC p hp).2.1, ?_⟩
    cases q : (hideAll s.heap (sub.map (·.1))).get? p.1 with
    | none => rfl
    | some o => have := of_hideAll _ q; rw [(NC p hp).2.2] at this; exact none_no this
  · exact ⟨hk₁ _ _ (O p hp).1, Nat.ne_of_lt (Heap.lt_size (O p hp).1), hideAll_none _ (List.mem_map_of_mem hp)⟩
end
noncomputable def ifs (ρ : List Addr) : List (Str × RV) → Str → Option Value
  | [] => fun _ => none
  | (n, v) :: r => fun y => if y = n then some (v.den ρ) else ifs ρ r y
theorem ifs_is (ρ : List Addr) (y : Str) : ∀ l : List (Str × RV), (l.lookup y).map (RV.den ρ) = ifs ρ l y
  | [] => rfl
  | (n, v) :: r => by
    rw [List.lookup_cons]
    unfold ifs
    by_cases h : y = n
    · subst h; simp
    · rw [if_neg h, beq_eq_false_iff_ne.mpr h]; exact ifs_is ρ y r
noncomputable def mkCE (cv : List (Str × RV)) : List (Str × Addr) → (Nat → Obj) → List CE
  | [], _ => []
  | (n, a) :: r, o => ⟨n, a, o 0, cv.lookup n, false, true⟩ :: mkCE cv r fun k => o (k + 1)
theorem mkCE_of {cm : Str → Option Value} {cv : List (Str × RV)} {ρ : List Addr} : ∀ {cs : List (Str × Addr)} {cells : List (Addr × Obj)}, CellsAre cm cs cells → (∀ p ∈ cs, cm p.1 = (cv.lookup p.1).map (RV.den ρ)) →
    ∃ o : Nat → Obj, (mkCE cv cs o).map (fun e => (e.a, e.o)) = cells ∧ ∀ e ∈ mkCE cv cs o, (e.x, e.a) ∈ cs ∧ e.o.data = .cell (e.v.map (RV.den ρ))
  | _, _, .nil, _ => ⟨fun _ => default, rfl, fun _ h => nomatch h⟩
  | _, _, .cons (n := n) (c := c) (o := ob) hd r, hv => by
    obtain ⟨o, h1, h2⟩ := mkCE_of r fun p hp => hv p (mC _ hp)
    refine ⟨fun k => match k with | 0 => ob | k + 1 => o k, ?_, fun e he => ?_⟩
    · show (c, ob) :: (mkCE cv _ o).map _ = _
      rw [h1]
    · rcases mK he with rfl | he
      · exact ⟨mS, by rw [hd, hv _ mS]⟩
      · obtain ⟨g1, g2⟩ := h2 e he
        exact ⟨mC _ g1, g2⟩
theorem mkCE_k (cv : List (Str × RV)) : ∀ (cs : List (Str × Addr)) (o : Nat → Obj), ∀ e ∈ mkCE cv cs o, e.k = false
  | [], _, _, h => nomatch h
  | (n, a) :: r, o, e, h => by
    rcases mK h with rfl | h
    · rfl
    · exact mkCE_k cv r _ e h
theorem mkCE_adr (cv : List (Str × RV)) : ∀ (cs : List (Str × Addr)) (o : Nat → Obj), (mkCE cv cs o).map (·.a) = cs.map (·.2)
  | [], _ => rfl
  | (n, a) :: r, o => by
    show a :: (mkCE cv r _).map (·.a) = _
    rw [mkCE_adr cv r]; rfl
set_option tactic.hygienic true in
theorem CT.exC {G : GR} (HG : GrF G.K) {D U : Nat} {f : Addr} {vs : List Value} {sub : List (Addr × Obj)} {mu : List Addr} {post : Value → List (Addr × Obj) → Prop} {rais : Int → List (Addr × Obj) → Prop}
    {name qual : Str} {params : Arguments} {body : List Stmt} {scope : Scope} {dV kV doc pm cdv ct oc : Value} {an od : Option Addr} {osl : Array (Option Value)} {binds : List (Str × Value)}
    (n : Nat) (st : XS) (cv : List (Str × RV)) (ho : G.K.lookup f = some ⟨oc, od, .func (fnOf name qual params body scope dV kV doc pm an cdv ct), osl⟩) (hcd : codeIn G.K cdv qual = true) (hroom : D < recursionLimit)
    (hbind : ∀ s, BindsTo s (fnOf name qual params body scope dV kV doc pm an cdv ct) ⟨vs, []⟩ binds) (hkind : (binds.all fun y => scope.names.lookup y.1 == some .local || scope.names.lookup y.1 == some .cell) = true)
    (hnd : ((cellsFrom 0 scope.names []).map (·.1)).Nodup) (hna : ∀ L, ((cellsFrom (L + 1) scope.names []).map (·.2)).Nodup)
    (hco : scope.isCoroutine = false) (hgen : scope.isGenerator = false) (hk : scope.kind = .function)
    (hf : ∀ L, bindL (envOfC qual scope L f cdv).kindOf binds (fun _ => none) = ifs st.ρ st.fr) (hv : ∀ L, ∀ p ∈ cellsFrom (L + 1) scope.names [], bindC (envOfC qual scope L f cdv).kindOf binds (fun _ => none) p.1 = (cv.lookup p.1).map (RV.den st.ρ)) (hfo : st.fo = fun _ => none)
    (hs : ∀ q, q ∈ led st ↔ q ∈ sub) (hl : st.ρ.length = st.ob.length) (hce : st.ce = []) (hD : Dis st)
    (VC : ∀ (c : XC) (frames : List Env) (base : Heap) (L : Addr) (o : Nat → Obj), Uses G c frames base (D + 1) (U + 3) (ROwes sub mu rais) → c.Ok ⟨scope, GL, FS, TAB, ME, false⟩ → exS ⟨scope, GL, FS, TAB, ME, false⟩ c n body { st with ce := mkCE cv (cellsFrom (L + 1) scope.names []) o } (EndX st mu post)) :
    CT G D U f vs sub mu post rais := by
  unfold CT
  refine Ctr.of_room ?_
  intro frames gd base mean mg mb s Q E C O _ he hr
  refine wpAny_call ?_
  refine enterC C O ho hcd hroom (hbind s) hkind hnd ?_ hco hgen hk
  intro g' L' h' tk' cells kg' F' N' Y' ab B' X' T' hlt
  obtain ⟨o, hc1, hc2⟩ := mkCE_of (cv := cv) (ρ := st.ρ) Y' (hv L')
  have hnd' : ((cellsFrom (L' + 1) scope.names []).map (·.1)).Nodup := cellsFrom_names scope.names 0 (L' + 1) [] [] rfl ▸ hnd
  have lows : ∀ q ∈ led st, q.1 < L' := fun q hq => hlt q ((hs q).1 hq)
  have ems : ∀ e ∈ mkCE cv (cellsFrom (L' + 1) scope.names []) o, L' < e.a := fun e he => ab _ _ (hc2 e he).1
  have hρ : ∀ (j : Nat) (b : Addr), st.ρ[j]? = some b → b < L' := fun j b e => by
    have h1 : j < st.ρ.length := (gS e).1
    exact lows _ (led_of e (List.getElem?_eq_getElem (hl ▸ h1)))
  have htl : ∀ p ∈ st.tl, p.1 < L' := fun p hp => lows p (mR _ (mR _ hp))
  let st' : XS := { st with ce := mkCE cv (cellsFrom (L' + 1) scope.names []) o }
  have hled : ∀ q ∈ led st', q ∈ cells ++ sub := fun q hq => by
    rcases mA hq with h | h
    · exact mR _ ((hs q).1 (mL _ h))
    · rcases mA h with h | h
      · have h : q ∈ (mkCE cv (cellsFrom (L' + 1) scope.names []) o).map (fun e => (e.a, e.o)) := h
        rw [hc1] at h; exact mL _ h
      · exact mR _ ((hs q).1 (mR _ (mR _ h)))
  let EK : Value → Shared → Prop := fun e s' => wpAny (model PG G.w) (({ handled := none, depth := D, frames := some frames, guards := gd, units := U } : Around).deeper (envOfC qual scope L' f cdv)) (leaving (envOfC qual scope L' f cdv) e) (fun _ s'' => E e s'') (fun e' s'' => E e' s'') s'
  have S : Sat ⟨{ s with heap := h', toks := tk' }, PG, G.w, ({ handled := none, depth := D, frames := some frames, guards := gd, units := U } : Around).deeper (envOfC qual scope L' f cdv), EK, G.K, g', L', envX qual scope L' f cdv (cellsFrom (L' + 1) scope.names []), envX qual scope L' f cdv (cellsFrom (L' + 1) scope.names []), 0⟩ st' h' := by
    refine ⟨?_, fun q hq => N' q (hled q hq), hl, fun i a hi ha => ?_, ⟨fun e he _ _ => ⟨lookup_of_mem_nodup hnd' (hc2 e he).1, (hc2 e he).2⟩, fun e he _ hx => absurd hx (by rw [mkCE_k _ _ _ e he]; decide), fun e he => ⟨fun j b hb => Nat.ne_of_lt (Nat.lt_trans (hρ j b hb) (ems e he)), fun p hp => Nat.ne_of_lt (Nat.lt_trans (htl p hp) (ems e he))⟩, ?_⟩⟩
    · have : frm st' = bindL (envOfC qual scope L' f cdv).kindOf binds fun _ => none := by
        rw [hf L']; exact funext fun y => (frm_none hfo y).trans (ifs_is st.ρ y st.fr)
      rw [this]; exact F'
    · obtain ⟨d1, d2⟩ := hD i a hi ha
      refine ⟨d1, fun p hp => ?_⟩
      rcases mA hp with h | h
      · obtain ⟨e, he, rfl⟩ := mM h
        exact Nat.ne_of_gt (Nat.lt_trans (hρ i a ha) (ems e he))
      · exact d2 p (mR _ h)
    · show ((mkCE cv (cellsFrom (L' + 1) scope.names []) o).map (·.a)).Nodup
      rw [mkCE_adr]; exact hna L'
  have hO := ok_of (pn := 0) (s := { s with heap := h', toks := tk' }) (prog := PG) (E := EK) (A := ({ handled := none, depth := D, frames := some frames, guards := gd, units := U } : Around).deeper (envOfC qual scope L' f cdv)) (cn := qual) (af := f) (L := L') (ccd := cdv) (cl := cellsFrom (L' + 1) scope.names []) HG PassesOwn.leaving hk rfl X' T'
  refine exS_ok hO n body st' (EndX st mu post) (VC _ frames base L' o ?_ hO) _ { s with heap := h', toks := tk' } ⟨rfl, rfl, rfl⟩ S fun f' st2 h2 tk2 H S2 _ => ?_
  · refine ⟨HG, rfl, rfl, rfl, X', ⟨_, B'⟩, ⟨_, _, _, C.ok⟩, rfl, rfl, rfl, hk, Nat.le_refl _, Nat.le_refl _, ?_⟩
    intro e k m news h2 tk2 s2 z ⟨out, r1, r2, r3, r4⟩ RA
    exact RaisedAt.close (s' := { s2 with heap := h2, toks := tk2 }) RA hr O kg' B' rfl rfl out r1 r2 r3 r4 z.gens z.drawn z.os
  · obtain ⟨out, h3, h4, h5⟩ := H.run S2.D
    cases f' <;> exact Ends.close he O kg' S2.F S2.N _ out (fun q hq => h3 q ((hs q).2 hq)) (fun q hq => ⟨(h4 q hq).1, (h4 q hq).2.imp id fun h x hx => h x ((hs x).2 hx)⟩) h5 rfl rfl rfl
end
section
theorem led_addT {st : XS} {a : Addr} {o : RO} {tl : List (Addr × Obj)} (hl : st.ρ.length = st.ob.length) (hw : st.wf = true) {q : Addr × Obj} : q ∈ led (st.addT a o tl) ↔ q = (a, o.den (st.ρ ++ [a])) ∨ q ∈ led st ∨ q ∈ tl := by
  have h0 := led_add hl hw a o
  constructor
  · intro h
    rcases mA h with h | h
    · have h : q ∈ led (st.add a o) := mL _ h
      rw [h0] at h
      rcases mA h with h | h
      · exact .inr (.inl (mL _ h))
      · rcases mK h with h | h
        · exact .inl h
        · exact .inr (.inl (mR _ h))
    · rcases mA h with h | h
      · exact .inr (.inl (mR _ (mL _ h)))
      · rcases mA h with h | h
        · exact .inr (.inr h)
        · exact .inr (.inl (mR _ (mR _ h)))
  · have up : q ∈ led (st.add a o) → q ∈ led (st.addT a o tl) := fun h => by
      rcases mA h with h | h
      · exact mL _ h
      · rcases mA h with h | h
        · exact mR _ (mL _ h)
        · exact mR _ (mR _ (mR _ h))
    rintro (h | h | h)
    · exact up (by rw [h0, h]; exact mR _ mS)
    · refine up ?_
      rw [h0]
      rcases mA h with h | h
      · exact mL _ h
      · exact mR _ (mC _ h)
    · exact mR _ (mR _ (mL _ h))
theorem Sat.addT {c : XC} {st : XS} {h h' : Heap} {a : Addr} {o : RO} {tl : List (Addr × Obj)} (S : Sat c st h) (hw : st.wf = true) (F : Fr c.h₀ c.L h' (frm st)) (N : News c.h₀ c.L h' ((a, o.den (st.ρ ++ [a])) :: (led st ++ tl))) (hn : NeAll a (led st)) (ha : NeAll a tl) (ht : ∀ p ∈ tl, NeAll p.1 (led st)) : Sat c (st.addT a o tl) h' := by
  have X := Next.addT (out := (a, o.den (st.ρ ++ [a])) :: tl) S.len hw S.D S.CE.ap hn mS ha fun p hp => ⟨mC _ hp, ht p hp⟩
  refine ⟨by rw [show frm (st.addT a o tl) = frm st from frm_grow (as := [a]) S.len hw rfl rfl rfl]; exact F, fun q hq => N q ?_, X.len, X.dis, S.CE.grow (as := [a]) S.len hw rfl rfl X.cap⟩
  rcases (led_addT S.len hw).mp hq with h | h | h
  · rw [h]; exact mS
  · exact mC _ (mL _ h)
  · exact mC _ (mR _ h)
theorem EndX.outT {st₀ st : XS} {post : Value → List (Addr × Obj) → Prop} {f : RF} {a : Addr} {o : RO} {tl : List (Addr × Obj)} (h0 : ∀ q ∈ led st₀, q ∈ led st) (hl : st.ρ.length = st.ob.length) (hw : st.wf = true) (hn : NeAll a (led st)) (ht : ∀ p ∈ tl, NeAll p.1 (led st))
    (hp : post (match f.den (st.ρ ++ [a]) with | .ret v => v | _ => .none) ((a, o.den (st.ρ ++ [a])) :: tl)) : EndX st₀ [] post f (st.addT a o tl) :=
  ⟨fun _ => ⟨(a, o.den (st.ρ ++ [a])) :: tl, fun q hq => .inr ((led_addT hl hw).mpr (.inr (.inl (h0 q hq)))), fun q hq => by
    rcases mK hq with rfl | hq
    · exact ⟨(led_addT hl hw).mpr (.inl rfl), .inr fun x hx => NeAll.all hn x (h0 x hx)⟩
    · exact ⟨(led_addT hl hw).mpr (.inr (.inr hq)), .inr fun x hx => NeAll.all (ht q hq) x (h0 x hx)⟩, hp⟩⟩
theorem led_sub {st st' : XS} (as : List Addr) (os : List RO) (h1 : st'.ρ = st.ρ ++ as) (h2 : st'.ob = st.ob ++ os) (h3 : ∀ p ∈ st.tlc, p ∈ st'.tlc) (hl : st.ρ.length = st.ob.length) (hw : st.ob.all (RO.wf st.ob.length) = true) : ∀ q ∈ led st, q ∈ led st' := fun q hq => by
  rcases led_at hq with ⟨j, o, e1, e2, e3⟩ | h
  · have e4 : st'.ob[j]? = some o := by rw [h2, List.getElem?_append_left (gS e2).1]; exact e2
    have := led_of (st := st') (pre_at h1 e1) e4
    have ho : o.den st'.ρ = o.den st.ρ := by
      rw [h1]
      exact RO.den_grow (Nat.le_of_eq hl.symm) as o (aT hw o (List.mem_of_getElem? e2))
    rw [ho, ← e3] at this
    exact this
  · exact mR _ (h3 q h)
end
section
def CTc (G : GR) (D U : Nat) (f : Addr) (vs : List Value) (sub : List (Addr × Obj)) (mu : List Addr) (post : Value → List (Addr × Obj) → Prop) (rais : Int → List (Addr × Obj) → Prop) : Prop :=
  ∀ (A : Around) (frames : List Env) (base : Heap) (mean : ExcName → Option Value) (mg mb : Str → Option Value) (s : Shared) (Q E : Value → Shared → Prop),
    Cx A frames base s.heap G.K G.p G.loose mean mg mb → Own frames base s.heap sub → A.depth ≤ D → A.units ≤ U → Ends s mu post Q → Raises s frames mu rais E →
      codeAny (model PG G.w) A (.call (.ref f) ⟨vs, []⟩) (fun r s' => match r with | .ok (.ret v) => Q v s' | .ok _ => False | .error e => E e s') s
theorem CTc.ex {G : GR} (HG : GrF G.K) {D U : Nat} {f : Addr} {vs : List Value} {sub : List (Addr × Obj)} {mu : List Addr} {post : Value → List (Addr × Obj) → Prop} {rais : Int → List (Addr × Obj) → Prop}
    {name qual : Str} {params : Arguments} {body : List Stmt} {scope : Scope} {dV kV doc pm cdv ct oc : Value} {an od : Option Addr} {osl : Array (Option Value)} {binds : List (Str × Value)}
    (n : Nat) (st : XS) (ho : G.K.lookup f = some ⟨oc, od, .func (fnOf name qual params body scope dV kV doc pm an cdv ct), osl⟩) (hcd : codeIn G.K cdv qual = true) (hroom : D < recursionLimit)
    (hbind : ∀ s, BindsTo s (fnOf name qual params body scope dV kV doc pm an cdv ct) ⟨vs, []⟩ binds) (hloc : ∀ y ∈ binds, scope.names.lookup y.1 = some .local)
    (hco : scope.isCoroutine = false) (hgen : scope.isGenerator = false) (hk : scope.kind = .function) (hcell : ∀ x ∈ scope.names, x.2 ≠ .cell)
    (hf : binds.reverse = st.fr.map fun p => (p.1, p.2.den st.ρ)) (hfo : st.fo = fun _ => none) (hs : ∀ q, q ∈ led st ↔ q ∈ sub) (hl : st.ρ.length = st.ob.length) (hce : st.ce = []) (hD : Dis st)
    (VC : ∀ (c : XC) (frames : List Env) (base : Heap), Uses G c frames base (D + 1) (U + 3) (ROwes sub mu rais) → c.Ok ⟨scope, GL, FS, TAB, ME, false⟩ → exS ⟨scope, GL, FS, TAB, ME, false⟩ c n body st (EndX st mu post)) : CTc G D U f vs sub mu post rais := by
  intro A frames base mean mg mb s Q E C O hdA huA he hr
  refine enter C O ho hcd (Nat.lt_of_le_of_lt hdA hroom) (hbind s) hloc ?_ hco hgen hk hcell
  intro g' L' h' tk' kg' F' N' B' X' T' _
  refine ex_go HG (cl := []) n st F' (news := led st) (fun p hp => N' p ((hs p).1 hp)) X' T' hf hfo rfl hl hD hce PassesOwn.leaving hk C.hd (fun f' st' h2 tk2 H F2 N2 D2 => ?_) fun c hc hO => VC c frames base ?_ hO
  · obtain ⟨out, h3, h4, h5⟩ := H.run D2
    cases f' <;> exact Ends.close he O kg' F2 N2 _ out (fun q hq => h3 q ((hs q).2 hq)) (fun q hq => ⟨(h4 q hq).1, (h4 q hq).2.imp id fun h x hx => h x ((hs x).2 hx)⟩) h5 rfl rfl rfl
  · subst hc
    refine ⟨HG, rfl, rfl, rfl, X', ⟨_, B'⟩, ⟨_, _, _, C.ok⟩, C.hd, congrArg (Option.map _) C.fr, rfl, hk, Nat.succ_le_succ hdA, Nat.add_le_add_right huA 3, ?_⟩
    intro e k m news h2 tk2 s2 z ⟨out, r1, r2, r3, r4⟩ RA
    exact RaisedAt.close (s' := { s2 with heap := h2, toks := tk2 }) RA hr O kg' B' (congrArg (Option.map _) C.fr) rfl out r1 r2 r3 r4 z.gens z.drawn z.os
inductive MadeO (st : XS) (C x dx : Addr) (v : Value) (out : List (Addr × Obj)) (K : RV → XS → Prop) : Prop
  | mk (hv : v = .none) (o : RO) (h1 : (dx, o.den (st.ρ ++ [dx])) ∈ out) (h2 : (st.add dx o).wf = true) (k : K (.r (st.ob.length + 1)) ((st.add dx o).add x (.inst C st.ob.length)))
set_option tactic.hygienic true in
theorem Do.make {c : XC} {G : GR} {frames : List Env} {base : Heap} {D U : Nat} {R : Int → List (Addr × Obj) → Prop} (Y : Uses G c frames base D U R) {C fI : Addr} {D' U' : Nat} {vs : List Value} {st : XS} {K : RV → XS → Prop} {post : Addr → Addr → Value → List (Addr × Obj) → Prop}
    (hm : makesIn G.K C = true) (hi : findIn G.K (.ref C) "__init__" = some (some (.ref fI))) (hf : isFn G.K (.ref fI) = true)
    (I : ∀ x dx, x ≠ dx → CTc G D' U' fI (.ref x :: vs) [(x, instObj C dx), (dx, dictOf [] 0)] [dx] (post x dx) never) (hD : Nat.ble (D + 1) D' = true) (hU : Nat.ble (U + 4) U' = true)
    (hwf : st.wf = true) (k : ∀ x dx v out, post x dx v out → MadeO st C x dx v out K) {rvs : List RV} (hv : rvs.map (RV.den st.ρ) = vs := by rfl) : DoC c (.ref C) rvs st K := by
  refine ⟨fun Q s z S hq => ?_⟩
  rw [hv]
  obtain ⟨A₀, B⟩ := Y.B
  obtain ⟨mean, mg, mb, Ok⟩ := Y.Ok
  have hprog := Y.prog
  have hw := Y.hw
  have X := Y.X
  rw [Y.hK] at X
  refine call_cls S.F X S.N hm hi hf fun x dx h' F' N' l1 l2 => ?_
  have Cc := cx_of B F' Ok Y.hA Y.fr Y.ff Y.kf
  have Ow := own_of (sub := [(x, instObj C dx), (dx, dictOf [] 0)]) B N' (env := c.fe) Y.ff (all_cons mS (all_cons (mC _ mS) all_nil))
  have hne : x ≠ dx := Nat.ne_of_gt l2
  have hdx := N' _ (mC _ mS)
  have key := I x dx hne (c.A.under (.builtin "type.__call__" ⟨.ref C :: vs, []⟩)) (c.fe :: frames) base mean mg mb { s with heap := h' } (fun v s' => v = .none ∧ Q (.ref x) s') c.E ⟨Cc.hd, Cc.fr, Cc.st, Cc.ff, Cc.ok⟩ Ow ?d1 ?d2 (fun v out h2 tk kp ho hp => ?en) (fun _ _ _ _ _ _ _ _ h => h.elim)
  · rw [← hprog, ← hw] at key
    refine codeAny_mono key fun r s' hr => ?_
    cases r with
    | error e => exact hr
    | ok f => cases f with
      | ret v => exact hr
      | _ => exact hr.elim
  case d1 =>
    have : (c.A.under (.builtin "type.__call__" ⟨.ref C :: vs, []⟩)).depth ≤ c.A.depth + 1 := by
      first | exact Nat.le_refl _ | exact Nat.le_succ _ | simp [Around.under, Code.frames, Code.isFrame]
    exact Nat.le_trans this (Nat.le_trans (Nat.succ_le_succ Y.hd) (Nat.le_of_ble_eq_true hD))
  case d2 =>
    have e : (c.A.under (.builtin "type.__call__" ⟨.ref C :: vs, []⟩)).units ≤ c.A.units + 1 := by
      first | exact Nat.le_refl _ | exact Nat.le_succ _ | simp [Around.under, Code.cUnits, Code.frames, Code.isFrame]
    exact Nat.le_trans e (Nat.le_trans (Nat.succ_le_succ Y.hu) (Nat.le_trans (Nat.add_le_add_left (by decide : 1 ≤ 4) U) (Nat.le_of_ble_eq_true hU)))
  case en =>
    obtain ⟨hv, o, h3, h4, hk⟩ := k x dx v out hp
    refine ⟨hv, ?_⟩
    have hkeep : ∀ b ob, h'.get? b = some ob → b ≠ dx → h2.get? b = some ob := fun b ob e hb => kp b ob e (fun hm => hb (mG hm))
    obtain ⟨oL, es, ep, hL, hLd, hLk, hLf⟩ := id F'.ns
    have F2 : Fr c.h₀ c.L h2 (frm st) := ⟨⟨oL, es, ep, hkeep _ _ hL (Ne.symm hdx.2.1), hLd, hLk, hLf⟩, fun b ob e => hkeep b ob (F'.keep b ob e) (fun q => by rw [q, hdx.2.2] at e; cases e), F'.above⟩
    have N2 : ∀ q ∈ led st, h2.get? q.1 = some q.2 ∧ q.1 ≠ c.L ∧ c.h₀.get? q.1 = none := fun q hq' => by
      have n := N' q (mC _ (mC _ hq'))
      exact ⟨hkeep _ _ n.1 (Nat.ne_of_lt (l1 q hq')), n.2⟩
    have Nd : News c.h₀ c.L h2 ((dx, o.den (st.ρ ++ [dx])) :: led st) := all_cons ⟨(ho _ h3).1, hdx.2⟩ N2
    have S1 : Sat c (st.add dx o) h2 := S.add hwf F2 Nd l1
    have hx := N' _ mS
    have e1 : (RO.inst C st.ob.length).den ((st.add dx o).ρ ++ [x]) = instObj C dx := by
      show instObj C (((st.ρ ++ [dx]) ++ [x]).getD st.ob.length 0) = _
      rw [← S.len]; simp
    have l3 : ∀ p ∈ led (st.add dx o), p.1 < x := fun p hp' => by
      rw [led_add S.len hwf] at hp'
      rcases mA hp' with h | h
      · exact Nat.lt_trans (l1 p (mL _ h)) l2
      · rcases mK h with h | h
        · rw [h]; exact l2
        · exact Nat.lt_trans (l1 p (mR _ h)) l2
    have S2 : Sat c ((st.add dx o).add x (.inst C st.ob.length)) h2 := S1.add h4 S1.F (by rw [e1]; exact all_cons ⟨hkeep _ _ hx.1 hne, hx.2⟩ S1.N) l3
    have := hq (.r (st.ob.length + 1)) _ h2 tk hk S2 (Ext.add.trans Ext.add)
    have e2 : RV.den ((st.add dx o).add x (.inst C st.ob.length)).ρ (.r (st.ob.length + 1)) = .ref x := by
      show Value.ref (((st.ρ ++ [dx]) ++ [x]).getD (st.ob.length + 1) 0) = _
      rw [← S.len]; simp
    rw [e2] at this
    exact this
end
section
noncomputable def CE.off (e : CE) : CE := ⟨"", e.a, e.o, none, false, false⟩
noncomputable def bindRV (p : Arguments) (vs : List RV) : List (Str × RV) := ((p.args.map (·.arg)).zip vs).reverse
noncomputable def FD.ok (d : FD) : Bool := !d.scope.isCoroutine && (!d.scope.isGenerator && ((d.scope.kind == .function) && (d.scope.names.all (fun x => x.2 != .cell) && d.params.args.all fun a => d.scope.names.lookup a.arg == some .local)))
noncomputable def RF.rv : RF → RV
  | .ret v => v
  | _ => .v .none
noncomputable def XS.call (st : XS) (fr : List (Str × RV)) : XS := ⟨st.ρ, fr, st.ob, st.tl, st.mu, st.ce.map CE.off, fun _ => none⟩
noncomputable def XS.back (st st1 : XS) : XS := ⟨st1.ρ, st.fr, st1.ob, st1.tl, st1.mu, st.ce, st.fo⟩
def RIn (st : XS) (R : Int → List (Addr × Obj) → Prop) : Int → List (Addr × Obj) → Prop := fun k news => (∀ q ∈ led st, q.1 ∈ news.map (·.1)) ∧ R k news
structure SOk (st : XS) : Prop where
  len : st.ρ.length = st.ob.length
  D : Dis st
  ap : CAp st
  nd : (st.ce.map (·.a)).Nodup
theorem Sat.ok {c : XC} {st : XS} {h : Heap} (S : Sat c st h) : SOk st := ⟨S.len, S.D, S.CE.ap, S.CE.nd⟩
theorem call_tlc (st : XS) (fr : List (Str × RV)) : (st.call fr).tlc = st.tlc := by
  show (st.ce.map CE.off).map _ ++ st.tl = st.ce.map _ ++ st.tl
  rw [List.map_map]; rfl
theorem call_led (st : XS) (fr : List (Str × RV)) : led (st.call fr) = led st := by
  show st.ρ.zip _ ++ (st.call fr).tlc = _
  rw [call_tlc]; rfl
theorem SOk.call {st : XS} (H : SOk st) (fr : List (Str × RV)) : SOk (st.call fr) := by
  refine ⟨H.len, fun i a hi ha => ⟨(H.D i a hi ha).1, by rw [call_tlc]; exact (H.D i a hi ha).2⟩, fun e he => ?_, ?_⟩
  · obtain ⟨e', he', rfl⟩ := mM he
    exact H.ap e' he'
  · show ((st.ce.map CE.off).map (·.a)).Nodup
    rw [List.map_map]; exact H.nd
inductive InlPost (pn : Nat) (st0 : XS) (K : RF → XS → Prop) (v : Value) (out : List (Addr × Obj)) : Prop
  | mk (f : RF) (st1 : XS) (k : K f st1) (hv : v = f.rv.den st1.ρ) (ho : out = led st1) (O : SOk st1) (X : ExtP pn st0 st1)
theorem zip_rev (ns : List Str) (vs : List RV) (ρ : List Addr) : (ns.zip (vs.map (RV.den ρ))).reverse = ((ns.zip vs).reverse).map fun p => (p.1, p.2.den ρ) := by
  rw [List.map_reverse]
  congr 1
  induction ns generalizing vs with
  | nil => rfl
  | cons n ns ih => cases vs with
    | nil => rfl
    | cons v vs => exact congrArg _ (ih vs)
set_option tactic.hygienic true in
theorem CTc.inl {G : GR} (HG : GrF G.K) {D U : Nat} {f : Addr} {d : FD} (Fk : FnOk G.K f d) {st : XS} (HS : SOk st) {vs : List RV} {R : Int → List (Addr × Obj) → Prop} {K : RF → XS → Prop} (pn n : Nat) (hd : d.ok = true) (hroom : D < recursionLimit)
    (hb : ∀ name qual doc pm an cdv ct, bindArgs (fnOf name qual d.params d.body d.scope .none .none doc pm an cdv ct) ⟨vs.map (RV.den st.ρ), []⟩ = pure ((d.params.args.map (·.arg)).zip (vs.map (RV.den st.ρ))))
    (VC : ∀ c frames base, Uses G c frames base (D + 1) (U + 3) (RIn st R) → c.Ok ⟨d.scope, GL, FS, TAB, ME, false⟩ → c.pin = pn → exS ⟨d.scope, GL, FS, TAB, ME, false⟩ c n d.body (st.call (bindRV d.params vs)) K) :
    CTc G D U f (vs.map (RV.den st.ρ)) (led st) ((led st).map (·.1)) (InlPost pn (st.call (bindRV d.params vs)) K) (RIn st R) := by
  intro A frames base mean mg mb s Q E C O hdA huA he hr
  obtain ⟨name, qual, doc, pm, an, cdv, ct, oc, od, osl, ho, hcd⟩ := Fk
  unfold FD.ok at hd
  simp only [Bool.and_eq_true, Bool.not_eq_true', beq_iff_eq, List.all_eq_true, bne_iff_ne] at hd
  obtain ⟨hco, hgen, hk, hcell, hloc⟩ := hd
  refine enter C O ho hcd (Nat.lt_of_le_of_lt hdA hroom) (BindsTo.of_eq (hb ..)) (fun y hy => ?_) ?_ hco hgen hk hcell
  · obtain ⟨a, ha, e⟩ := mM (List.of_mem_zip (a := y.1) (b := y.2) hy).1
    rw [← e]; exact hloc a ha
  intro g' L' h' tk' kg' F' N' B' X' T' _
  have HS' := HS.call (bindRV d.params vs)
  have S : Sat ⟨{ s with heap := h', toks := tk' }, PG, G.w, A.deeper (envOf qual d.scope L' f cdv), fun e s' => wpAny (model PG G.w) (A.deeper (envOf qual d.scope L' f cdv)) (leaving (envOf qual d.scope L' f cdv) e) (fun _ s'' => E e s'') (fun e' s'' => E e' s'') s', G.K, g', L', envX qual d.scope L' f cdv [], envX qual d.scope L' f cdv [], pn⟩ (st.call (bindRV d.params vs)) h' := by
    refine ⟨?_, by rw [call_led]; exact N', HS'.len, HS'.D, ⟨fun e he hx => ?_, fun e he hx => ?_, HS'.ap, HS'.nd⟩⟩
    · have : frm (st.call (bindRV d.params vs)) = fun y => ((d.params.args.map (·.arg)).zip (vs.map (RV.den st.ρ))).reverse.lookup y := by
        rw [zip_rev]
        exact funext fun y => (frm_none rfl y).trans (lookup_map y _).symm
      rw [this]; exact F'
    · obtain ⟨e', _, rfl⟩ := mM he
      exact tf_no hx
    · obtain ⟨e', _, rfl⟩ := mM he
      exact tf_no hx
  have hO := ok_of (pn := pn) (s := { s with heap := h', toks := tk' }) (prog := PG) (E := fun e s' => wpAny (model PG G.w) (A.deeper (envOf qual d.scope L' f cdv)) (leaving (envOf qual d.scope L' f cdv) e) (fun _ s'' => E e s'') (fun e' s'' => E e' s'') s') (A := A.deeper (envOf qual d.scope L' f cdv)) (cn := qual) (af := f) (L := L') (ccd := cdv) (cl := []) HG PassesOwn.leaving hk C.hd X' T'
  refine exS_ok hO n d.body _ K (VC _ frames base ?_ hO rfl) _ { s with heap := h', toks := tk' } ⟨rfl, rfl, rfl⟩ S fun f' st1 h2 tk2 H S2 p2 => ?_
  · refine ⟨HG, rfl, rfl, rfl, X', ⟨_, B'⟩, ⟨_, _, _, C.ok⟩, C.hd, congrArg (Option.map _) C.fr, rfl, hk, Nat.succ_le_succ hdA, Nat.add_le_add_right huA 3, ?_⟩
    intro e k m news h2 tk2 s2 z hR RA
    refine RaisedAt.close (s' := { s2 with heap := h2, toks := tk2 }) RA hr O kg' B' (congrArg (Option.map _) C.fr) rfl news (fun q hq => .inl (List.mem_map_of_mem hq)) hR.1 (fun q hq => ⟨hq, ?_⟩) hR z.gens z.drawn z.os
    by_cases hm : q.1 ∈ (led st).map (·.1)
    · exact .inl hm
    · exact .inr fun x hx e => hm (e ▸ List.mem_map_of_mem hx)
  · have key : ∀ v, v = f'.rv.den st1.ρ → Q v { s with heap := h2, toks := tk2 } := fun v hv => by
      refine Ends.close (s' := { s with heap := h2, toks := tk2 }) he O kg' S2.F S2.N v (led st1) (fun q hq => .inl (List.mem_map_of_mem hq)) (fun q hq => ⟨hq, ?_⟩) ⟨f', st1, H, hv, rfl, S2.ok, p2⟩ rfl rfl rfl
      by_cases hm : q.1 ∈ (led st).map (·.1)
      · exact .inl hm
      · exact .inr fun x hx e => hm (e ▸ List.mem_map_of_mem hx)
    cases f' <;> exact key _ rfl
theorem pre_of {st st1 : XS} {fr : List (Str × RV)} (hl : st.ρ.length = st.ob.length) (X1 : ExtP st.ob.length (st.call fr) st1) : ∃ as, st1.ρ = st.ρ ++ as := by
  refine ⟨st1.ρ.drop st.ρ.length, List.ext_getElem? fun i => ?_⟩
  rcases Nat.lt_or_ge i st.ρ.length with h | h
  · rw [List.getElem?_append_left h]
    have h2 := List.getElem?_eq_getElem h
    rw [h2]
    exact X1.pre i _ (hl ▸ h) h2
  · rw [List.getElem?_append_right h, List.getElem?_drop]
    congr 1; lia
theorem Sat.back {c c1 : XC} {st st1 : XS} {h h1 : Heap} {fr : List (Str × RV)} (S : Sat c st h) (hw : st.wf = true) (F : Fr c.h₀ c.L h1 (frm st)) (N : News c.h₀ c.L h1 (led st1)) (O1 : SOk st1) (X1 : ExtP st.ob.length (st.call fr) st1) : Sat c (st.back st1) h1 ∧ Ext st (st.back st1) := by
  obtain ⟨as, hρ⟩ := pre_of S.len X1
  have hp : st.ρ <+: st1.ρ := ⟨as, hρ.symm⟩
  have mem : ∀ e ∈ st.ce, ∃ e' ∈ st1.ce, e'.a = e.a ∧ e'.o = e.o := fun e he => by
    have h2 : e.off.key ∈ (st.call fr).ce.map CE.key := List.mem_map_of_mem (List.mem_map_of_mem he)
    rw [← X1.dm] at h2
    obtain ⟨e', he', hk⟩ := mM h2
    have h3 : e'.x = "" := congrArg (·.1) hk
    have h4 : e'.a = e.a := congrArg (·.2.1) hk
    have h5 : (match e'.dm || !e'.w with | true => some e'.o | false => none) = some e.o := congrArg (·.2.2) hk
    have h6 : e'.dm = true := by unfold CE.dm; rw [h3]; rfl
    rw [h6] at h5
    exact ⟨e', he', h4, Option.some.inj h5⟩
  have tlc : ∀ p ∈ (st.back st1).tlc, p ∈ st1.tlc := fun p hp => by
    rcases mA hp with hp | hp
    · obtain ⟨e, he, rfl⟩ := mM hp
      obtain ⟨e', h1, h2, h3⟩ := mem e he
      exact mL _ (List.mem_map.mpr ⟨e', h1, by rw [h2, h3]⟩)
    · exact mR _ hp
  refine ⟨⟨?_, fun p hp => N p ?_, O1.len, fun i a hi ha => ⟨(O1.D i a hi ha).1, fun p hp => (O1.D i a hi ha).2 p (tlc p hp)⟩, S.CE.grow S.len hw hρ rfl fun e he => by obtain ⟨e', h1, h2, _⟩ := mem e he; rw [← h2]; exact O1.ap e' h1⟩, hp, rfl⟩
  · rw [show frm (st.back st1) = frm st from frm_grow S.len hw hρ rfl rfl]; exact F
  · rcases mA hp with hp | hp
    · exact mL _ hp
    · exact mR _ (tlc p hp)
section
variable {c : XC} {G : GR} {frames : List Env} {base : Heap} {D U : Nat} {R : Int → List (Addr × Obj) → Prop} {st : XS} {s : Shared}
theorem inl_ends (S : Sat c st s.heap) (hw : st.wf = true) {fr : List (Str × RV)} {K : RF → XS → Prop} {Q : Value → Shared → Prop} (hq : ∀ f st1 h' tk', K f st1 → Sat c (st.back st1) h' → Ext st (st.back st1) → Q (f.rv.den st1.ρ) { s with heap := h', toks := tk' }) :
    Ends s ((led st).map (·.1)) (InlPost st.ob.length (st.call fr) K) Q :=
  use_ends S.F S.N (rest := []) (fun _ h => h) (fun _ h => nomatch h) (fun _ h => nomatch h) fun v out h' tk hp F' N' _ => by
    obtain ⟨f', st1, hK, rfl, rfl, O1, X1⟩ := hp
    rw [List.append_nil] at N'
    obtain ⟨S', X'⟩ := S.back (c1 := c) hw F' N' O1 X1
    exact hq f' st1 h' tk hK S' X'
theorem inl_raises (Y : Uses G c frames base D U R) (S : Sat c st s.heap) (z : Rest c s) : Raises s (c.fe :: frames) ((led st).map (·.1)) (RIn st R) c.E := by
  obtain ⟨A₀, B⟩ := Y.B
  exact use_raises B S.F S.N Y.ff Y.kf (rest := []) (fun _ h => h) (fun _ h => nomatch h) (fun _ h => nomatch h) fun e k out h' tk hr RA => by
    rw [List.append_nil] at RA
    exact Y.rz e k _ _ h' tk s z hr.2 RA
end
theorem DoC.inl0 {c : XC} {G : GR} {frames : List Env} {base : Heap} {D U : Nat} {R : Int → List (Addr × Obj) → Prop} (Y : Uses G c frames base D U R) {f : Addr} {vs : List RV} {st : XS} {K : RV → XS → Prop} {d : FD} (n : Nat) (hf : FNS.lookup f = some d) (hd : d.ok = true) (hroom : Nat.ble D 900 = true) (hw : st.wf = true)
    (hb : ∀ name qual doc pm an cdv ct, bindArgs (fnOf name qual d.params d.body d.scope .none .none doc pm an cdv ct) ⟨vs.map (RV.den st.ρ), []⟩ = pure ((d.params.args.map (·.arg)).zip (vs.map (RV.den st.ρ))))
    (H : ∀ c1 frames base, Uses G c1 frames base (D + 1) (U + 3) (RIn st R) → c1.Ok ⟨d.scope, GL, FS, TAB, ME, false⟩ → c1.pin = st.ob.length → exS ⟨d.scope, GL, FS, TAB, ME, false⟩ c1 n d.body (st.call (bindRV d.params vs)) fun f st1 => K f.rv (st.back st1)) : DoC c (.ref f) vs st K := by
  refine ⟨fun Q s z S hq => ?_⟩
  obtain ⟨A₀, B⟩ := Y.B
  obtain ⟨mean, mg, mb, Ok⟩ := Y.Ok
  have key := CTc.inl Y.HG (D := D) (U := U) (Y.HG.fnAt hf) S.ok (vs := vs) st.ob.length n hd (Nat.lt_of_le_of_lt (Nat.le_of_ble_eq_true hroom) (by decide)) hb H c.A (c.fe :: frames) base mean mg mb s Q c.E (cx_of B S.F Ok Y.hA Y.fr Y.ff Y.kf) (own_of B S.N Y.ff fun _ h => h) Y.hd Y.hu
    (inl_ends S hw fun f st1 h' tk' hK S' X' => hq f.rv (st.back st1) h' tk' hK S' X') (inl_raises Y S z)
  rw [← Y.prog, ← Y.hw] at key
  exact wpAny_call key
theorem DoC.inl {c : XC} {G : GR} {frames : List Env} {base : Heap} {D U : Nat} {R : Int → List (Addr × Obj) → Prop} (Y : Uses G c frames base D U R) {f : Addr} {vs : List RV} {st : XS} {K : RV → XS → Prop} {d : FD} (n : Nat) (hf : FNS.lookup f = some d) (hd : d.ok = true) (hroom : Nat.ble D 900 = true) (hw : st.wf = true)
    (hb : ∀ name qual doc pm an cdv ct, bindArgs (fnOf name qual d.params d.body d.scope .none .none doc pm an cdv ct) ⟨vs.map (RV.den st.ρ), []⟩ = pure ((d.params.args.map (·.arg)).zip (vs.map (RV.den st.ρ))))
    (H : ∀ c1 frames base, Uses G c1 frames base (D + 1) (U + 3) (RIn st R) → c1.Ok ⟨d.scope, GL, FS, TAB, ME, false⟩ → c1.pin = st.ob.length → ∀ KK : RF → XS → Prop, (∀ {f st1}, K f.rv (st.back st1) → KK f st1) → exS ⟨d.scope, GL, FS, TAB, ME, false⟩ c1 n d.body (st.call (bindRV d.params vs)) KK) : DoC c (.ref f) vs st K :=
  DoC.inl0 Y n hf hd hroom hw hb fun c1 F B Y1 O1 hp => H c1 F B Y1 O1 hp _ id
theorem Uses.none {c : XC} {G : GR} {frames : List Env} {base : Heap} {D U : Nat} {R : Int → List (Addr × Obj) → Prop} (Y : Uses G c frames base D U R) : Uses G c frames base D U fun _ _ => False := { Y with rz := fun _ _ _ _ _ _ _ _ h => h.elim }
theorem DoC.inlN {c : XC} {G : GR} {frames : List Env} {base : Heap} {D U : Nat} {R : Int → List (Addr × Obj) → Prop} (Y : Uses G c frames base D U R) {f : Addr} {vs : List RV} {st : XS} {K : RV → XS → Prop} {d : FD} (n : Nat) (hf : FNS.lookup f = some d) (hd : d.ok = true) (hroom : Nat.ble D 900 = true) (hw : st.wf = true)
    (hb : ∀ name qual doc pm an cdv ct, bindArgs (fnOf name qual d.params d.body d.scope .none .none doc pm an cdv ct) ⟨vs.map (RV.den st.ρ), []⟩ = pure ((d.params.args.map (·.arg)).zip (vs.map (RV.den st.ρ))))
    (H : ∀ c1 frames base, Uses G c1 frames base (D + 1) (U + 3) (fun _ _ => False) → c1.Ok ⟨d.scope, GL, FS, TAB, ME, false⟩ → exS ⟨d.scope, GL, FS, TAB, ME, false⟩ c1 n d.body (st.call (bindRV d.params vs)) fun f st1 => K f.rv (st.back st1)) : DoC c (.ref f) vs st K :=
  DoC.inl0 Y n hf hd hroom hw hb fun c1 F B Y1 O1 _ => H c1 F B Y1.none O1
theorem DoC.inlK {c : XC} {G : GR} {frames : List Env} {base : Heap} {D U : Nat} {R : Int → List (Addr × Obj) → Prop} (Y : Uses G c frames base D U R) {f : Addr} {vs : List RV} {st : XS} {K : RV → XS → Prop} {d : FD} (n : Nat) (hf : FNS.lookup f = some d) (hd : d.ok = true) (hroom : Nat.ble D 900 = true) (hw : st.wf = true)
    (hb : ∀ name qual doc pm an cdv ct, bindArgs (fnOf name qual d.params d.body d.scope .none .none doc pm an cdv ct) ⟨vs.map (RV.den st.ρ), []⟩ = pure ((d.params.args.map (·.arg)).zip (vs.map (RV.den st.ρ))))
    (H : ∀ c1 frames base, Uses G c1 frames base (D + 1) (U + 3) (fun _ _ => False) → c1.Ok ⟨d.scope, GL, FS, TAB, ME, false⟩ → ∀ KK : RF → XS → Prop, (∀ {f st1}, K f.rv (st.back st1) → KK f st1) → exS ⟨d.scope, GL, FS, TAB, ME, false⟩ c1 n d.body (st.call (bindRV d.params vs)) KK) : DoC c (.ref f) vs st K :=
  DoC.inl0 Y n hf hd hroom hw hb fun c1 F B Y1 O1 _ => H c1 F B Y1.none O1 _ id
theorem exS_fin {xt : XT} {c : XC} {n : Nat} {l : List Stmt} {st : XS} {K : RF → XS → Prop} (h : ∀ KK : RF → XS → Prop, K = KK → exS xt c n l st KK) : exS xt c n l st K := h K rfl
end
section
noncomputable def mkst (ρ : List Addr) (ob : List RO) (tl : List (Addr × Obj)) (mu : List Nat) : XS := ⟨ρ, [], ob, tl, mu, [], fun _ => none⟩
theorem CT.go {G : GR} (HG : GrF G.K) {D U : Nat} {f : Addr} {vs : List Value} {sub : List (Addr × Obj)} {mu : List Addr} {post : Value → List (Addr × Obj) → Prop} {rais : Int → List (Addr × Obj) → Prop} {d : FD}
    (n : Nat) (ρ : List Addr) (ob : List RO) (tl : List (Addr × Obj)) (mui : List Nat) (rvs : List RV) (hf : FNS.lookup f = some d) (hd : d.ok = true) (hroom : Nat.ble D 900 = true)
    (hb : ∀ name qual doc pm an cdv ct, bindArgs (fnOf name qual d.params d.body d.scope .none .none doc pm an cdv ct) ⟨vs, []⟩ = pure ((d.params.args.map (·.arg)).zip vs)) (hv : rvs.map (RV.den ρ) = vs)
    (hs : ∀ q, q ∈ led (mkst ρ ob tl mui) ↔ q ∈ sub) (hl : ρ.length = ob.length) (hD : Dis (mkst ρ ob tl mui))
    (VC : ∀ (c : XC) (frames : List Env) (base : Heap), Uses G c frames base (D + 1) (U + 3) (ROwes sub mu rais) → c.Ok ⟨d.scope, GL, FS, TAB, ME, false⟩ → exS ⟨d.scope, GL, FS, TAB, ME, false⟩ c n d.body ⟨ρ, bindRV d.params rvs, ob, tl, mui, [], fun _ => none⟩ (EndX ⟨ρ, bindRV d.params rvs, ob, tl, mui, [], fun _ => none⟩ mu post)) : CT G D U f vs sub mu post rais := by
  obtain ⟨name, qual, doc, pm, an, cdv, ct, oc, od, osl, ho, hcd⟩ := HG.fnAt hf
  unfold FD.ok at hd
  simp only [Bool.and_eq_true, Bool.not_eq_true', beq_iff_eq, List.all_eq_true, bne_iff_ne] at hd
  obtain ⟨hco, hgen, hk, hcell, hloc⟩ := hd
  refine CT.ex HG n ⟨ρ, bindRV d.params rvs, ob, tl, mui, [], fun _ => none⟩ ho hcd (Nat.lt_of_le_of_lt (Nat.le_of_ble_eq_true hroom) (by decide)) (fun s => BindsTo.of_eq (hb ..)) (fun y hy => ?_) hco hgen hk hcell ?_ rfl hs hl rfl hD VC
  · obtain ⟨a, ha, e⟩ := mM (List.of_mem_zip (a := y.1) (b := y.2) hy).1
    rw [← e]; exact hloc a ha
  · rw [← hv]; exact zip_rev _ _ _
theorem CT.goK {G : GR} (HG : GrF G.K) {D U : Nat} {f : Addr} {vs : List Value} {sub : List (Addr × Obj)} {mu : List Addr} {post : Value → List (Addr × Obj) → Prop} {rais : Int → List (Addr × Obj) → Prop} {d : FD}
    (n : Nat) (ρ : List Addr) (ob : List RO) (tl : List (Addr × Obj)) (mui : List Nat) (rvs : List RV) (hf : FNS.lookup f = some d) (hd : d.ok = true) (hroom : Nat.ble D 900 = true)
    (hb : ∀ name qual doc pm an cdv ct, bindArgs (fnOf name qual d.params d.body d.scope .none .none doc pm an cdv ct) ⟨vs, []⟩ = pure ((d.params.args.map (·.arg)).zip vs)) (hv : rvs.map (RV.den ρ) = vs)
    (hs : ∀ q, q ∈ led (mkst ρ ob tl mui) ↔ q ∈ sub) (hl : ρ.length = ob.length) (hD : Dis (mkst ρ ob tl mui))
    (VC : ∀ (s : Shared) (frames : List Env) (gd : Option (List Code)) (base g : Heap) (mean : ExcName → Option Value) (mg mb : Str → Option Value) (L : Addr) (E : Value → Shared → Prop) (qual : Str) (cdv : Value),
      Below ({ handled := none, depth := D, frames := some frames, guards := gd, units := U } : Around) base frames g → G.K.In g → Top G.p G.loose mean mg mb g →
      Uses G ⟨s, PG, G.w, ({ handled := none, depth := D, frames := some frames, guards := gd, units := U } : Around).deeper (envOf qual d.scope L f cdv), E, G.K, g, L, envX qual d.scope L f cdv [], envX qual d.scope L f cdv [], 0⟩ frames base (D + 1) (U + 3) (ROwes sub mu rais) →
      XC.Ok ⟨s, PG, G.w, ({ handled := none, depth := D, frames := some frames, guards := gd, units := U } : Around).deeper (envOf qual d.scope L f cdv), E, G.K, g, L, envX qual d.scope L f cdv [], envX qual d.scope L f cdv [], 0⟩ ⟨d.scope, GL, FS, TAB, ME, false⟩ →
        exS ⟨d.scope, GL, FS, TAB, ME, false⟩ ⟨s, PG, G.w, ({ handled := none, depth := D, frames := some frames, guards := gd, units := U } : Around).deeper (envOf qual d.scope L f cdv), E, G.K, g, L, envX qual d.scope L f cdv [], envX qual d.scope L f cdv [], 0⟩ n d.body ⟨ρ, bindRV d.params rvs, ob, tl, mui, [], fun _ => none⟩ (EndX ⟨ρ, bindRV d.params rvs, ob, tl, mui, [], fun _ => none⟩ mu post)) : CT G D U f vs sub mu post rais := by
  obtain ⟨name, qual, doc, pm, an, cdv, ct, oc, od, osl, ho, hcd⟩ := HG.fnAt hf
  unfold FD.ok at hd
  simp only [Bool.and_eq_true, Bool.not_eq_true', beq_iff_eq, List.all_eq_true, bne_iff_ne] at hd
  obtain ⟨hco, hgen, hk, hcell, hloc⟩ := hd
  refine CT.exK HG n ⟨ρ, bindRV d.params rvs, ob, tl, mui, [], fun _ => none⟩ ho hcd (Nat.lt_of_le_of_lt (Nat.le_of_ble_eq_true hroom) (by decide)) (fun s => BindsTo.of_eq (hb ..)) (fun y hy => ?_) hco hgen hk hcell ?_ rfl hs hl rfl hD fun s frames gd base g mean mg mb L E B X T Y O => VC s frames gd base g mean mg mb L E qual cdv B X T Y O
  · obtain ⟨a, ha, e⟩ := mM (List.of_mem_zip (a := y.1) (b := y.2) hy).1
    rw [← e]; exact hloc a ha
  · rw [← hv]; exact zip_rev _ _ _
end
section
structure Weak (st st' : XS) : Prop where
  sub : ∀ p ∈ led st', p ∈ led st
  fr : frm st' = frm st
  len : st'.ρ.length = st'.ob.length
  dis : Dis st → Dis st'
  ce : st'.ce = st.ce
  vs : ∀ e ∈ st.ce, e.v.map (RV.den st'.ρ) = e.v.map (RV.den st.ρ)
  ap : CAp st → CAp st'
theorem Weak.refl {st : XS} (h : st.ρ.length = st.ob.length) : Weak st st := ⟨fun _ h => h, rfl, h, id, rfl, fun _ _ => rfl, id⟩
theorem Weak.sat {c : XC} {st st' : XS} {h : Heap} (W : Weak st st') (S : Sat c st h) : Sat c st' h :=
  ⟨by rw [W.fr]; exact S.F, fun p hp => S.N p (W.sub p hp), W.len, W.dis S.D, ⟨fun e he hd hk => by rw [W.ce] at he; rw [W.vs e he]; exact S.CE.cl e he hd hk, fun e he hd hk => by rw [W.ce] at he; rw [W.vs e he]; exact S.CE.nm e he hd hk, W.ap S.CE.ap, by rw [W.ce]; exact S.CE.nd⟩⟩
set_option tactic.hygienic true in
theorem look_mem2 {x : Str} {v : RV} : ∀ {l : List (Str × RV)}, l.lookup x = some v → (x, v) ∈ l
  | [], h => by exact none_no h
  | (y, u) :: l, h => by
    rw [List.lookup_cons] at h
    split at h
    · rename_i q
      cases h
      rw [eq_of_beq q]
      exact mS
    · exact mC _ (look_mem2 h)
theorem take_den {st : XS} {k : Nat} (hl : st.ρ.length = st.ob.length) (hk : k ≤ st.ob.length) : st.ρ = st.ρ.take k ++ st.ρ.drop k ∧ (st.ρ.take k).length = k :=
  ⟨(List.take_append_drop k st.ρ).symm, by rw [List.length_take, hl]; lia⟩
set_option tactic.hygienic true in
theorem Weak.of {st st3 : XS} (k : Nat) (mv : List Nat) (hl : st.ρ.length = st.ob.length) (h1 : st3.ρ = st.ρ.take k) (h2 : st3.ob = st.ob.take k) (hk : Nat.ble k st.ob.length = true) (hw : (st3.ob.all (RO.wf k) && st3.ce.all (CE.wf k)) = true) (h3 : st3.ce = st.ce) (h4 : st3.fo = frm st)
    (hf : ∀ p ∈ st3.fr, frm st p.1 = some (p.2.den st3.ρ)) (ht : ∀ p ∈ st3.tl, p ∈ st.tl ∨ ∃ j ∈ mv, j < st.ob.length ∧ p = (st.ρ.getD j 0, (st.ob.getD j (.raw default)).den st.ρ))
    (hm : st3.mu.all (fun i => st.mu.contains i && (Nat.blt i k && !mv.contains i)) = true) : Weak st st3 := by
  have hk := Nat.le_of_ble_eq_true hk
  obtain ⟨e1, e2⟩ := take_den hl hk
  obtain ⟨w1, w2⟩ := bA hw
  have at1 : ∀ {j : Nat} {b : Addr}, st3.ρ[j]? = some b → st.ρ[j]? = some b ∧ j < k := fun {j b} e => by
    rw [h1, List.getElem?_take] at e
    split at e
    · exact ⟨e, ‹_›⟩
    · exact none_no e
  have den1 : ∀ o, o ∈ st3.ob → o.den st.ρ = o.den st3.ρ := fun o ho => by
    rw [e1, h1]
    exact RO.den_grow (Nat.le_of_eq e2.symm) _ o (aT w1 o ho)
  have tl1 : ∀ p ∈ st3.tlc, p ∈ st.tlc ∨ ∃ j ∈ mv, j < st.ob.length ∧ p = (st.ρ.getD j 0, (st.ob.getD j (.raw default)).den st.ρ) := fun p hp => by
    rcases mA hp with hp | hp
    · rw [h3] at hp; exact .inl (mL _ hp)
    · exact (ht p hp).imp (mR _) id
  have obj : ∀ j, j < st.ob.length → st.ρ[j]? = some (st.ρ.getD j 0) ∧ st.ob[j]? = some (st.ob.getD j (.raw default)) := fun j hj => ⟨getD_at (hl ▸ hj), by rw [List.getD_eq_getElem?_getD, List.getElem?_eq_getElem hj]; rfl⟩
  refine ⟨fun p hp => ?_, funext fun y => ?_, by rw [h1, h2, e2, List.length_take]; lia, fun D i a hi ha => ?_, h3, fun e he => ?_, fun A e he => ?_⟩
  · rcases led_at hp with ⟨j, o, q1, q2, q3⟩ | hp
    · have q4 : st.ob[j]? = some o := by
        rw [h2, List.getElem?_take] at q2
        split at q2
        · exact q2
        · exact none_no q2
      have := led_of (at1 q1).1 q4
      rw [den1 o (List.mem_of_getElem? q2), ← q3] at this
      exact this
    · rcases tl1 p hp with h | ⟨j, _, hj, rfl⟩
      · exact mR _ h
      · exact led_of (obj j hj).1 (obj j hj).2
  · show (match st3.fr.lookup y with | some v => some (v.den st3.ρ) | none => st3.fo y) = _
    cases q : st3.fr.lookup y with
    | none => rw [h4]
    | some v => exact (hf (y, v) (look_mem2 q)).symm
  · have hi' := aT hm i hi
    obtain ⟨m1, m2⟩ := bA hi'
    obtain ⟨m2, m3⟩ := bA m2
    obtain ⟨d1, d2⟩ := D i a (by simpa using m1) (at1 ha).1
    refine ⟨fun j b hb hne => d1 j b (at1 hb).1 hne, fun p hp => ?_⟩
    rcases tl1 p hp with h | ⟨j, hj, hjl, rfl⟩
    · exact d2 p h
    · refine d1 j _ (obj j hjl).1 fun e => ?_
      subst e
      rw [Bool.not_eq_true', List.contains_eq_mem, decide_eq_false_iff_not] at m3
      exact m3 hj
  · rw [e1, h1]
    exact (cell_grow (Nat.le_of_eq e2.symm) (CE.wf_is (aT w2 e (h3 ▸ he)))).symm
  · rw [h3] at he
    refine ⟨fun j b hb => (A e he).1 j b (at1 hb).1, fun p hp => ?_⟩
    rcases ht p hp with h | ⟨j, _, hj, rfl⟩
    · exact (A e he).2 p h
    · exact (A e he).1 j _ (obj j hj).1
structure WkE where
  a : Nat
  b : List Addr
  c : List RO
  d : Bool
  e : List CE
  f : Str → Option Value
  g : List (Option Value)
  h : List (Addr × Obj)
noncomputable def frV (st : XS) : List (Str × RV) → List (Option Value)
  | [] => []
  | p :: r => frm st p.1 :: frV st r
noncomputable def vaV (ρ : List Addr) : List (Str × RV) → List (Option Value)
  | [] => []
  | p :: r => some (p.2.den ρ) :: vaV ρ r
noncomputable def mvV (st : XS) : List Nat → List (Addr × Obj)
  | [] => st.tl
  | j :: r => (st.ρ.getD j 0, (st.ob.getD j (.raw default)).den st.ρ) :: mvV st r
noncomputable def wkL (k : Nat) (mv : List Nat) (st st3 : XS) : WkE := ⟨st.ρ.length, st3.ρ, st3.ob, Nat.ble k st.ob.length && ((st3.ob.all (RO.wf k) && st3.ce.all (CE.wf k)) && (mv.all (fun j => Nat.blt j st.ob.length) && st3.mu.all (fun i => st.mu.contains i && (Nat.blt i k && !mv.contains i)))), st3.ce, st3.fo, frV st st3.fr, st3.tl⟩
noncomputable def wkR (k : Nat) (mv : List Nat) (st st3 : XS) : WkE := ⟨st.ob.length, st.ρ.take k, st.ob.take k, true, st.ce, frm st, vaV st3.ρ st3.fr, mvV st mv⟩
theorem frV_at {st : XS} {ρ : List Addr} : ∀ {l : List (Str × RV)}, frV st l = vaV ρ l → ∀ p ∈ l, frm st p.1 = some (p.2.den ρ)
  | [], _, _, h => nomatch h
  | _ :: _, e, p, h => by
    have e := List.cons.inj e
    rcases mK h with h | h
    · rw [h]; exact e.1
    · exact frV_at e.2 p h
theorem mvV_at {st : XS} {p : Addr × Obj} : ∀ {mv : List Nat}, p ∈ mvV st mv → p ∈ st.tl ∨ ∃ j ∈ mv, p = (st.ρ.getD j 0, (st.ob.getD j (.raw default)).den st.ρ)
  | [], h => .inl h
  | j :: _, h => (mK h).elim (fun h => .inr ⟨j, mS, h⟩) fun h => (mvV_at h).imp id fun ⟨i, hi, e⟩ => ⟨i, mC _ hi, e⟩
theorem Weak.go {st st3 : XS} (k : Nat) (mv : List Nat) (h : wkL k mv st st3 = wkR k mv st st3) : Weak st st3 := by
  have b := congrArg WkE.d h
  obtain ⟨b1, b⟩ := bA b
  obtain ⟨b2, b⟩ := bA b
  obtain ⟨b3, b4⟩ := bA b
  refine Weak.of k mv (congrArg WkE.a h) (congrArg WkE.b h) (congrArg WkE.c h) b1 b2 (congrArg WkE.e h) (congrArg WkE.f h) (frV_at (congrArg WkE.g h)) (fun p hp => ?_) b4
  have e : st3.tl = mvV st mv := congrArg WkE.h h
  exact (mvV_at (e ▸ hp)).imp id fun ⟨j, hj, e⟩ => ⟨j, hj, Nat.le_of_ble_eq_true (aT b3 j hj), e⟩
inductive Tn (st : XS) (J : XS → Prop) : Prop
  | mk (st3 : XS) (w : Weak st st3) (h : J st3)
inductive TnW {ι : Type} (st : XS) (I : ι → XS → Prop) (μ : ι → Nat) (i : ι) : Prop
  | mk (st3 : XS) (i' : ι) (w : Weak st st3) (h : I i' st3) (lt : μ i' < μ i)
theorem Tn.mono {st : XS} {J J' : XS → Prop} (h : Tn st J) (f : ∀ s, J s → J' s) : Tn st J' := h.casesOn fun s w h => ⟨s, w, f s h⟩
structure WhileK {ι : Type} (K : RF → XS → Prop) (I : ι → XS → Prop) (μ : ι → Nat) (i : ι) (T : RF → XS → Prop) : Prop where
  nx : ∀ {st}, TnW st I μ i → T .next st
  ct : ∀ {st}, TnW st I μ i → T .cont st
  bk : ∀ {st}, K .next st → T .brk st
  rt : ∀ {v st}, K (.ret v) st → T (.ret v) st
def WhileT {ι : Type} (K : RF → XS → Prop) (I : ι → XS → Prop) (μ : ι → Nat) (i : ι) : RF → XS → Prop := fun f st3 => match f with
  | .brk => K .next st3
  | .ret v => K (.ret v) st3
  | _ => TnW st3 I μ i
set_option tactic.hygienic true in
theorem DoF.while {c : XC} {xt : XT} (O : c.Ok xt) (hcm : xt.cm = false) {ι : Type} (I : ι → XS → Prop) (μ : ι → Nat) (n : Nat) {test : Expr} {body : List Stmt} {pos : Pos} {st : XS} {K : RF → XS → Prop} (hI : ∀ i st1, I i st1 → ExtP c.pin st st1) (i0 : ι) (h0 : I i0 st)
    (turn : ∀ i st1, I i st1 → ∀ T, WhileK K I μ i T → exTest c (exE xt c n) n test st1 fun b st2 => Ite b (exS xt c n body st2 T) (T .brk st2)) : DoF c (exec (.While test body [] pos) c.env) st K := by
  refine ⟨fun Q s z S hq => ?_⟩
  have key : ∀ (m : Nat) (i : ι) (st1 : XS) (h : Heap) (tk : Nat) (k : Nat), μ i < m → I i st1 → Sat c st1 h → WhlRest c.prog c.w c.A c.E c.env test body [] Q k { s with heap := h, toks := tk } := by
    intro m
    induction m with
    | zero => intro i st1 h tk k hm; exact absurd hm (Nat.not_lt_zero _)
    | succ m ih =>
      intro i st1 h tk k hm hi S1
      refine whl_turn (k := k) (O.po hcm) ?_
      refine test_ok (exE_ok O n) n test st1 _ (turn i st1 hi (WhileT K I μ i) ⟨id, id, id, id⟩) _ (fun _ => rfl) _ { s with heap := h, toks := tk } z.to S1 fun b st2 h2 tk2 H2 S2 p2 => ?_
      have p2 := (hI i st1 hi).trans p2.p
      cases b with
      | false => exact WhlIf.no rfl (wpAny_execs_nil (hq .next st2 h2 tk2 (H2.no rfl) S2 p2))
      | true =>
        refine WhlIf.yes rfl ((exS_ok O n body st2 _ (H2.yes rfl)).then (st0 := st) z.to S2 p2 fun f st3 h3 tk3 H3 S3 p3 => ?_)
        cases f with
        | brk => exact hq .next st3 h3 tk3 H3 S3 p3
        | ret v => exact hq (.ret v) st3 h3 tk3 H3 S3 p3
        | next => obtain ⟨st4, i', W, hi', hlt⟩ := H3; exact ih i' st4 h3 tk3 k (by lia) hi' (W.sat S3)
        | cont => obtain ⟨st4, i', W, hi', hlt⟩ := H3; exact ih i' st4 h3 tk3 k (by lia) hi' (W.sat S3)
  exact whl_start 0 (key (μ i0 + 1) i0 st s.heap s.toks 0 (Nat.lt_succ_self _) h0 S)
noncomputable def XS.iter (st : XS) (I : Addr) (oI : Obj) : XS := { st with ce := ⟨"", I, oI, none, false, false⟩ :: st.ce }
noncomputable def XS.pop (st : XS) : XS := { st with ce := st.ce.tail }
structure SatO (c : XC) (st : XS) : Prop where
  len : st.ρ.length = st.ob.length
  D : Dis st
  CE : CellsOk c st
theorem Sat.o {c : XC} {st : XS} {h : Heap} (S : Sat c st h) : SatO c st := ⟨S.len, S.D, S.CE⟩
theorem SatO.iter {c : XC} {st : XS} {h : Heap} {I : Addr} {oI : Obj} (S : SatO c st) (F : Fr c.h₀ c.L h (frm st)) (N : News c.h₀ c.L h ((I, oI) :: led st)) (off : ∀ p ∈ led st, p.1 ≠ I) : Sat c (st.iter I oI) h := by
  have tlc : ∀ p, p ∈ (st.iter I oI).tlc ↔ p = (I, oI) ∨ p ∈ st.tlc := fun p => List.mem_cons
  have adr : ∀ (j : Nat) (b : Addr), st.ρ[j]? = some b → b ≠ I := fun j b e => by
    have h1 : j < st.ρ.length := (gS e).1
    exact off _ (led_of e (List.getElem?_eq_getElem (S.len ▸ h1)))
  refine ⟨F, fun p hp => ?_, S.len, fun i a hi ha => ⟨(S.D i a hi ha).1, fun p hp => ?_⟩, ⟨fun e he hd hk => ?_, fun e he hd hk => ?_, fun e he => ?_, ?_⟩⟩
  · rcases mA hp with hp | hp
    · exact N p (mC _ (mL _ hp))
    · rcases (tlc p).mp hp with rfl | hp
      · exact N _ mS
      · exact N p (mC _ (mR _ hp))
  · rcases (tlc p).mp hp with rfl | hp
    · exact (adr i a ha).symm
    · exact (S.D i a hi ha).2 p hp
  · rcases mK he with rfl | he
    · exact tf_no hd
    · exact S.CE.cl e he hd hk
  · rcases mK he with rfl | he
    · exact tf_no hd
    · exact S.CE.nm e he hd hk
  · rcases mK he with rfl | he
    · exact ⟨adr, fun p hp => off p (mR _ (mR _ hp))⟩
    · exact S.CE.ap e he
  · show ((I :: st.ce.map (·.a)) : List Addr).Nodup
    refine List.nodup_cons.mpr ⟨fun hm => ?_, S.CE.nd⟩
    obtain ⟨e, he, h1⟩ := mM hm
    exact off (e.a, e.o) (mR _ (mL _ (List.mem_map.mpr ⟨e, he, rfl⟩))) h1
theorem Sat.pop {c : XC} {st1 st2 : XS} {h : Heap} {I : Addr} {oI : Obj} {x : Str} {v : RV} {p : Nat} (S : Sat c st2 h) (X : ExtP p ((st1.iter I oI).put x v) st2) : Sat c st2.pop h ∧ ExtP p st1 st2.pop ∧ (I, oI) ∈ led st2 ∧ ∀ p ∈ led st2.pop, p.1 ≠ I := by
  have hk : st2.ce.map CE.key = CE.key ⟨"", I, oI, none, false, false⟩ :: st1.ce.map CE.key := X.dm
  cases hce : st2.ce with
  | nil => rw [hce] at hk; cases hk
  | cons e r =>
    rw [hce, List.map_cons, List.cons.injEq] at hk
    obtain ⟨k1, k2⟩ := hk
    have h1 : e.x = "" := congrArg (·.1) k1
    have h2 : e.a = I := congrArg (·.2.1) k1
    have h3 : (match e.dm || !e.w with | true => some e.o | false => none) = some oI := congrArg (·.2.2) k1
    have h4 : e.dm = true := by unfold CE.dm; rw [h1]; rfl
    rw [h4] at h3
    have h3 : e.o = oI := Option.some.inj h3
    have htl : st2.pop.ce = r := by show st2.ce.tail = r; rw [hce]; rfl
    have hmem : ∀ f ∈ st2.pop.ce, f ∈ st2.ce := fun f hf => by rw [htl] at hf; rw [hce]; exact mC _ hf
    have tlc : ∀ p ∈ st2.pop.tlc, p ∈ st2.tlc := fun p hp => by
      rcases mA hp with hp | hp
      · obtain ⟨f, hf, rfl⟩ := mM hp
        exact mL _ (List.mem_map.mpr ⟨f, hmem f hf, rfl⟩)
      · exact mR _ hp
    have nd : (e.a :: r.map (·.a)).Nodup := by have := S.CE.nd; rw [hce] at this; exact this
    have he : e ∈ st2.ce := by rw [hce]; exact mS
    refine ⟨⟨S.F, fun p hp => S.N p ?_, S.len, fun i a hi ha => ⟨(S.D i a hi ha).1, fun p hp => (S.D i a hi ha).2 p (tlc p hp)⟩, ⟨fun f hf hd hfk => S.CE.cl f (hmem f hf) hd hfk, fun f hf hd hfk => S.CE.nm f (hmem f hf) hd hfk, fun f hf => S.CE.ap f (hmem f hf), by rw [htl]; exact (List.nodup_cons.mp nd).2⟩⟩, ⟨X.pre, by rw [htl]; exact k2⟩, ?_, fun p hp => ?_⟩
    · rcases mA hp with hp | hp
      · exact mL _ hp
      · exact mR _ (tlc p hp)
    · exact mR _ (mL _ (List.mem_map.mpr ⟨e, he, by rw [h2, h3]⟩))
    · rw [← h2]
      rcases mA hp with hp | hp
      · obtain ⟨j, hj⟩ := zip_at hp
        exact (S.CE.ap e he).1 j _ hj
      · rcases mA hp with hp | hp
        · obtain ⟨f, hf, rfl⟩ := mM hp
          rw [htl] at hf
          exact fun q => (List.nodup_cons.mp nd).1 (List.mem_map.mpr ⟨f, hf, q⟩)
        · exact (S.CE.ap e he).2 p hp
structure TurnK (K : RF → XS → Prop) (Inv : XS → Prop) (T : RF → XS → Prop) : Prop where
  nx : ∀ {st}, Tn st.pop Inv → T .next st
  ct : ∀ {st}, Tn st.pop Inv → T .cont st
  bk : ∀ {st}, K .next st.pop → T .brk st
  rt : ∀ {v st}, K (.ret v) st.pop → T (.ret v) st
def Turn (K : RF → XS → Prop) (Inv : XS → Prop) : RF → XS → Prop := fun f st2 => match f with
  | .brk => K .next st2.pop
  | .ret v => K (.ret v) st2.pop
  | _ => Tn st2.pop Inv
theorem TurnK.refl {K : RF → XS → Prop} {Inv : XS → Prop} : TurnK K Inv (Turn K Inv) := ⟨id, id, id, id⟩
section
variable {c : XC} {xt : XT} (O : c.Ok xt) (n : Nat) {x : Str} {body : List Stmt} {st : XS} {K : RF → XS → Prop} (Inv : Nat → XS → Prop)
include O
omit O in
inductive LJ (c : XC) (J : XS → Prop) : (Str → Option Value) → List (Addr × Obj) → Prop
  | mk (st1 : XS) (h : J st1) (S : SatO c st1) : LJ c J (frm st1) (led st1)
set_option tactic.hygienic true in
theorem turn_of {Inv1 : XS → Prop} (hcm : xt.cm = false) {Q : Flow → Shared → Prop} {s : Shared} (z : Rest c s) (hq : ∀ f st' h' tk', K f st' → Sat c st' h' → ExtP c.pin st st' → Q (f.den st'.ρ) { s with heap := h', toks := tk' })
    {st1 : XS} {v : Value} {I : Addr} {oI : Obj} {h : Heap} {tk : Nat} (X1 : ExtP c.pin st st1) (S1 : SatO c st1) (off : ∀ p ∈ led st1, p.1 ≠ I) (F : Fr c.h₀ c.env.locals h (fun y => if y = x then some v else frm st1 y)) (N : News c.h₀ c.env.locals h ((I, oI) :: led st1))
    (H : exS xt c n body ((st1.iter I oI).put x (.v v)) (Turn K Inv1)) :
    wpAny (model c.prog c.w) c.A (execs body c.env) (LoopEnd c.h₀ c.env.locals (LJ c Inv1) I oI { s with heap := h, toks := tk } Q) c.E { s with heap := h, toks := tk } := by
  rw [O.lo hcm] at F N
  rw [O.lo hcm]
  have S2 : Sat c ((st1.iter I oI).put x (.v v)) h := by
    have e : frm (st1.put x (.v v)) = fun y => if y = x then some v else frm st1 y := by
      funext y
      show (match ((x, RV.v v) :: st1.fr).lookup y with | some v => some (v.den st1.ρ) | none => st1.fo y) = _
      rw [List.lookup_cons]
      by_cases q : y = x
      · subst q; simp; rfl
      · rw [if_neg q, beq_eq_false_iff_ne.mpr q]; rfl
    exact SatO.iter (st := st1.put x (.v v)) ⟨S1.len, S1.D, ⟨S1.CE.cl, S1.CE.nm, S1.CE.ap, S1.CE.nd⟩⟩ (by rw [show frm (st1.put x (.v v)) = _ from e]; exact F) N off
  refine exS_ok O n body _ _ H _ { s with heap := h, toks := tk } z.to S2 fun f st2 h2 tk2 H2 S3 X2 => ?_
  obtain ⟨P1, P2, P3, P4⟩ := S3.pop X2
  have next : Tn st2.pop Inv1 → LoopN c.h₀ c.L (LJ c Inv1) I oI { s with heap := h, toks := tk } { s with heap := h2, toks := tk2 } := fun ⟨st3, W, hi⟩ => by
    have S4 := W.sat P1
    exact ⟨h2, tk2, _, _, rfl, S4.F, all_cons (S3.N _ P3) S4.N, fun p hp => P4 p (W.sub p hp), .mk st3 hi S4.o⟩
  cases f with
  | brk => exact hq .next st2.pop h2 tk2 H2 P1 (X1.trans P2)
  | ret v => exact hq (.ret v) st2.pop h2 tk2 H2 P1 (X1.trans P2)
  | next => exact next H2
  | cont => exact next H2
set_option tactic.hygienic true in
theorem DoI.list (hcm : xt.cm = false) {j : Nat} {vs : List Value} {cap : Nat} (hj : st.ob[j]? = some (.lst vs cap)) (hI : ∀ i st1, Inv i st1 → ExtP c.pin st st1 ∧ st1.ob[j]? = some (.lst vs cap) ∧ st1.ρ[j]? = st.ρ[j]?) (h0 : Tn st (Inv 0))
    (turn : ∀ i v I oI st1, vs[i]? = some v → Inv i st1 → ∀ T, TurnK K (Inv (i + 1)) T → exS xt c n body ((st1.iter I oI).put x (.v v)) T) (done : ∀ st1, Inv vs.length st1 → K .next st1) : DoI c x body (.r j) st K := by
  refine ⟨fun Q s z S hq => ?_⟩
  obtain ⟨st0, W, hi0⟩ := h0
  have S0 := W.sat S
  have hl := O.lo hcm
  have hat : ∀ st1, st1.ρ[j]? = st.ρ[j]? → st1.ob[j]? = some (.lst vs cap) → (st.ρ.getD j 0, listOf vs.toArray cap) ∈ led st1 := fun st1 h2 e => led_of (h2.trans (S.at hj)) e
  refine my_iter_list (xs := vs) (nl := cap) (m := frm st0) (news := led st0) (fun i => LJ c (Inv i)) O.hh (by rw [hl]; exact S0.F) (by rw [hl]; exact S0.N) ?_ (.mk st0 hi0 S0.o) ?_ ?_
  · rintro i m' news' ⟨st1, h1, S1⟩
    exact hat st1 (hI i st1 h1).2.2 (hI i st1 h1).2.1
  · rintro i v I m1 news1 h tk oI hv ⟨st1, h1, S1⟩ off F N
    exact turn_of O n hcm z hq (hI i st1 h1).1 S1 off F N (turn i v I oI st1 hv h1 _ .refl)
  · rintro m1 news1 h tk ⟨st1, h1, S1⟩ F N
    rw [hl] at F N
    exact hq .next st1 h tk (done st1 h1) ⟨F, N, S1.len, S1.D, S1.CE⟩ (hI _ _ h1).1
set_option tactic.hygienic true in
theorem DoI.range (hcm : xt.cm = false) {j : Nat} {a b : Int} {t u v : Tok} (hj : st.ob[j]? = some (.raw { cls := .type "range", data := .fields #[.int a t, .int b u, .int 1 v] })) (k : Nat) (hsm : Builtin.Range.small a b 1 = true) (hn : Builtin.Range.rangeSize a b 1 = ((k : Nat) : Int)) (hI : ∀ i st1, Inv i st1 → ExtP c.pin st st1) (h0 : Tn st (Inv 0))
    (turn : ∀ i tv I oI st1, i < k → Inv i st1 → ∀ T, TurnK K (Inv (i + 1)) T → exS xt c n body ((st1.iter I oI).put x (.v (.int (a + (i : Int)) tv))) T) (done : ∀ st1, Inv k st1 → K .next st1) : DoI c x body (.r j) st K := by
  refine ⟨fun Q s z S hq => ?_⟩
  obtain ⟨st0, W, hi0⟩ := h0
  have S0 := W.sat S
  have hl := O.lo hcm
  refine my_iter_range (n := k) (m := frm st0) (news := led st0) (fun i => LJ c (Inv i)) O.hh (S.N.get (S.mem hj)) hsm hn (by rw [hl]; exact S0.F) (by rw [hl]; exact S0.N) (.mk st0 hi0 S0.o) ?_ ?_
  · rintro i tv I m1 news1 h tk oI hi ⟨st1, h1, S1⟩ off F N
    exact turn_of O n hcm z hq (hI i st1 h1) S1 off F N (turn i tv I oI st1 hi h1 _ .refl)
  · rintro m1 news1 h tk ⟨st1, h1, S1⟩ F N
    rw [hl] at F N
    exact hq .next st1 h tk (done st1 h1) ⟨F, N, S1.len, S1.D, S1.CE⟩ (hI _ _ h1)
end
noncomputable abbrev rngO (n : Int) (t u v : Tok) : Obj := { cls := .type "range", data := .fields #[.int 0 t, .int n u, .int 1 v] }
theorem x_range {c : XC} {st : XS} {K : RV → XS → Prop} {n : Int} {t : Tok} (hw : st.wf = true) (k : ∀ r t1 t2, K (.r st.ob.length) (st.add r (.raw (rngO n t1 t t2)))) : DoC c (.type "range") [.v (.int n t)] st K := by
  refine ⟨fun Q s z S hq => ?_⟩
  refine call_range_1 ?_
  have S1 : Sat c (st.add s.heap.objs.size (.raw (rngO n s.toks t (s.toks + 1)))) (s.heap.push (rngO n s.toks t (s.toks + 1))) := S.add hw (S.F.push _) (S.N.push S.F _) fun p hp => Heap.lt_size (S.N p hp).1
  have := hq (.r st.ob.length) _ _ (s.toks + 1 + 1) (k _ _ _) S1 Ext.add
  have e : RV.den (st.add s.heap.objs.size (.raw (rngO n s.toks t (s.toks + 1)))).ρ (.r st.ob.length) = .ref s.heap.objs.size := by
    show Value.ref ((st.ρ ++ [_]).getD st.ob.length 0) = _
    rw [← S.len]; simp
  rw [e] at this
  exact this
end
section
noncomputable def relS (scope cs : Scope) : Scope := { scope with names := scope.names.map fun (n, k) => if (k == .free && cs.kind == .function && cs.names.lookup n == some .cell) then (n, .cell) else (n, k) }
noncomputable def freeN (scope : Scope) : List Str := (scope.names.filter fun p => p.2 == .free).map (·.1)
noncomputable def cloOf (scope : Scope) (cells : List (Str × Addr)) : List (Str × Addr) := ((freeN scope).map fun y => (y, (cells.lookup y).getD 0)).reverse
theorem clos_go (env : Env) : ∀ (l : List (Str × NameKind)) (acc : List (Str × Addr)), (∀ p ∈ l, p.2 = .free → ∃ a, env.cells.lookup p.1 = some a) →
    (forIn l acc fun (x : Str × NameKind) (r : List (Str × Addr)) => (do if (x.2 == .free) = true then do let a ← cellOf env x.1; pure (ForInStep.yield ((x.1, a) :: r)) else pure (ForInStep.yield r) : Sem (ForInStep (List (Str × Addr)))))
      = pure ((((l.filter fun p => p.2 == .free).map (·.1)).map fun y => (y, (env.cells.lookup y).getD 0)).reverse ++ acc)
  | [], _, _ => rfl
  | p :: l, acc, h => by
    rw [List.forIn_cons]
    by_cases q : (p.2 == NameKind.free) = true
    · obtain ⟨a, ha⟩ := h p mS (eq_of_beq q)
      have hc : cellOf env p.1 = pure a := by unfold cellOf; rw [ha]
      rw [if_pos q, hc]
      show (forIn l ((p.1, a) :: acc) _ : Sem _) = _
      rw [clos_go env l _ fun p' hp => h p' (mC _ hp), List.filter_cons, if_pos q, List.map_cons, List.map_cons, List.reverse_cons, ha, List.append_assoc]
      rfl
    · rw [if_neg q]
      show (forIn l acc _ : Sem _) = _
      rw [clos_go env l _ fun p' hp => h p' (mC _ hp), List.filter_cons, if_neg q]
theorem clos_is {scope : Scope} {env : Env} (h : ∀ p ∈ scope.names, p.2 = .free → ∃ a, env.cells.lookup p.1 = some a) : closureFor scope env = pure (cloOf scope env.cells) := by
  unfold closureFor
  have := clos_go env scope.names [] h
  rw [List.append_nil] at this
  show (forIn scope.names [] (fun (x : Str × NameKind) (r : List (Str × Addr)) => (do if (x.2 == .free) = true then do let a ← cellOf env x.1; pure (ForInStep.yield ((x.1, a) :: r)) else pure (ForInStep.yield r) : Sem (ForInStep (List (Str × Addr))))) >>= fun r => pure r) = _
  rw [this]
  rfl
theorem clo_at {l : List (Str × Addr)} {y : Str} {a : Addr} (h : ∀ p ∈ l, p.1 = y → p.2 = a) (hm : ∃ p ∈ l, p.1 = y) : l.lookup y = some a := by
  induction l with
  | nil => obtain ⟨_, h, _⟩ := hm; cases h
  | cons p l ih =>
    obtain ⟨x, b⟩ := p
    rw [List.lookup_cons]
    by_cases q : y = x
    · subst q
      rw [beq_self_eq_true]
      exact congrArg some (h (y, b) mS rfl)
    · rw [beq_eq_false_iff_ne.mpr q]
      refine ih (fun p hp => h p (mC _ hp)) ?_
      obtain ⟨p, hp, e⟩ := hm
      rcases mK hp with rfl | hp
      · exact absurd e.symm q
      · exact ⟨p, hp, e⟩
theorem clo_look {scope : Scope} {cells : List (Str × Addr)} {y : Str} {a : Addr} (hy : (freeN scope).contains y = true) (ha : cells.lookup y = some a) : (cloOf scope cells).lookup y = some a := by
  refine clo_at (fun p hp e => ?_) ⟨(y, (cells.lookup y).getD 0), List.mem_reverse.mpr (List.mem_map.mpr ⟨y, by simpa using hy, rfl⟩), rfl⟩
  obtain ⟨y', _, rfl⟩ := mM (List.mem_reverse.mp hp)
  have e : y' = y := e
  subst e
  show (cells.lookup y').getD 0 = a
  rw [ha]; rfl
noncomputable def compCE (scope : Scope) (e : CE) : CE := match (freeN scope).contains e.x && (!e.k && !e.dm) with
  | true => ⟨e.x, e.a, e.o, e.v, false, false⟩
  | false => ⟨"", e.a, e.o, none, false, false⟩
noncomputable def compSt (st : XS) (x : Str) (scope : Scope) (C : Addr) (oC : Obj) (I : Addr) (oI : Obj) (D : Addr) (ys : List Value) (tl : List (Addr × Obj)) (w : Value) : XS :=
  ⟨st.ρ, st.fr, st.ob, tl ++ st.tl, [], ⟨x, C, oC, some (.v w), true, false⟩ :: ⟨"", I, oI, none, false, false⟩ :: ⟨"", D, LCg.lst ys, none, false, false⟩ :: st.ce.map (compCE scope), st.fo⟩
theorem compCE_a (scope : Scope) (e : CE) : (compCE scope e).a = e.a ∧ (compCE scope e).o = e.o := by unfold compCE; split <;> exact ⟨rfl, rfl⟩
theorem key_mem : ∀ {l l' : List CE} {e : CE}, l'.map CE.key = l.map CE.key → e ∈ l → (e.dm || !e.w) = true → ∃ e' ∈ l', e'.a = e.a ∧ e'.o = e.o := fun {l l' e} h he hw => by
  have h2 : e.key ∈ l'.map CE.key := h ▸ List.mem_map_of_mem he
  obtain ⟨e', he', hk⟩ := mM h2
  have h4 : e'.a = e.a := congrArg (·.2.1) hk
  have h5 : (match e'.dm || !e'.w with | true => some e'.o | false => none) = (match e.dm || !e.w with | true => some e.o | false => none) := congrArg (·.2.2) hk
  rw [hw] at h5
  split at h5
  · exact ⟨e', he', h4, Option.some.inj h5⟩
  · exact none_no h5
def CompK (st1 : XS) (tl : List (Addr × Obj)) (R : List (Addr × Obj) → Nat → Value → Prop) (i : Nat) : RV → XS → Prop := fun v st2 => (st2.ob.take st1.ob.length = st1.ob ∧ st2.tl = tl ++ st1.tl ∧ st2.fr = st1.fr ∧ st2.fo = st1.fo) ∧ ((List.range' st1.ob.length (st2.ob.length - st1.ob.length)).all (fun j => st2.mu.contains j) = true ∧ R (pick st2 (List.range' st1.ob.length (st2.ob.length - st1.ob.length)) ++ tl) i (v.den st2.ρ))
noncomputable def compOk (scope : Scope) (x : Str) : Bool := (scope.kind == .function) && (scope.names.all (fun y => y.2 != .cell && (y.2 != .local || scope.names.lookup y.1 == some .local)) && scope.names.lookup x == some .local)
noncomputable def freeOk (scope : Scope) (st : XS) : Bool := (freeN scope).all fun y => st.ce.any fun e => e.x == y && (!e.k && !e.dm)
theorem ne3 {I C D : Addr} {l : List (Addr × Obj)} (h : LCg.Off3 I C D l) : NeAll I l ∧ NeAll C l ∧ NeAll D l := ⟨NeAll.of fun p hp => (h.mem p hp).1, NeAll.of fun p hp => (h.mem p hp).2.1, NeAll.of fun p hp => (h.mem p hp).2.2⟩
section
variable {c : XC} {xt : XT} (O : c.Ok xt)
include O
set_option tactic.hygienic true in
theorem comp_turn {n : Nat} {elt : Expr} {x : Str} {scope : Scope} {st1 : XS} {R : List (Addr × Obj) → Nat → Value → Prop} {S : List (Addr × Obj) → Prop} (S1 : SatO c st1) (hw : st1.wf = true) (hst : compOk scope x = true) (hS : ∀ l, S (led st1 ++ l))
    {i : Nat} {w : Value} {I : Addr} {oI : Obj} {C : Addr} {oC : Obj} {D : Addr} {m₂ : Str → Option Value} {h : Heap} {tk : Nat} {E' : Value → Shared → Prop} {ys : List Value} {tl : List (Addr × Obj)} {s : Shared} (z : Rest c s)
    (hq : ∀ p ∈ tl, NeAll p.1 (led st1)) (hC : LCg.NsObj oC m₂) (hx : m₂ x = some w) (F : Fr c.h₀ c.L h (frm st1)) (N : News c.h₀ c.L h ((I, oI) :: (C, oC) :: (D, LCg.lst ys) :: (led st1 ++ tl))) (off : LCg.Off3 I C D (led st1 ++ tl)) (ne : (@Ne Nat I C) ∧ (@Ne Nat I D) ∧ (@Ne Nat C D))
    (H : ∀ c', c' = { c with env := compEnvC scope (cloOf scope c.env.cells) C c.env, E := E' } → c'.Ok ⟨relS scope xt.cs, xt.gl, xt.fs, xt.tab, xt.me, true⟩ → exE ⟨relS scope xt.cs, xt.gl, xt.fs, xt.tab, xt.me, true⟩ c' n elt (compSt st1 x scope C oC I oI D ys tl w) (CompK st1 tl R i)) :
    wpAny (model c.prog c.w) c.A (eval elt (compEnvC scope (cloOf scope c.env.cells) C c.env)) (LCg.CompEnd c.h₀ c.L (frm st1) { s with heap := h, toks := tk } I oI C oC D (LCg.lst ys) S (Grown R (led st1) tl i)) E' { s with heap := h, toks := tk } := by
  obtain ⟨oI3, oC3, oD3⟩ := ne3 off
  have offL : ∀ {a : Addr}, NeAll a (led st1 ++ tl) → (∀ (j : Nat) (b : Addr), st1.ρ[j]? = some b → b ≠ a) ∧ (∀ p ∈ st1.tl, p.1 ≠ a) ∧ (∀ p ∈ tl, p.1 ≠ a) ∧ ∀ e ∈ st1.ce, e.a ≠ a := fun {a} hn => ⟨fun j b e => by
      have h1 : j < st1.ρ.length := (gS e).1
      exact NeAll.all hn _ (mL _ (led_of e (List.getElem?_eq_getElem (S1.len ▸ h1)))), fun p hp => NeAll.all hn p (mL _ (mR _ (mR _ hp))), fun p hp => NeAll.all hn p (mR _ hp),
      fun e he => NeAll.all hn (e.a, e.o) (mL _ (mR _ (mL _ (List.mem_map.mpr ⟨e, he, rfl⟩))))⟩
  have hk : scope.kind = .function := by
    unfold compOk at hst
    exact eq_of_beq (bA hst).1
  generalize hc' : ({ c with env := compEnvC scope (cloOf scope c.env.cells) C c.env, E := E' } : XC) = c'
  have Oc : c'.Ok ⟨relS scope xt.cs, xt.gl, xt.fs, xt.tab, xt.me, true⟩ := by
    subst hc'
    refine ⟨?_, O.gg, O.gb, fun h => (nomatch h), O.hh, fun h => (nomatch h), hk, O.X, O.T, O.gl, O.fs, O.me, O.cls, O.ca⟩
    show relabel scope c.env = relS scope xt.cs
    rw [← O.cs]; rfl
  have S2 : Sat c' (compSt st1 x scope C oC I oI D ys tl w) h := by
    subst hc'
    refine ⟨F, fun p hp => ?_, S1.len, fun i a hi => (nomatch hi), ⟨fun e he hd hek => ?_, fun e he hd hek => ?_, fun e he => ?_, ?_⟩⟩
    · rcases mA hp with hp | hp
      · exact N p (mC _ (mC _ (mC _ (mL _ (mL _ hp)))))
      · rcases mA hp with hp | hp
        · obtain ⟨e, he, rfl⟩ := mM hp
          rcases mK he with rfl | he
          · exact N _ (mC _ mS)
          rcases mK he with rfl | he
          · exact N _ mS
          rcases mK he with rfl | he
          · exact N _ (mC _ (mC _ mS))
          obtain ⟨e', he', rfl⟩ := mM he
          rw [(compCE_a scope e').1, (compCE_a scope e').2]
          exact N _ (mC _ (mC _ (mC _ (mL _ (mR _ (mL _ (List.mem_map.mpr ⟨e', he', rfl⟩)))))))
        · rcases mA hp with hp | hp
          · exact N p (mC _ (mC _ (mC _ (mR _ hp))))
          · exact N p (mC _ (mC _ (mC _ (mL _ (mR _ (mR _ hp))))))
    · rcases mK he with rfl | he
      · exact tf_no hek
      rcases mK he with rfl | he
      · exact tf_no hd
      rcases mK he with rfl | he
      · exact tf_no hd
      obtain ⟨e', he', rfl⟩ := mM he
      unfold compCE at hd hek ⊢
      split at hd
      · rename_i q
        obtain ⟨q1, q2⟩ := bA q
        obtain ⟨q2, q3⟩ := bA q2
        obtain ⟨r1, r2⟩ := S1.CE.cl e' he' (by simpa using q3) (by simpa using q2)
        exact ⟨clo_look q1 r1, r2⟩
      · exact tf_no hd
    · rcases mK he with rfl | he
      · exact ⟨rfl, m₂, hC, hx⟩
      rcases mK he with rfl | he
      · exact tf_no hd
      rcases mK he with rfl | he
      · exact tf_no hd
      obtain ⟨e', he', rfl⟩ := mM he
      unfold compCE at hek
      split at hek <;> exact ft_no hek
    · have app : ∀ {a : Addr}, NeAll a (led st1 ++ tl) → (∀ (j : Nat) (b : Addr), (compSt st1 x scope C oC I oI D ys tl w).ρ[j]? = some b → b ≠ a) ∧ ∀ p ∈ (compSt st1 x scope C oC I oI D ys tl w).tl, p.1 ≠ a := fun {a} hn => ⟨(offL hn).1, fun p hp => (mA hp).elim ((offL hn).2.2.1 p) ((offL hn).2.1 p)⟩
      rcases mK he with rfl | he
      · exact app oC3
      rcases mK he with rfl | he
      · exact app oI3
      rcases mK he with rfl | he
      · exact app oD3
      obtain ⟨e', he', rfl⟩ := mM he
      rw [(compCE_a scope e').1]
      refine ⟨(S1.CE.ap e' he').1, fun p hp => (mA hp).elim (fun hp q => ?_) ((S1.CE.ap e' he').2 p)⟩
      exact NeAll.all (hq p hp) (e'.a, e'.o) (mR _ (mL _ (List.mem_map.mpr ⟨e', he', rfl⟩))) q.symm
    · show ((C :: I :: D :: (st1.ce.map (compCE scope)).map (·.a)) : List Addr).Nodup
      have e : (st1.ce.map (compCE scope)).map (·.a) = st1.ce.map (·.a) := by rw [List.map_map]; exact List.map_congr_left fun e _ => (compCE_a scope e).1
      rw [e]
      have off1 : ∀ {a : Addr}, NeAll a (led st1 ++ tl) → a ∉ st1.ce.map (·.a) := fun {a} hn hm => by
        obtain ⟨e, he, h1⟩ := mM hm
        exact (offL hn).2.2.2 e he h1
      refine List.nodup_cons.mpr ⟨fun hm => ?_, List.nodup_cons.mpr ⟨fun hm => ?_, List.nodup_cons.mpr ⟨off1 oD3, S1.CE.nd⟩⟩⟩
      · rcases mK hm with h1 | hm
        · exact ne.1 h1.symm
        · rcases mK hm with h1 | hm
          · exact ne.2.2 h1
          · exact off1 oC3 hm
      · rcases mK hm with h1 | hm
        · exact ne.2.1 h1
        · exact off1 oI3 hm
  have key := exE_ok Oc n elt _ _ (H c' hc'.symm Oc) (LCg.CompEnd c.h₀ c.L (frm st1) { s with heap := h, toks := tk } I oI C oC D (LCg.lst ys) S (Grown R (led st1) tl i)) { s with heap := h, toks := tk } (by subst hc'; exact ⟨z.gens, z.drawn, z.os⟩) S2 fun v st2 h2 tk2 HK S3 X2 => ?_
  · subst hc'
    exact key
  obtain ⟨⟨k1, k2, k5, k6⟩, k3, k4⟩ := HK
  obtain ⟨as, hρ⟩ := X2.pre
  have hρ : st2.ρ = st1.ρ ++ as := hρ.symm
  have hD : c'.h₀ = c.h₀ ∧ c'.L = c.L := by subst hc'; exact ⟨rfl, rfl⟩
  have F2 : Fr c.h₀ c.L h2 (frm st1) := by
    have := S3.F
    rw [frm_grow S1.len hw hρ k5 k6, hD.1, hD.2] at this
    exact this
  have N3 : News c.h₀ c.L h2 (led st2) := by have := S3.N; rw [hD.1, hD.2] at this; exact this
  have hw2 := (bA (bA hw).2).1
  have hlen : st1.ob.length ≤ st2.ob.length := by
    have := congrArg List.length k1
    rw [List.length_take] at this; lia
  have ent : ∀ e ∈ (compSt st1 x scope C oC I oI D ys tl w).ce, ∃ e' ∈ st2.ce, e'.a = e.a ∧ e'.o = e.o := fun e he => by
    refine key_mem X2.dm he ?_
    rcases mK he with rfl | he
    · exact Bool.or_true _
    rcases mK he with rfl | he
    · rfl
    rcases mK he with rfl | he
    · rfl
    obtain ⟨e', _, rfl⟩ := mM he
    unfold compCE
    split <;> exact Bool.or_true _
  have entL : ∀ e ∈ (compSt st1 x scope C oC I oI D ys tl w).ce, (e.a, e.o) ∈ st2.tlc := fun e he => by
    obtain ⟨e', h1, h2, h3⟩ := ent e he
    exact mL _ (List.mem_map.mpr ⟨e', h1, by rw [h2, h3]⟩)
  have cel : ∀ e ∈ st1.ce, (e.a, e.o) ∈ st2.tlc := fun e he => by
    have := entL (compCE scope e) (mC _ (mC _ (mC _ (List.mem_map_of_mem he))))
    rwa [(compCE_a scope e).1, (compCE_a scope e).2] at this
  have tlc : ∀ p ∈ st1.tlc ++ tl, p ∈ st2.tlc := fun p hp => by
    rcases mA hp with hp | hp
    · rcases mA hp with hp | hp
      · obtain ⟨e, he, rfl⟩ := mM hp
        exact cel e he
      · exact mR _ (by rw [k2]; exact mR _ hp)
    · exact mR _ (by rw [k2]; exact mL _ hp)
  have old : ∀ {j : Nat} {o : RO}, st1.ob[j]? = some o → st2.ob[j]? = some o := fun {j o} e => by
    rw [← k1, List.getElem?_take] at e
    split at e
    · exact e
    · exact none_no e
  have led1 : ∀ p ∈ led st1 ++ tl, p ∈ led st2 := fun p hp => by
    rcases mA hp with hp | hp
    · rcases led_at hp with ⟨j, o, q1, q2, q3⟩ | hp
      · have := led_of (st := st2) (pre_at hρ q1) (old q2)
        have ho : o.den st2.ρ = o.den st1.ρ := by
          rw [hρ]
          exact RO.den_grow (Nat.le_of_eq S1.len.symm) as o (aT hw2 o (List.mem_of_getElem? q2))
        rw [ho, ← q3] at this
        exact this
      · exact mR _ (tlc p (mL _ hp))
    · exact mR _ (tlc p (mR _ hp))
  have front : ∀ p ∈ pick st2 (List.range' st1.ob.length (st2.ob.length - st1.ob.length)), ∃ j, st1.ob.length ≤ j ∧ j ∈ st2.mu ∧ st2.ρ[j]? = some p.1 ∧ p ∈ led st2 := fun p hp => by
    obtain ⟨j, hj, rfl⟩ := mM hp
    have hm := aT k3 j hj
    obtain ⟨g1, g2⟩ := List.mem_range'_1.mp hj
    have hjl : j < st2.ob.length := by lia
    have ha := getD_at (l := st2.ρ) (j := j) (S3.len ▸ hjl)
    have hob : st2.ob[j]? = some (st2.ob.getD j (.raw default)) := by rw [List.getD_eq_getElem?_getD, List.getElem?_eq_getElem hjl]; rfl
    exact ⟨j, g1, by simpa using hm, ha, led_of ha hob⟩
  refine comp_end (pick st2 (List.range' st1.ob.length (st2.ob.length - st1.ob.length))) F2 (fun p hp => N3 p ?_) off (LCg.Off3.of fun p hp => ?_) (fun p hp => NeAll.of fun q hq' => ?_) (hS _) k4
  · rcases mA hp with hp | hp
    · obtain ⟨_, _, _, _, h5⟩ := front p hp
      exact h5
    rcases mK hp with rfl | hp
    · exact mR _ (entL ⟨"", I, oI, none, false, false⟩ (mC _ mS))
    rcases mK hp with rfl | hp
    · exact mR _ (entL _ mS)
    rcases mK hp with rfl | hp
    · exact mR _ (entL ⟨"", D, LCg.lst ys, none, false, false⟩ (mC _ (mC _ mS)))
    exact led1 p hp
  · obtain ⟨j, _, hjm, ha, _⟩ := front p hp
    have d2 := (S3.D j p.1 hjm ha).2
    exact ⟨(d2 _ (entL ⟨"", I, oI, none, false, false⟩ (mC _ mS))).symm, (d2 _ (entL _ mS)).symm, (d2 _ (entL ⟨"", D, LCg.lst ys, none, false, false⟩ (mC _ (mC _ mS)))).symm⟩
  · obtain ⟨j, hj, hjm, ha, _⟩ := front p hp
    rcases led_at hq' with ⟨j', o, q1, q2, _⟩ | hq'
    · have : j' < st1.ob.length := (gS q2).1
      exact (S3.D j p.1 hjm ha).1 j' _ (pre_at hρ q1) (by lia)
    · exact (S3.D j p.1 hjm ha).2 q (tlc q (mL _ hq'))
end
inductive SrcX (st : XS) (j cnt : Nat) (val : Nat → Value → Prop) : Prop
  | lst (vs : List Value) (cap : Nat) (h1 : st.ob[j]? = some (.lst vs cap)) (h2 : vs.length ≤ 1000) (h3 : cnt = vs.length) (h4 : val = fun i w => vs[i]? = some w)
  | rng (a b : Int) (t u v : Tok) (h1 : st.ob[j]? = some (.raw { cls := .type "range", data := .fields #[.int a t, .int b u, .int 1 v] })) (h2 : Builtin.Range.small a b 1 = true) (h3 : Builtin.Range.rangeSize a b 1 = ((cnt : Nat) : Int)) (h4 : cnt ≤ 1000) (h5 : val = fun i w => ∃ t, w = .int (a + (i : Int)) t)
inductive CompAt (c : XC) (xt : XT) (n : Nat) (elt : Expr) (x : Str) (scope : Scope) (R : List (Addr × Obj) → Nat → Value → Prop) (st : XS) (K : RV → XS → Prop) (v : RV) (st1 : XS) : Prop
  | mk (wf : st1.wf = true) (fr : st1.fr = st.fr) (fo : st1.fo = st.fo) (j cnt : Nat) (val : Nat → Value → Prop) (hv : v = .r j) (src : SrcX st1 j cnt val)
    (turn : ∀ c' C oC I oI D ys tl i w, (∃ E', c' = { c with env := compEnvC scope (cloOf scope c.env.cells) C c.env, E := E' }) → c'.Ok ⟨relS scope xt.cs, xt.gl, xt.fs, xt.tab, xt.me, true⟩ → i < cnt → val i w → ys.length = i → AllAt R tl ys → (∀ p ∈ tl, NeAll p.1 (led st1)) →
      exE ⟨relS scope xt.cs, xt.gl, xt.fs, xt.tab, xt.me, true⟩ c' n elt (compSt st1 x scope C oC I oI D ys tl w) (CompK st1 tl R i))
    (fin : ∀ D ys tl, ys.length = cnt → AllAt R tl ys → NeAll D (led st1) → NeAll D tl → (∀ p ∈ tl, NeAll p.1 (led st1)) → K (.r st1.ob.length) (st1.addT D (.lst ys ys.length) tl))
theorem Do.comp {c : XC} {xt : XT} (O : c.Ok xt) (R : List (Addr × Obj) → Nat → Value → Prop) (T : CompTag R) (n m : Nat) {elt iter : Expr} {x : Str} {px pos : Pos} {scope : Scope} {st : XS} {K : RV → XS → Prop} (hst : compOk scope x = true) (hset : notSet iter = true) (hw : st.wf = true) (hfr : freeOk scope st = true)
    (H : exE xt c m iter st (CompAt c xt n elt x scope R st K)) : Do c (eval (.ListComp elt [⟨.Name x px, iter, [], 0⟩] scope pos) c.env) st K := by
  refine ⟨fun Q s z S hq => ?_⟩
  have hst' := hst
  unfold compOk at hst'
  simp only [Bool.and_eq_true, Bool.or_eq_true, beq_iff_eq, List.all_eq_true, bne_iff_ne] at hst'
  obtain ⟨hk, hnames, hx⟩ := hst'
  have hclos : closureFor scope c.env = pure (cloOf scope c.env.cells) := clos_is fun p hp hf => by
    have hm : p.1 ∈ freeN scope := List.mem_map.mpr ⟨p, List.mem_filter.mpr ⟨hp, by rw [hf]; rfl⟩, rfl⟩
    obtain ⟨e, he, h1⟩ := List.any_eq_true.mp (aT hfr p.1 hm)
    obtain ⟨h1, h2⟩ := bA h1
    obtain ⟨h2, h3⟩ := bA h2
    have := (S.CE.cl e he (by simpa using h3) (by simpa using h2)).1
    rw [eq_of_beq h1] at this
    exact ⟨_, this⟩
  refine LCg.ListComp_U (F₀ := S.F) hclos (fun y hy => (hnames y hy).1) hk (fun y hy hl => (hnames y hy).2.resolve_left (fun h => h hl)) hx ?_ (notSet_is hset)
  refine exE_ok O m iter st _ H _ s z S fun v st1 h1 tk1 C1 S1 X1 => ?_
  obtain ⟨wf1, fr1, fo1, j, cnt, val, rfl, src, turn, fin⟩ := C1
  obtain ⟨as, hρ⟩ := X1.pre
  have hm : frm st1 = frm st := frm_grow S.len hw hρ.symm fr1 fo1
  rw [← hm]
  have z1 : ∀ g, Rest c { s with heap := g, toks := tk1 } := fun g => z.to
  have finK : ∀ g ys tl, ys.length = cnt → AllAt R tl ys → (∀ p ∈ tl, NeAll p.1 (led st1)) → LCg.FinE c.h₀ c.L (frm st1) { s with heap := g, toks := tk1 } Q ys (led st1 ++ tl) := fun g ys tl hl hA hn D h tk F N oD => by
    have oD := off1_ne oD
    have o1 := NeAll.all oD
    have n1 : NeAll D (led st1) := NeAll.of fun x hx => o1 x (mL _ hx)
    have n2 : NeAll D tl := NeAll.of fun x hx => o1 x (mR _ hx)
    have := hq (.r st1.ob.length) (st1.addT D (.lst ys ys.length) tl) h tk (fin D ys tl hl hA n1 n2 hn) (S1.addT wf1 F N n1 n2 hn) (X1.trans ⟨List.prefix_append _ _, rfl⟩)
    have e : RV.den (st1.addT D (.lst ys ys.length) tl).ρ (.r st1.ob.length) = .ref D := by
      show Value.ref ((st1.ρ ++ [D]).getD st1.ob.length 0) = _
      rw [← S1.len]; simp
    rw [e] at this
    exact this
  rcases src with ⟨vs, cap, e1, e2, rfl, rfl⟩ | ⟨a, b, t, u, v, e1, e2, e3, e4, rfl⟩
  · have hmem := S1.mem e1
    refine LCg.CompSrc.ledger (s₁ := { s with heap := h1, toks := tk1 }) O.hh S1.F S1.N hmem (by rw [List.size_toArray]; exact sz_ok e2) fun g => ?_
    rw [List.size_toArray]
    refine comp_inv T (fun i v I oI C oC D m₂ h tk E' ys tl hi hlen hA hq' hP hC hx F N off ne => ?_) (finK g)
    exact comp_turn O S1.o wf1 hst (fun l => .inr ⟨_, mL _ hmem, rfl, _, rfl⟩) (z1 g) hq' hC hx F N off ne fun c' e Oc => turn c' C oC I oI D ys tl i v ⟨E', e⟩ Oc hi (by simpa using hP) hlen hA hq'
  · refine LCg.CompSrc.range (s₁ := { s with heap := h1, toks := tk1 }) O.hh S1.F S1.N (S1.N.get (S1.mem e1)) e2 e3 (sz_ok e4) fun g => ?_
    refine comp_inv T (fun i v I oI C oC D m₂ h tk E' ys tl hi hlen hA hq' hP hC hx F N off ne => ?_) (finK g)
    exact comp_turn O S1.o wf1 hst (fun l => trivial) (z1 g) hq' hC hx F N off ne fun c' e Oc => turn c' C oC I oI D ys tl i v ⟨E', e⟩ Oc hi hP hlen hA hq'
end
section
noncomputable def FD.okC (d : FD) : Bool := !d.scope.isCoroutine && (!d.scope.isGenerator && ((d.scope.kind == .function) && d.params.args.all fun a => d.scope.names.lookup a.arg == some .local || d.scope.names.lookup a.arg == some .cell))
theorem CT.goC {G : GR} (HG : GrF G.K) {D U : Nat} {f : Addr} {vs : List Value} {sub : List (Addr × Obj)} {mu : List Addr} {post : Value → List (Addr × Obj) → Prop} {rais : Int → List (Addr × Obj) → Prop} {d : FD}
    (n : Nat) (ρ : List Addr) (ob : List RO) (tl : List (Addr × Obj)) (mui : List Nat) (fr cv : List (Str × RV)) (hf : FNS.lookup f = some d) (hd : d.okC = true) (hroom : Nat.ble D 900 = true)
    (hb : ∀ name qual doc pm an cdv ct, bindArgs (fnOf name qual d.params d.body d.scope .none .none doc pm an cdv ct) ⟨vs, []⟩ = pure ((d.params.args.map (·.arg)).zip vs))
    (hnd : ((cellsFrom 0 d.scope.names []).map (·.1)).Nodup) (hna : ∀ L, ((cellsFrom (L + 1) d.scope.names []).map (·.2)).Nodup)
    (hfr : ∀ qual cdv L, bindL (envOfC qual d.scope L f cdv).kindOf ((d.params.args.map (·.arg)).zip vs) (fun _ => none) = ifs ρ fr) (hv : ∀ qual cdv L, ∀ p ∈ cellsFrom (L + 1) d.scope.names [], bindC (envOfC qual d.scope L f cdv).kindOf ((d.params.args.map (·.arg)).zip vs) (fun _ => none) p.1 = (cv.lookup p.1).map (RV.den ρ))
    (hs : ∀ q, q ∈ led (mkst ρ ob tl mui) ↔ q ∈ sub) (hl : ρ.length = ob.length) (hD : Dis (mkst ρ ob tl mui))
    (VC : ∀ (c : XC) (frames : List Env) (base : Heap) (L : Addr) (o : Nat → Obj), Uses G c frames base (D + 1) (U + 3) (ROwes sub mu rais) → c.Ok ⟨d.scope, GL, FS, TAB, ME, false⟩ → exS ⟨d.scope, GL, FS, TAB, ME, false⟩ c n d.body ⟨ρ, fr, ob, tl, mui, mkCE cv (cellsFrom (L + 1) d.scope.names []) o, fun _ => none⟩ (EndX ⟨ρ, fr, ob, tl, mui, [], fun _ => none⟩ mu post)) :
    CT G D U f vs sub mu post rais := by
  obtain ⟨name, qual, doc, pm, an, cdv, ct, oc, od, osl, ho, hcd⟩ := HG.fnAt hf
  unfold FD.okC at hd
  simp only [Bool.and_eq_true, Bool.not_eq_true', beq_iff_eq, List.all_eq_true] at hd
  obtain ⟨hco, hgen, hk, hloc⟩ := hd
  refine CT.exC HG n ⟨ρ, fr, ob, tl, mui, [], fun _ => none⟩ cv ho hcd (Nat.lt_of_le_of_lt (Nat.le_of_ble_eq_true hroom) (by decide)) (fun s => BindsTo.of_eq (hb ..)) (List.all_eq_true.mpr fun y hy => ?_) hnd hna hco hgen hk (hfr _ _) (hv _ _) rfl hs hl rfl hD VC
  obtain ⟨a, ha, e⟩ := mM (List.of_mem_zip (a := y.1) (b := y.2) hy).1
  rw [← e]; exact hloc a ha
end
section
section
variable {prog : Program} {w : World} {A : Around} {E : Value → Shared → Prop} {s : Shared} {env : Env} {h₀ : Heap} {target : Expr} {body : List Stmt} {Q : Flow → Shared → Prop}
theorem go_tup {elts : List Expr} {kk : Nat} {p : Pos} {I ax : Addr} {i : Nat} {v : Value} {Q : Unit → Shared → Prop} (hit : s.heap.IsTupleIter I ax i) (hQ : Q () s) : wpAny (model prog w) A (letOwnedTupleGo (.Tuple elts kk p) (.ref I) v) Q E s := by
  obtain ⟨o, ho, hc, hd⟩ := hit
  cases v with
  | ref a =>
    unfold letOwnedTupleGo
    refine wpAny_bind (wpAny_load ho ?_)
    rw [hc, hd]
    show wpAny _ A (if (["enumerate", "zip", "dict_itemiterator", "dict_reverseitemiterator", "odict_iterator", "itertools.zip_longest", "itertools.pairwise"].contains "tuple_iterator" && _) = true then _ else _) Q E s
    rw [show (["enumerate", "zip", "dict_itemiterator", "dict_reverseitemiterator", "odict_iterator", "itertools.zip_longest", "itertools.pairwise"].contains "tuple_iterator") = false from by decide, Bool.false_and]
    exact wpAny_pure hQ
  | _ => exact wpAny_pure hQ
end
inductive ForT (c : XC) (xt : XT) (n : Nat) (body : List Stmt) (names : List Str) (K : RF → XS → Prop) (v : RV) (st1 : XS) : Prop
  | mk (i j : Nat) (vs : List RV) (hv : v = .r i) (e1 : st1.ob[i]? = some (.tup [.r j])) (e2 : st1.ob[j]? = some (.tup vs)) (hb : (Nat.beq names.length vs.length && vs.all (RV.wf st1.ob.length)) = true)
    (h : ∀ I oI, exStores xt c names vs (st1.iter I oI) fun _ st2 => exS xt c n body st2 (Turn K fun st3 => K .next st3 ∧ st3.ob[i]? = some (.tup [.r j]) ∧ st3.ρ.take st1.ob.length = st1.ρ))
inductive TupJ (c : XC) (st st1 : XS) (i j : Nat) (K : RF → XS → Prop) : Nat → (Str → Option Value) → List (Addr × Obj) → Prop
  | zero : TupJ c st st1 i j K 0 (frm st1) (led st1)
  | one (st2 : XS) (k1 : K .next st2) (X : ExtP c.pin st st2) (S : SatO c st2) : TupJ c st st1 i j K 1 (frm st2) (led st2)
set_option tactic.hygienic true in
theorem DoF.forT {c : XC} {xt : XT} (O : c.Ok xt) (hcm : xt.cm = false) (n : Nat) {elts : List Expr} {kk : Nat} {p' p : Pos} {iter : Expr} {body : List Stmt} {st : XS} {K : RF → XS → Prop} {names : List Str} (hn : namesOf elts = some names) (hset : notSet iter = true)
    (H : exE xt c n iter st (ForT c xt n body names K)) :
    DoF c (exec (.For (.Tuple elts kk p') iter body [] p) c.env) st K := by
  refine ⟨fun Q s z S hq => ?_⟩
  have hl := O.lo hcm
  refine wpAny_For ?_ (notSet_is hset)
  have hE := O.po hcm
  refine exE_ok O n iter st _ H _ s z S fun v st1 h1 tk1 H1 S1 X1 => ?_
  obtain ⟨i, j, vs, rfl, e1, e2, hb, hbody⟩ := H1
  have hmem := S1.N _ (S1.mem e1)
  have ht : h1.IsTuple (st1.ρ.getD i 0) #[.ref (st1.ρ.getD j 0)] := ⟨_, hmem.1, rfl, _, rfl⟩
  have hlt : st1.ρ.getD i 0 < h1.objs.size := Heap.lt_size hmem.1
  refine wpAny_pyIter_tuple (s := { s with heap := h1, toks := tk1 }) ht ?_
  have up : ∀ b o, h1.get? b = some o → (h1.push { cls := .type "tuple_iterator", data := .fields #[.ref (st1.ρ.getD i 0), .int 0 0] }).get? b = some o := fun b o e => Heap.get?_push_of_some _ e
  have F1 := S1.F.keeps up
  have N1 : News c.h₀ c.L _ (led st1) := S1.N.grown up
  have offN : ∀ q ∈ led st1, q.1 ≠ h1.objs.size := fun q hq' => Nat.ne_of_lt (Heap.lt_size (S1.N q hq').1)
  obtain ⟨hlen, hwf⟩ := bA hb
  have hlen : names.length = vs.length := Nat.eq_of_beq_eq_true hlen
  refine ktu_loop (R := fun r s' => match r with | .ok f => Q f s' | .error e => cameBackBy (model c.prog c.w) c.A c.env c.E e s') (wr := [h1.objs.size]) (m := frm st1) (news := led st1)
    (KTurns.ofWalks (Walks.tuple O.hh h1.objs.size (st1.ρ.getD i 0) (Nat.ne_of_lt hlt) #[.ref (st1.ρ.getD j 0)]) (fun _ _ _ _ _ st' q => go_tup st'.1 q)) ?_ ?_ ?_ ⟨⟨_, Heap.get?_push_size _ rfl, rfl, rfl⟩, ht.push _⟩ (by rw [hl]; exact F1) (by rw [hl]; exact N1) (TupJ c st st1 i j K) .zero ?_ ?_
  · rw [hl]
    intro q
    rcases mK q with q | q
    · exact absurd S1.F.ns.lt (q ▸ Nat.lt_irrefl _)
    · exact hmem.2.1 (mG q).symm
  · intro b hb'
    rw [mG hb']
    exact next_is_new S1.F
  · exact fun q hq' hm => offN q hq' (mG hm)
  · rintro k v m₁ news₁ h₂ tk₂ own hk hP hJ off hsub hget hall hst F₂ N₂
    cases hJ with
    | one => exact absurd hk (Nat.lt_irrefl _)
    | zero =>
    refine wpAny_mono (Q := fun _ s₂ => wpAny (model c.prog c.w) c.A (execs body c.env) (LoopStepV c.h₀ c.env.locals [h1.objs.size] own (TupJ c st st1 i j K (0 + 1)) { s with heap := h₂, toks := tk₂ } (fun v s' => Q (.ret v) s') fun s' => Q .next s') c.E s₂) ?_ (fun _ _ x => wpAny_passesOwn hE x) hE
    have hv : v = .ref (st1.ρ.getD j 0) := by simpa using hP.symm
    subst hv
    rw [hl] at F₂ N₂ ⊢
    obtain ⟨oI, heI, _⟩ := hst.1
    have hmI := hall _ mS (next_is_new S1.F) oI heI
    have NI : News c.h₀ c.L h₂ ((h1.objs.size, oI) :: led st1) := fun q hq' => by
      rcases mK hq' with rfl | hq'
      · exact N₂ _ (mL _ hmI)
      · exact N₂ _ (mR _ hq')
    have SI : Sat c (st1.iter h1.objs.size oI) h₂ := S1.o.iter F₂ NI offN
    obtain ⟨g1, g2, ps, g3, g4⟩ := names_each (env := c.env) _ hn
    refine unpackN_ (s := { s with heap := h₂, toks := tk₂ }) SI.F SI.N (SI.N.isTup (SI.mem (st := st1.iter h1.objs.size oI) e2)) O.hh (by rw [g1, hlen]; simp) g2 fun h3 F3 N3 => ?_
    rw [g3]
    refine (stores_ok O names ps vs (st1.iter h1.objs.size oI) _ st1.ρ g4 hlen (fun v hv' => by rw [S1.len]; exact aT hwf v hv') (List.prefix_refl _) (hbody _ oI)).then (st0 := st1.iter h1.objs.size oI) z.to ⟨F3, N3, SI.len, SI.D, SI.CE⟩ (Ext.refl _) fun _ st2 h4 tk4 H4 S4 X4 => ?_
    refine (exS_ok O n body st2 _ H4).then (st0 := st1.iter h1.objs.size oI) z.to S4 X4.p fun f st5 h5 tk5 H5 S5 X5 => ?_
    obtain ⟨P1, P2, P3, P4⟩ := Sat.pop (x := "") (v := .v .none) (st1 := st1) S5 ⟨X5.pre, X5.dm⟩
    have nxt : (Tn st5.pop fun st3 => K .next st3 ∧ st3.ob[i]? = some (.tup [.r j]) ∧ st3.ρ.take st1.ob.length = st1.ρ) → LoopStepU c.h₀ c.L [h1.objs.size] own (TupJ c st st1 i j K 1) { s with heap := h₂, toks := tk₂ } .next { s with heap := h5, toks := tk5 } := fun ⟨st3, W, k1, k2, k3⟩ => by
      have S6 := W.sat P1
      have hpre : st1.ρ <+: st3.ρ := ⟨st3.ρ.drop st1.ob.length, by rw [← k3]; exact List.take_append_drop _ _⟩
      have hi : st3.ρ[i]? = some (st1.ρ.getD i 0) := by
        obtain ⟨r, hr⟩ := hpre
        exact pre_at hr.symm (S1.at e1)
      have hjl : j < st1.ob.length := (gS e2).1
      have hj3 : st3.ρ.getD j 0 = st1.ρ.getD j 0 := by
        obtain ⟨r, hr⟩ := hpre
        rw [← hr, List.getD_eq_getElem?_getD, List.getD_eq_getElem?_getD, List.getElem?_append_left (S1.len ▸ hjl)]
      refine ⟨rfl, h5, tk5, _, _, rfl, S6.F, own_in (h₁ := h₂) (fun b hb' hne => ?_) heI hsub hget N₂ (all_cons (S5.N _ P3) S6.N), fun q hq' hm => P4 q (W.sub q hq') (mG hm), .one st3 k1 (Ext.p ⟨X1.pre.trans hpre, by rw [W.ce]; exact (P2.dm).trans X1.dm⟩) S6.o⟩
      rcases mK hb' with rfl | hb'
      · exact absurd rfl hne
      · rw [mG hb']
        refine .inr ⟨tupO #[.ref (st1.ρ.getD j 0)], S1.mem e1, ?_⟩
        have := led_of hi k2
        rw [show (RO.tup [.r j]).den st3.ρ = tupO #[.ref (st1.ρ.getD j 0)] from by show tupO #[.ref (st3.ρ.getD j 0)] = _; rw [hj3]] at this
        exact this
    cases f with
    | ret v => exact .ret (hq (.ret v) st5.pop h5 tk5 H5 P1 (X1.p.trans P2))
    | brk => exact .brk (hq .next st5.pop h5 tk5 H5 P1 (X1.p.trans P2))
    | next => exact .next (nxt H5)
    | cont => exact .cont (nxt H5)
  · rintro h' tk m' news' F' N' _ (_ | ⟨st2, k1, X2, S2⟩)
    rw [hl] at F' N'
    exact hq .next st2 h' tk k1 ⟨F', N', S2.len, S2.D, S2.CE⟩ X2
end
section
section
variable {c : XC} {st : XS} {K : RV → XS → Prop} {a b : Int} {t u : Tok}
theorem x_imul (h : IntMulOk a b) (k : ∀ t, K (.v (.int (a * b) t)) st) : Do c (inplaceOp .Mult ((RV.v (.int a t)).den st.ρ) ((RV.v (.int b u)).den st.ρ)) st K :=
  ⟨fun _ _ _ S hq => PyProof.Rows.imul_int (hq _ _ _ _ (k _) S (Ext.refl _)) h⟩
theorem x_mod (h : b ≠ 0) (k : ∀ t, K (.v (.int (a.fmod b) t)) st) : Do c (binaryOp .Mod ((RV.v (.int a t)).den st.ρ) ((RV.v (.int b u)).den st.ρ)) st K :=
  ⟨fun _ _ _ S hq => PyProof.Rows.mod_int h (hq _ _ _ _ (k _) S (Ext.refl _))⟩
theorem x_fdiv (h : b ≠ 0) (hp : Builtin.divisionGoesByPylong a b = false) (k : ∀ t, K (.v (.int (a.fdiv b) t)) st) : Do c (binaryOp .FloorDiv ((RV.v (.int a t)).den st.ρ) ((RV.v (.int b u)).den st.ρ)) st K :=
  ⟨fun _ _ _ S hq => PyProof.Rows.floordiv_int h (hq _ _ _ _ (k _) S (Ext.refl _)) (.inl hp)⟩
theorem x_lshift (h : 0 ≤ b) (hb : b ≤ 1000000) (ha : a.natAbs < 2 ^ 64) (k : ∀ t, K (.v (.int (a * 2 ^ b.toNat) t)) st) : Do c (binaryOp .LShift ((RV.v (.int a t)).den st.ρ) ((RV.v (.int b u)).den st.ρ)) st K :=
  ⟨fun _ _ _ S hq => PyProof.Rows.lshift_int_small h hb ha (hq _ _ _ _ (k _) S (Ext.refl _))⟩
end
end
section
theorem RV.wf_up {n m : Nat} (h : n ≤ m) : ∀ {v : RV}, v.wf n = true → v.wf m = true
  | .r i, hv => Nat.ble_eq_true_of_le (Nat.le_trans (Nat.le_of_ble_eq_true hv) h)
  | .v _, _ => rfl
theorem RO.wf_up {n m : Nat} (h : n ≤ m) : ∀ {o : RO}, o.wf n = true → o.wf m = true
  | .inst _ d, hv => Nat.ble_eq_true_of_le (Nat.le_trans (Nat.le_of_ble_eq_true hv) h)
  | .dict es _, hv => List.all_eq_true.mpr fun e he => RV.wf_up h (aT hv e he)
  | .tup vs, hv => List.all_eq_true.mpr fun e he => RV.wf_up h (aT hv e he)
  | .lst _ _, _ => rfl
  | .raw _, _ => rfl
set_option tactic.hygienic true in
theorem XS.wf_add {st : XS} {a : Addr} {o : RO} (hw : st.wf = true) (ho : o.wf (st.ob.length + 1) = true) : (st.add a o).wf = true := by
  unfold XS.wf at hw ⊢
  obtain ⟨h1, h2⟩ := bA hw
  obtain ⟨h2, h3⟩ := bA h2
  have hl : (st.add a o).ob.length = st.ob.length + 1 := by show (st.ob ++ [o]).length = _; simp
  rw [hl]
  have up : st.ob.length ≤ st.ob.length + 1 := Nat.le_succ _
  refine Bool.and_eq_true_iff.mpr ⟨List.all_eq_true.mpr fun p hp => RV.wf_up up (aT h1 p hp), Bool.and_eq_true_iff.mpr ⟨List.all_eq_true.mpr fun p hp => ?_, List.all_eq_true.mpr fun e he => ?_⟩⟩
  · rcases mA (show p ∈ st.ob ++ [o] from hp) with hp | hp
    · exact RO.wf_up up (aT h2 p hp)
    · rw [mG hp]; exact ho
  · have := aT h3 e he
    unfold CE.wf at this ⊢
    split <;> rename_i h
    · rw [h] at this; exact RV.wf_up up this
    · rfl
set_option tactic.hygienic true in
theorem DoC.cls {c : XC} {G : GR} {frames : List Env} {base : Heap} {D U : Nat} {R : Int → List (Addr × Obj) → Prop} (Y : Uses G c frames base D U R) {C fI : Addr} {vs : List RV} {st : XS} {K : RV → XS → Prop} {d : FD} (n : Nat) (hm : MK.lookup C = some fI) (hf : FNS.lookup fI = some d) (hd : d.ok = true) (hroom : Nat.ble D 900 = true) (hw : st.wf = true) (hvs : vs.all (RV.wf st.ob.length) = true)
    (hb : ∀ x dx name qual doc pm an cdv ct, bindArgs (fnOf name qual d.params d.body d.scope .none .none doc pm an cdv ct) ⟨((RV.r (st.ob.length + 1)) :: vs).map (RV.den ((st.ρ ++ [dx]) ++ [x])), []⟩ = pure ((d.params.args.map (·.arg)).zip (((RV.r (st.ob.length + 1)) :: vs).map (RV.den ((st.ρ ++ [dx]) ++ [x])))))
    (H : ∀ x dx c1 frames base, Uses G c1 frames base (D + 2) (U + 7) (RIn ((st.add dx (.dict [] 0)).add x (.inst C st.ob.length)) R) → c1.Ok ⟨d.scope, GL, FS, TAB, ME, false⟩ → c1.pin = ((st.add dx (.dict [] 0)).add x (.inst C st.ob.length)).ob.length →
      exS ⟨d.scope, GL, FS, TAB, ME, false⟩ c1 n d.body (((st.add dx (.dict [] 0)).add x (.inst C st.ob.length)).call (bindRV d.params (.r (st.ob.length + 1) :: vs))) fun f st1 => match f with
        | .next => K (.r (st.ob.length + 1)) (((st.add dx (.dict [] 0)).add x (.inst C st.ob.length)).back st1)
        | _ => False) : DoC c (.ref C) vs st K := by
  refine ⟨fun Q s z S hq => ?_⟩
  obtain ⟨A₀, B⟩ := Y.B
  obtain ⟨mean, mg, mb, Ok⟩ := Y.Ok
  obtain ⟨m1, m2, m3⟩ := Y.HG.mkAt hm
  have X := Y.X
  rw [Y.hK] at X
  refine call_cls S.F X S.N m1 m2 m3 fun x dx h' F' N' l1 l2 => ?_
  have S1 : Sat c (st.add dx (.dict [] 0)) h' := S.add hw F' (fun p hp => N' p (mC _ hp)) l1
  have hw1 : (st.add dx (.dict [] 0)).wf = true := XS.wf_add hw rfl
  have hw2 : ((st.add dx (.dict [] 0)).add x (.inst C st.ob.length)).wf = true := XS.wf_add hw1 (by
    show Nat.blt st.ob.length ((st.ob ++ [_]).length + 1) = true
    rw [List.length_append]
    exact Nat.ble_eq_true_of_le (by simp))
  have l3 : ∀ p ∈ led (st.add dx (.dict [] 0)), p.1 < x := fun p hp' => by
    rw [led_add S.len hw] at hp'
    rcases mA hp' with h | h
    · exact Nat.lt_trans (l1 p (mL _ h)) l2
    · rcases mK h with h | h
      · rw [h]; exact l2
      · exact Nat.lt_trans (l1 p (mR _ h)) l2
  have S2 : Sat c ((st.add dx (.dict [] 0)).add x (.inst C st.ob.length)) h' := by
    have e1 : (RO.inst C st.ob.length).den ((st.add dx (.dict [] 0)).ρ ++ [x]) = instObj C dx := by
      show instObj C (((st.ρ ++ [dx]) ++ [x]).getD st.ob.length 0) = _
      rw [← S.len]; simp
    exact S1.add hw1 S1.F (by rw [e1]; exact all_cons (N' _ mS) S1.N) l3
  have hvs' : ((RV.r (st.ob.length + 1)) :: vs).map (RV.den ((st.ρ ++ [dx]) ++ [x])) = .ref x :: vs.map (RV.den st.ρ) := by
    rw [List.map_cons]
    congr 1
    · show Value.ref (((st.ρ ++ [dx]) ++ [x]).getD (st.ob.length + 1) 0) = _
      rw [← S.len]; simp
    · refine List.map_congr_left fun v hv => ?_
      rw [List.append_assoc]
      exact RV.den_grow (Nat.le_of_eq S.len.symm) _ v (aT hvs v hv)
  have Cc := cx_of B F' Ok Y.hA Y.fr Y.ff Y.kf
  have key := CTc.inl Y.HG (D := D + 1) (U := U + 4) (Y.HG.fnAt hf) S2.ok (vs := .r (st.ob.length + 1) :: vs) _ n hd (Nat.lt_of_le_of_lt (Nat.succ_le_succ (Nat.le_of_ble_eq_true hroom)) (by decide)) (hb x dx) (H x dx) (c.A.under (.builtin "type.__call__" ⟨.ref C :: vs.map (RV.den st.ρ), []⟩)) (c.fe :: frames) base mean mg mb { s with heap := h' } (fun v s' => v = .none ∧ Q (.ref x) s') c.E
    ⟨Cc.hd, Cc.fr, Cc.st, Cc.ff, Cc.ok⟩ (own_of B S2.N Y.ff fun _ h => h) ?d1 ?d2 (inl_ends (s := { s with heap := h' }) S2 hw2 fun f st1 h2 tk2 hK S' X' => ?en) (inl_raises Y S2 z.to)
  · rw [← Y.prog, ← Y.hw] at key
    rw [show ((RV.r (st.ob.length + 1)) :: vs).map (RV.den ((st.add dx (.dict [] 0)).add x (.inst C st.ob.length)).ρ) = _ from hvs'] at key
    refine codeAny_mono key fun r s' hr => ?_
    cases r with
    | error e => exact hr
    | ok f => cases f with
      | ret v => exact hr
      | _ => exact hr.elim
  case d1 =>
    have : (c.A.under (.builtin "type.__call__" ⟨.ref C :: vs.map (RV.den st.ρ), []⟩)).depth ≤ c.A.depth + 1 := by
      first | exact Nat.le_refl _ | exact Nat.le_succ _ | simp [Around.under, Code.frames, Code.isFrame]
    exact Nat.le_trans this (Nat.succ_le_succ Y.hd)
  case d2 =>
    have e : (c.A.under (.builtin "type.__call__" ⟨.ref C :: vs.map (RV.den st.ρ), []⟩)).units ≤ c.A.units + 1 := by
      first | exact Nat.le_refl _ | exact Nat.le_succ _ | simp [Around.under, Code.cUnits, Code.frames, Code.isFrame]
    exact Nat.le_trans e (Nat.le_trans (Nat.succ_le_succ Y.hu) (Nat.add_le_add_left (by decide : 1 ≤ 4) U))
  case en =>
    cases f with
    | next =>
      refine ⟨rfl, ?_⟩
      have := hq (.r (st.ob.length + 1)) _ h2 tk2 hK S' (Ext.add.trans (Ext.add.trans X'))
      have e2 : RV.den (((st.add dx (.dict [] 0)).add x (.inst C st.ob.length)).back st1).ρ (.r (st.ob.length + 1)) = .ref x := by
        obtain ⟨as, ha⟩ := X'.pre
        have h9 : (((st.add dx (.dict [] 0)).add x (.inst C st.ob.length)).back st1).ρ = ((st.ρ ++ [dx]) ++ [x]) ++ as := ha.symm
        show Value.ref ((((st.add dx (.dict [] 0)).add x (.inst C st.ob.length)).back st1).ρ.getD (st.ob.length + 1) 0) = _
        rw [h9, ← S.len]; simp
      rw [e2] at this
      exact this
    | _ => exact hK.elim
end
section
section
variable {c : XC} {G : GR} {frames : List Env} {base : Heap} {D U : Nat} {R : Int → List (Addr × Obj) → Prop} (Y : Uses G c frames base D U R) {st : XS}
include Y
theorem x_excinit {K : RV → XS → Prop} {i : Nat} {t : Addr} {v : RV} (e : st.ob[i]? = some (.raw (excNew 108 t))) (hi : st.mu.contains i = true) (k : ∀ t', K (.v .none) (st.set i (.raw (excNew 108 t')))) : DoC c (.builtin "Exception.__init__") [.r i, v] st K := by
  obtain ⟨nm, q, N, bs, sn, sub, ab, col, dd, k0, k1, k2, k3, k5, hl⟩ := Y.HG.c108
  have X := Y.X
  rw [Y.hK] at X
  exact ⟨fun Q s z S hq => exc_init PySem.F.excBase_Exception S.F X S.N hl (fun t' => S.upd e (by simpa using hi) (.raw (excNew 108 t'))) fun t' h' F' N' _ => hq (.v .none) (st.set i (.raw (excNew 108 t'))) h' _ (k t') (S.setTo F' fun p hp => N' p (mC _ hp)) ⟨List.prefix_refl _, rfl⟩⟩
theorem x_excset1 {K : Unit → XS → Prop} {i j : Nat} {vs : Array Value} {sl : Array (Option Value)} {d : Addr} {es : List (Int × Str × Tok × RV)} {n : Nat} {name : Str} {v : RV} (e : st.ob[i]? = some (.raw ⟨.ref 108, some d, .fields vs, sl⟩)) (hd : d = st.ρ.getD j 0) (ej : st.ob[j]? = some (.dict es n)) (hj : st.mu.contains j = true)
    (hn : findIn G.K (.ref 108) name = some none) (hz : Nat.ble (es.length + 1) 1000 = true) (k : ∀ q t, K () (st.set j (.dict (putE name q t v es) (if hasE name es then n else n + 1)))) : DoU c (setAttr ((RV.r i).den st.ρ) name (v.den st.ρ)) st K := by
  obtain ⟨_, _, hs, ⟨cd, hc, hb, hp⟩, _, _⟩ := Y.HG.x108
  have X := Y.X
  rw [Y.hK] at X
  refine ⟨fun Q s z S hq => exc_set1 S.F X S.N hs hc hb hp hn (hd ▸ S.mem e) (getL_some _ _ _) (by rw [putE_is, putN_is]) (S.upd ej (by simpa using hj) (.dict (putE name (PyData.keyHash c.w.params name) (s.toks + 1) v es) (if hasE name es then n else n + 1))) ?_ fun h' F' N' => hq () _ _ _ (k _ _) (S.setTo F' N') ⟨List.prefix_refl _, rfl⟩⟩
  rw [List.length_map]
  exact Nat.le_trans (putE_length ..) (Nat.le_of_ble_eq_true hz)
theorem x_excset0 {K : Unit → XS → Prop} {i : Nat} {vs : Array Value} {sl : Array (Option Value)} {name : Str} {v : RV} (e : st.ob[i]? = some (.raw ⟨.ref 108, none, .fields vs, sl⟩)) (hi : st.mu.contains i = true) (hw : st.wf = true) (hv : v.wf st.ob.length = true)
    (hn : findIn G.K (.ref 108) name = some none) (k : ∀ d q t, K () ((st.set i (.raw ⟨.ref 108, some d, .fields vs, sl⟩)).add d (.dict [(q, name, t, v)] 1))) : DoU c (setAttr ((RV.r i).den st.ρ) name (v.den st.ρ)) st K := by
  obtain ⟨_, _, hs, ⟨cd, hc, hb, hp⟩, _, _⟩ := Y.HG.x108
  have X := Y.X
  rw [Y.hK] at X
  refine ⟨fun Q s z S hq => exc_set0 S.F X S.N hs hc hb hp hn (fun d => S.upd e (by simpa using hi) (.raw ⟨.ref 108, some d, .fields vs, sl⟩)) fun d h' tk F' N' l => ?_⟩
  have S1 : Sat c (st.set i (.raw ⟨.ref 108, some d, .fields vs, sl⟩)) h' := S.setTo F' fun p hp => N' p (mC _ hp)
  have hol : (st.set i (.raw ⟨.ref 108, some d, .fields vs, sl⟩)).ob.length = st.ob.length := List.length_set ..
  have hw1 : (st.set i (.raw ⟨.ref 108, some d, .fields vs, sl⟩)).wf = true := by
    unfold XS.wf at hw ⊢
    obtain ⟨h1, h2⟩ := bA hw
    obtain ⟨h2, h3⟩ := bA h2
    rw [hol]
    refine Bool.and_eq_true_iff.mpr ⟨h1, Bool.and_eq_true_iff.mpr ⟨List.all_eq_true.mpr fun o ho => ?_, h3⟩⟩
    rcases List.mem_or_eq_of_mem_set (show o ∈ st.ob.set i _ from ho) with ho | rfl
    · exact aT h2 o ho
    · rfl
  have e1 : (RO.dict [(PyData.keyHash c.w.params name, name, tk, v)] 1).den ((st.set i (.raw ⟨.ref 108, some d, .fields vs, sl⟩)).ρ ++ [d]) = dictOf [⟨PyData.keyHash c.w.params name, .str name tk, v.den st.ρ⟩] 1 := by
    show dictOf [⟨_, _, v.den (st.ρ ++ [d])⟩] 1 = _
    rw [RV.den_grow (Nat.le_of_eq S.len.symm) [d] v hv]
  refine hq () _ h' _ (k d _ tk) (S1.add hw1 S1.F (by rw [e1]; exact all_cons (N' _ mS) S1.N) fun p hp => ?_) ((show Ext st (st.set i (.raw ⟨.ref 108, some d, .fields vs, sl⟩)) from ⟨List.prefix_refl _, rfl⟩).trans Ext.add)
  rcases led_at hp with ⟨j, o, q1, q2, _⟩ | hp
  · have hj : j < st.ob.length := by rw [← hol]; exact (gS q2).1
    have h1 := l _ (led_of (st := st) q1 (List.getElem?_eq_getElem hj))
    exact h1
  · exact l p (mR _ hp)
set_option tactic.hygienic true in
theorem DoC.exc {K : RV → XS → Prop} {v : RV} (n : Nat) (hroom : Nat.ble D 900 = true) (hw : st.wf = true) (hv : v.wf st.ob.length = true)
    (H : ∀ x t c1 frames base, Uses G c1 frames base (D + 2) (U + 7) (RIn (st.add x (.raw (excNew 108 t))) R) → c1.Ok ⟨fd_105.scope, GL, FS, TAB, ME, false⟩ → c1.pin = (st.add x (.raw (excNew 108 t))).ob.length →
      exS ⟨fd_105.scope, GL, FS, TAB, ME, false⟩ c1 n fd_105.body ((st.add x (.raw (excNew 108 t))).call (bindRV fd_105.params [.r st.ob.length, v])) fun f st1 => match f with
        | .next => K (.r st.ob.length) ((st.add x (.raw (excNew 108 t))).back st1)
        | _ => False) : DoC c (.ref 108) [v] st K := by
  refine ⟨fun Q s z S hq => ?_⟩
  obtain ⟨A₀, B⟩ := Y.B
  obtain ⟨mean, mg, mb, Ok⟩ := Y.Ok
  obtain ⟨m1, m2, _⟩ := Y.HG.x108
  obtain ⟨nm, q, N, bs, sn, sub, ab, col, dd, k0, k1, k2, k3, k5, hl⟩ := Y.HG.c108
  have X := Y.X
  rw [Y.hK] at X
  refine call_exc2 (rest := [v.den st.ρ]) PySem.F.excBase_Exception S.F X S.N hl m1 m2 (by show 1 ≤ 1000; decide) fun x t h' F' N' l1 l2 => ?_
  have S2 : Sat c (st.add x (.raw (excNew 108 t))) h' := S.add hw F' (o := .raw (excNew 108 t)) (all_cons (N' _ mS) fun p hp => N' p (mC _ (mC _ hp))) fun p hp => Nat.lt_trans (l1 p hp) l2
  have hw2 : (st.add x (.raw (excNew 108 t))).wf = true := XS.wf_add hw rfl
  have hvs' : [RV.r st.ob.length, v].map (RV.den (st.add x (.raw (excNew 108 t))).ρ) = [.ref x, v.den st.ρ] := by
    show [Value.ref ((st.ρ ++ [x]).getD st.ob.length 0), v.den (st.ρ ++ [x])] = _
    rw [RV.den_grow (Nat.le_of_eq S.len.symm) [x] v hv, ← S.len]; simp
  have Cc := cx_of B F' Ok Y.hA Y.fr Y.ff Y.kf
  have key := CTc.inl Y.HG (D := D + 1) (U := U + 4) (f := 105) (Y.HG.fnAt rfl) S2.ok (vs := [.r st.ob.length, v]) _ n rfl (Nat.lt_of_le_of_lt (Nat.succ_le_succ (Nat.le_of_ble_eq_true hroom)) (by decide)) (fun _ _ _ _ _ _ _ => rfl) (H x t) (c.A.under (.builtin "type.__call__" ⟨[.ref 108, v.den st.ρ], []⟩)) (c.fe :: frames) base mean mg mb { s with heap := h' } (fun v s' => v = .none ∧ Q (.ref x) s') c.E
    ⟨Cc.hd, Cc.fr, Cc.st, Cc.ff, Cc.ok⟩ (own_of B S2.N Y.ff fun _ h => h) ?d1 ?d2 (inl_ends (s := { s with heap := h' }) S2 hw2 fun f st1 h2 tk2 hK S' X' => ?en) (inl_raises Y S2 z.to)
  · rw [← Y.prog, ← Y.hw, hvs'] at key
    refine codeAny_mono key fun r s' hr => ?_
    cases r with
    | error e => exact hr
    | ok f => cases f with
      | ret v => exact hr
      | _ => exact hr.elim
  case d1 =>
    have : (c.A.under (.builtin "type.__call__" ⟨[.ref 108, v.den st.ρ], []⟩)).depth ≤ c.A.depth + 1 := by
      first | exact Nat.le_refl _ | exact Nat.le_succ _ | simp [Around.under, Code.frames, Code.isFrame]
    exact Nat.le_trans this (Nat.succ_le_succ Y.hd)
  case d2 =>
    have e : (c.A.under (.builtin "type.__call__" ⟨[.ref 108, v.den st.ρ], []⟩)).units ≤ c.A.units + 1 := by
      first | exact Nat.le_refl _ | exact Nat.le_succ _ | simp [Around.under, Code.cUnits, Code.frames, Code.isFrame]
    exact Nat.le_trans e (Nat.le_trans (Nat.succ_le_succ Y.hu) (Nat.add_le_add_left (by decide : 1 ≤ 4) U))
  case en =>
    cases f with
    | next =>
      refine ⟨rfl, ?_⟩
      have := hq (.r st.ob.length) _ h2 tk2 hK S' (Ext.add.trans X')
      have e2 : RV.den ((st.add x (.raw (excNew 108 t))).back st1).ρ (.r st.ob.length) = .ref x := by
        obtain ⟨as, ha⟩ := X'.pre
        have h9 : ((st.add x (.raw (excNew 108 t))).back st1).ρ = (st.ρ ++ [x]) ++ as := ha.symm
        show Value.ref (((st.add x (.raw (excNew 108 t))).back st1).ρ.getD st.ob.length 0) = _
        rw [h9, ← S.len]; simp
      rw [e2] at this
      exact this
    | _ => exact hK.elim
end
noncomputable def cutL (n0 : Nat) (st : XS) : List (Addr × Obj) := (st.ρ.zip (st.ob.map (RO.den st.ρ))).take n0 ++ st.tlc
inductive RaiseOk (R : Int → List (Addr × Obj) → Prop) (n0 : Nat) (v : RV) (st : XS) : Prop
  | mk (i j : Nat) (t d : Addr) (q1 : Int) (t1 : Tok) (v1 : RV) (q2 : Int) (t2 : Tok) (k : Int) (tk : Tok) (hv : v = .r i) (e1 : st.ob[i]? = some (.raw (excOf 108 d t))) (e2 : st.ob[j]? = some (.dict [(q1, Str.ofString "text", t1, v1), (q2, Str.ofString "steps", t2, .v (.int k tk))] 2))
    (hd : d = st.ρ.getD j 0) (hb : (!Nat.beq i j && (st.mu.contains i && (st.mu.contains j && (Nat.ble n0 i && Nat.ble n0 j)))) = true) (hR : R k (cutL n0 st))
set_option tactic.hygienic true in
theorem DoF.raise {c : XC} {G : GR} {frames : List Env} {base : Heap} {D U : Nat} {R : Int → List (Addr × Obj) → Prop} (Y : Uses G c frames base D U R) {xt : XT} (O : c.Ok xt) (n : Nat) {e : Expr} {pos : Pos} {st : XS} {K : RF → XS → Prop} (H : exE xt c n e st (RaiseOk R st.ob.length)) : DoF c (exec (.Raise (some e) none pos) c.env) st K := by
  refine ⟨fun Q s z S hq => Raise_own (C := 108) O.hh (exE_ok O n e st _ H _ s z S fun v st2 h2 tk2 H2 S2 X2 => ?_)⟩
  obtain ⟨A₀, B⟩ := Y.B
  obtain ⟨i, j, t, d, q1, t1, v1, q2, t2, k, tk, rfl, e1, e2, rfl, hb, hR⟩ := H2
  obtain ⟨b1, hb⟩ := bA hb
  obtain ⟨b2, hb⟩ := bA hb
  obtain ⟨b3, hb⟩ := bA hb
  obtain ⟨b4, b5⟩ := bA hb
  have b4 := Nat.le_of_ble_eq_true b4
  have b5 := Nat.le_of_ble_eq_true b5
  have X := Y.X
  rw [Y.hK] at X
  have hi := S2.at e1
  have hj := S2.at e2
  obtain ⟨di1, di2⟩ := S2.D i _ (by simpa using b2) hi
  obtain ⟨dj1, dj2⟩ := S2.D j _ (by simpa using b3) hj
  have hij : i ≠ j := Nat.ne_of_beq_eq_false (by simpa using b1)
  have sub : ∀ q ∈ cutL st.ob.length st2, q ∈ led st2 ∧ q.1 ≠ st2.ρ.getD i 0 ∧ q.1 ≠ st2.ρ.getD j 0 := fun q hq' => by
    rcases mA hq' with h | h
    · refine ⟨mL _ (List.mem_of_mem_take h), ?_⟩
      obtain ⟨m, hm⟩ := List.mem_iff_getElem?.mp h
      rw [List.getElem?_take] at hm
      split at hm
      · rename_i hlt
        rw [List.getElem?_zip_eq_some] at hm
        exact ⟨di1 m _ hm.1 (by lia), dj1 m _ hm.1 (by lia)⟩
      · exact none_no hm
    · exact ⟨mR _ h, di2 q h, dj2 q h⟩
  have me := S2.N _ (S2.mem e1)
  have md := S2.N _ (S2.mem e2)
  refine RaisableT.of Y.HG.c108 (s := { s with heap := h2, toks := tk2 }) S2.F X S2.N (S2.mem e1) ?_
  refine Y.rz _ k (frm st2) (cutL st.ob.length st2) h2 tk2 s z hR ?_
  have K' := pushX B S2.F Y.ff Y.kf
  exact ⟨S2.F.above, fun b o eb _ => S2.F.keep b o eb, fun b o eb => ⟨o.slots, S2.F.keep b o eb⟩, K'.frames, S2.F.ns, fun q hq' => S2.N q (sub q hq').1,
    ⟨st2.ρ.getD j 0, none, q1, t1, v1.den st2.ρ, q2, t2, tk, ⟨_, _, me.1, rfl, rfl, rfl, rfl, rfl, (fun _ q => nomatch q)⟩, di1 j _ hj (fun h => hij h.symm), (fun _ q => nomatch q), ⟨me.2.2, me.2.1, fun q hq' => (sub q hq').2.1⟩, ⟨md.2.2, md.2.1, fun q hq' => (sub q hq').2.2⟩, md.1⟩⟩
end
section
theorem DoCR.of {c : XC} {f : Value} {vs : List RV} {st : XS} {K : RV → XS → Prop} (H : DoC c f vs st K) : DoCR c f vs st K := ⟨fun Q s z S hq => H.run Q s z S fun v st' h' tk' hk S' p' => hq v st' h' tk' hk S' p'.p⟩
noncomputable def XS.backR (st : XS) (fr : List (Str × RV)) (st1 : XS) : XS := ⟨st1.ρ, fr, st1.ob, st1.tl, st1.mu, st.ce, frm st⟩
theorem call_mem {p : Nat} {st st1 : XS} {fr : List (Str × RV)} (X1 : ExtP p (st.call fr) st1) : ∀ e ∈ st.ce, ∃ e' ∈ st1.ce, e'.a = e.a ∧ e'.o = e.o := fun e he => by
  obtain ⟨e', h1, h2, h3⟩ := key_mem X1.dm (show e.off ∈ (st.call fr).ce from List.mem_map_of_mem he) rfl
  exact ⟨e', h1, h2, h3⟩
set_option tactic.hygienic true in
theorem Sat.backR {c : XC} {st st1 : XS} {h h1 : Heap} {fr fr0 : List (Str × RV)} {p : Nat} (S : Sat c st h) (F : Fr c.h₀ c.L h1 (frm st)) (N : News c.h₀ c.L h1 (led st1)) (O1 : SOk st1) (X1 : ExtP p (st.call fr0) st1) (hf : ∀ p ∈ fr, frm st p.1 = some (p.2.den st1.ρ)) (hce : st.ce.all (fun e => e.v.isNone) = true) :
    Sat c (st.backR fr st1) h1 ∧ ExtP p st (st.backR fr st1) := by
  have mem := call_mem X1
  have tlc : ∀ p ∈ (st.backR fr st1).tlc, p ∈ st1.tlc := fun p hp => by
    rcases mA hp with hp | hp
    · obtain ⟨e, he, rfl⟩ := mM hp
      obtain ⟨e', h1, h2, h3⟩ := mem e he
      exact mL _ (List.mem_map.mpr ⟨e', h1, by rw [h2, h3]⟩)
    · exact mR _ hp
  have hv : ∀ e ∈ st.ce, e.v.map (RV.den st1.ρ) = e.v.map (RV.den st.ρ) := fun e he => by
    have := aT hce e he
    rw [Option.isNone_iff_eq_none.mp this]; rfl
  refine ⟨⟨?_, fun p hp => N p ?_, O1.len, fun i a hi ha => ⟨(O1.D i a hi ha).1, fun p hp => (O1.D i a hi ha).2 p (tlc p hp)⟩, ⟨fun e he hd hk => ?_, fun e he hd hk => ?_, fun e he => ?_, S.CE.nd⟩⟩, X1.pre, rfl⟩
  · have : frm (st.backR fr st1) = frm st := funext fun y => by
      show (match fr.lookup y with | some v => some (v.den st1.ρ) | none => frm st y) = _
      cases q : fr.lookup y with
      | none => rfl
      | some v => exact (hf (y, v) (look_mem2 q)).symm
    rw [this]; exact F
  · rcases mA hp with hp | hp
    · exact mL _ hp
    · exact mR _ (tlc p hp)
  · show _ ∧ e.o.data = .cell (e.v.map (RV.den st1.ρ))
    rw [hv e he]; exact S.CE.cl e he hd hk
  · show _ ∧ ∃ m, LCg.NsObj e.o m ∧ m e.x = e.v.map (RV.den st1.ρ)
    rw [hv e he]; exact S.CE.nm e he hd hk
  · obtain ⟨e', h1, h2, _⟩ := mem e he
    rw [← h2]; exact O1.ap e' h1
inductive EndR (st : XS) (p : Nat) (K : RV → XS → Prop) (f : RF) (st1 : XS) : Prop
  | mk (v : RV) (st2 : XS) (fr : List (Str × RV)) (W : Weak st1 st2) (X : ExtP p st1 st2) (hv : v.den st2.ρ = f.rv.den st1.ρ) (hf : ∀ q ∈ fr, frm st q.1 = some (q.2.den st2.ρ)) (k : K v (st.backR fr st2))
theorem DoCR.inl {c : XC} {G : GR} {frames : List Env} {base : Heap} {D U : Nat} {R : Int → List (Addr × Obj) → Prop} (Y : Uses G c frames base D U R) {f : Addr} {vs : List RV} {st : XS} {K : RV → XS → Prop} {d : FD} (n : Nat) (hf : FNS.lookup f = some d) (hd : d.ok = true) (hroom : Nat.ble D 900 = true) (hce : st.ce.all (fun e => e.v.isNone) = true)
    (hb : ∀ name qual doc pm an cdv ct, bindArgs (fnOf name qual d.params d.body d.scope .none .none doc pm an cdv ct) ⟨vs.map (RV.den st.ρ), []⟩ = pure ((d.params.args.map (·.arg)).zip (vs.map (RV.den st.ρ))))
    (H : ∀ c1 frames base, Uses G c1 frames base (D + 1) (U + 3) (RIn st R) → c1.Ok ⟨d.scope, GL, FS, TAB, ME, false⟩ → c1.pin = c.pin → exS ⟨d.scope, GL, FS, TAB, ME, false⟩ c1 n d.body (st.call (bindRV d.params vs)) (EndR st c.pin K)) : DoCR c (.ref f) vs st K := by
  refine ⟨fun Q s z S hq => ?_⟩
  obtain ⟨A₀, B⟩ := Y.B
  obtain ⟨mean, mg, mb, Ok⟩ := Y.Ok
  have ends : Ends s ((led st).map (·.1)) (InlPost c.pin (st.call (bindRV d.params vs)) (EndR st c.pin K)) Q :=
    use_ends S.F S.N (rest := []) (fun _ h => h) (fun _ h => nomatch h) (fun _ h => nomatch h) fun v out h' tk hp F' N' _ => by
      obtain ⟨f', st1, ⟨v, st2, fr, W, X2, hv, hfr, hK⟩, rfl, rfl, O1, X1⟩ := hp
      rw [List.append_nil] at N'
      have O2 : SOk st2 := ⟨W.len, W.dis O1.D, W.ap O1.ap, by rw [W.ce]; exact O1.nd⟩
      obtain ⟨S', X'⟩ := S.backR F' (fun p hp => N' p (W.sub p hp)) O2 (X1.trans X2) hfr hce
      rw [← hv]
      exact hq v (st.backR fr st2) h' tk hK S' X'
  have key := CTc.inl Y.HG (D := D) (U := U) (Y.HG.fnAt hf) S.ok (vs := vs) c.pin n hd (Nat.lt_of_le_of_lt (Nat.le_of_ble_eq_true hroom) (by decide)) hb H c.A (c.fe :: frames) base mean mg mb s Q c.E (cx_of B S.F Ok Y.hA Y.fr Y.ff Y.kf) (own_of B S.N Y.ff fun _ h => h) Y.hd Y.hu
    ends (inl_raises Y S z)
  rw [← Y.prog, ← Y.hw] at key
  exact wpAny_call key
theorem nodup_at {l : List Nat} (h : l.Nodup) {i j k : Nat} (h1 : l[i]? = some k) (h2 : l[j]? = some k) : i = j := by
  obtain ⟨a1, a2⟩ := gS h1
  obtain ⟨b1, b2⟩ := gS h2
  have h := List.pairwise_iff_getElem.mp h
  rcases Nat.lt_trichotomy i j with q | q | q
  · exact absurd (a2.trans b2.symm) (h i j a1 b1 q)
  · exact q
  · exact absurd (b2.trans a2.symm) (h j i b1 a1 q)
set_option tactic.hygienic true in
theorem Weak.sel {st st3 : XS} (js mv : List Nat) (hl : st.ρ.length = st.ob.length) (h1 : st3.ρ = js.map fun j => st.ρ.getD j 0) (h2 : st3.ob.map (RO.den st3.ρ) = js.map fun j => (st.ob.getD j (.raw default)).den st.ρ) (hj : js.all (fun j => Nat.blt j st.ob.length) = true) (hn : js.Nodup)
    (h3 : st3.ce = st.ce) (hce : st.ce.all (fun e => e.v.isNone) = true) (h4 : st3.fo = frm st) (hf : ∀ p ∈ st3.fr, frm st p.1 = some (p.2.den st3.ρ)) (ht : ∀ p ∈ st3.tl, p ∈ st.tl ∨ ∃ j ∈ mv, j < st.ob.length ∧ p = (st.ρ.getD j 0, (st.ob.getD j (.raw default)).den st.ρ))
    (hm : st3.mu.all (fun i => match js[i]? with
      | some j => st.mu.contains j && !mv.contains j
      | none => false) = true) : Weak st st3 := by
  have obj : ∀ j, j < st.ob.length → st.ρ[j]? = some (st.ρ.getD j 0) ∧ st.ob[j]? = some (st.ob.getD j (.raw default)) := fun j hj => ⟨getD_at (hl ▸ hj), by rw [List.getD_eq_getElem?_getD, List.getElem?_eq_getElem hj]; rfl⟩
  have at3 : ∀ {i : Nat} {a : Addr}, st3.ρ[i]? = some a → ∃ j, js[i]? = some j ∧ j < st.ob.length ∧ st.ρ[j]? = some a := fun {i a} e => by
    rw [h1, List.getElem?_map] at e
    cases hji : js[i]? with
    | none => rw [hji] at e; exact none_no e
    | some j =>
      rw [hji] at e
      have hlt : j < st.ob.length := Nat.le_of_ble_eq_true (aT hj j (List.mem_of_getElem? hji))
      exact ⟨j, rfl, hlt, by rw [(obj j hlt).1]; exact e⟩
  have hlen : st3.ob.length = js.length := by
    have := congrArg List.length h2
    simpa using this
  have tl1 : ∀ p ∈ st3.tlc, p ∈ st.tlc ∨ ∃ j ∈ mv, j < st.ob.length ∧ p = (st.ρ.getD j 0, (st.ob.getD j (.raw default)).den st.ρ) := fun p hp => by
    rcases mA hp with hp | hp
    · rw [h3] at hp; exact .inl (mL _ hp)
    · exact (ht p hp).imp (mR _) id
  have hv : ∀ e ∈ st.ce, e.v = none := fun e he => Option.isNone_iff_eq_none.mp (aT hce e he)
  refine ⟨fun p hp => ?_, funext fun y => ?_, by rw [h1, hlen, List.length_map], fun D i a hi ha => ?_, h3, fun e he => by rw [hv e he]; rfl, fun A e he => ?_⟩
  · rcases led_at hp with ⟨i, o, q1, q2, q3⟩ | hp
    · obtain ⟨j, e1, e2, e3⟩ := at3 q1
      have e4 : (st3.ob.map (RO.den st3.ρ))[i]? = some (o.den st3.ρ) := by rw [List.getElem?_map, q2]; rfl
      rw [h2, List.getElem?_map, e1] at e4
      have := led_of e3 (obj j e2).2
      rw [show (st.ob.getD j (.raw default)).den st.ρ = o.den st3.ρ from Option.some.inj e4, ← q3] at this
      exact this
    · rcases tl1 p hp with h | ⟨j, _, hj, rfl⟩
      · exact mR _ h
      · exact led_of (obj j hj).1 (obj j hj).2
  · show (match st3.fr.lookup y with | some v => some (v.den st3.ρ) | none => st3.fo y) = _
    cases q : st3.fr.lookup y with
    | none => rw [h4]
    | some v => exact (hf (y, v) (look_mem2 q)).symm
  · have hi' := aT hm i hi
    obtain ⟨j, e1, e2, e3⟩ := at3 ha
    rw [e1] at hi'
    obtain ⟨m1, m3⟩ := bA hi'
    obtain ⟨d1, d2⟩ := D j a (by simpa using m1) e3
    refine ⟨fun i' b hb hne => ?_, fun p hp => ?_⟩
    · obtain ⟨j', f1, _, f3⟩ := at3 hb
      exact d1 j' b f3 fun e => hne (nodup_at hn (e ▸ f1) e1)
    · rcases tl1 p hp with h | ⟨j', hj', hjl, rfl⟩
      · exact d2 p h
      · refine d1 j' _ (obj j' hjl).1 fun e => ?_
        subst e
        rw [Bool.not_eq_true', List.contains_eq_mem, decide_eq_false_iff_not] at m3
        exact m3 hj'
  · rw [h3] at he
    refine ⟨fun i b hb => ?_, fun p hp => ?_⟩
    · obtain ⟨j, _, _, f3⟩ := at3 hb
      exact (A e he).1 j b f3
    · rcases ht p hp with h | ⟨j, _, hj, rfl⟩
      · exact (A e he).2 p h
      · exact (A e he).1 j _ (obj j hj).1
end
section
theorem tl_mem {st : XS} {p : Addr × Obj} (h : p ∈ st.tl) : p ∈ led st := mR _ (mR _ h)
noncomputable def subName : Expr := .Name "x" default
section
variable {c : XC} {st : XS} {K : RV → XS → Prop} {a : Addr}
theorem x_tupitem {ov : RV} {vs : List Value} {j : Nat} {i : Int} {t : Tok} {val sl : Expr} (v : Value) (ho : ov.den st.ρ = .ref a) (hm : st.ρ.length = st.ob.length → (a, tupO vs.toArray) ∈ led st) (hi : i = Int.ofNat j) (hv : vs[j]? = some v) (hj : Nat.ble j 1000 = true) (h2 : noSlice sl = true) (k : K (.v v) st) :
    Do c (subscriptTail val sl (ov.den st.ρ) ((RV.v (.int i t)).den st.ρ)) st K := by
  refine ⟨fun Q s z S hq => kba_turn (value' := subName) (fun _ => rfl) ?_⟩
  rw [ho]
  subst hi
  have hjl : j < vs.length := (gS hv).1
  have h3' : j ≤ 1000 := Nat.le_of_ble_eq_true hj
  refine kim_tup (l := vs) (n := 0) (j := j) S.N (hm S.len) rfl rfl (by show (-2 ^ 63 : Int) ≤ ((j : Nat) : Int); lia) (by show ((j : Nat) : Int) < 2 ^ 63; lia) ?_ hv (hq (.v v) _ _ _ k S (Ext.refl _)) (sl_is h2) (fun _ => rfl)
  show seqIndex? ((j : Nat) : Int) _ = some j
  unfold seqIndex?
  simp
  lia
theorem x_isTuple {ov : RV} {o : Obj} (ho : ov.den st.ρ = .ref a) (hm : st.ρ.length = st.ob.length → (a, o) ∈ led st) (hc : o.cls = .type "tuple") (k : K (.v (.bool true)) st) : DoC c (.builtin "isinstance") [ov, .v (.type "tuple")] st K := by
  refine ⟨fun Q s z S hq => ?_⟩
  show wpAny _ _ (call _ [ov.den st.ρ, .type "tuple"]) _ _ _
  rw [ho]
  exact PySem.IsiPair.tuple_tuple (S.N.get (hm S.len)) hc (hq (.v (.bool true)) _ _ _ k S (Ext.refl _))
theorem x_isTupleInt {x : Int} {t : Tok} (k : K (.v (.bool false)) st) : DoC c (.builtin "isinstance") [.v (.int x t), .v (.type "tuple")] st K :=
  ⟨fun Q s z S hq => PySem.IsiPair.int_tuple (hq (.v (.bool false)) _ _ _ k S (Ext.refl _))⟩
section
variable {α : Type} [DecidableEq α] {knd : KeyKind c.prog c.w α} {o : Obj} {kvs : List (α × Value)} {key : α} {kv ov : RV}
theorem x_dget (rv : RV) (ho : ov.den st.ρ = .ref a) (hm : st.ρ.length = st.ob.length → (a, o) ∈ led st) (hd : o.IsDictOf knd kvs) (lo : (a == sysModules) = false) (hk : knd.is key (kv.den st.ρ) = true) (hl : valueAt kvs key = some (rv.den st.ρ)) (k : K rv st) : DoC c (.builtin "dict.get") [ov, kv] st K := by
  refine ⟨fun Q s z S hq => ?_⟩
  show wpAny _ _ (call _ [ov.den st.ρ, kv.den st.ρ]) _ _ _
  rw [ho]
  exact kdg_get1 S.N (hm S.len) hd lo hk (some (rv.den st.ρ)) hl (hq rv _ _ _ k S (Ext.refl _))
theorem x_ditem (rv : RV) {val sl : Expr} (ho : ov.den st.ρ = .ref a) (hm : st.ρ.length = st.ob.length → (a, o) ∈ led st) (hd : o.IsDictOf knd kvs) (hk : knd.is key (kv.den st.ρ) = true) (hl : valueAt kvs key = some (rv.den st.ρ)) (h2 : noSlice sl = true) (k : K rv st) : Do c (subscriptTail val sl (ov.den st.ρ) (kv.den st.ρ)) st K := by
  refine ⟨fun Q s z S hq => kba_turn (value' := subName) (fun _ => rfl) ?_⟩
  rw [ho]
  exact kda_item S.N (hm S.len) hd hk hl (hq rv _ _ _ k S (Ext.refl _)) (sl_is h2) (fun _ => rfl)
theorem x_dnotin {b : Bool} (ho : ov.den st.ρ = .ref a) (hm : st.ρ.length = st.ob.length → (a, o) ∈ led st) (hd : o.IsDictOf knd kvs) (lo : (a == sysModules) = false) (hk : knd.is key (kv.den st.ρ) = true) (hl : (valueAt kvs key).isSome = b) (k : K (.v (.bool !b)) st) : Do c (compareOp .NotIn (kv.den st.ρ) (ov.den st.ρ)) st K := by
  refine ⟨fun Q s z S hq => ?_⟩
  rw [ho]
  exact kdg_notin S.N (hm S.len) hd lo hk b hl (hq (.v (.bool !b)) _ _ _ k S (Ext.refl _))
end
end
end
section
section
variable {st : XS}
end
section
open PySem.SeqAt
variable {c : XC} {st : XS} {K : RV → XS → Prop}
noncomputable def isStr : RV → Bool
  | .v (.str _ _) => true
  | _ => false
noncomputable def strIs (x : Str) : Value → Bool
  | .str y _ => y == x
  | _ => false
noncomputable def strRVis (x : Str) : RV → Bool
  | .v (.str y _) => y == x
  | _ => false
set_option tactic.hygienic true in
theorem x_inTup {i : Nat} {vs : List RV} {x : Str} {t : Tok} (b : Bool) (ho : st.ob[i]? = some (.tup vs)) (hs : vs.all isStr = true) (hb : vs.any (strRVis x) = b) (k : K (.v (.bool b)) st) : Do c (compareOp .In ((RV.v (.str x t)).den st.ρ) ((RV.r i).den st.ρ)) st K := by
  refine ⟨fun Q s z S hq => ?_⟩
  subst hb
  refine in_tupleAt (items := (vs.map (RV.den st.ρ)).toArray) (strIs x) ⟨_, (S.N _ (S.mem ho)).1, rfl, _, rfl⟩ (fun y hy => ?_) ?_
  · obtain ⟨v, hv, rfl⟩ := mM (List.mem_toArray.mp hy)
    have h1 := aT hs v hv
    obtain ⟨a, u, rfl⟩ : ∃ a u, v = .v (.str a u) := by
      cases v with
      | r i => exact ft_no h1
      | v y => cases y <;> first | exact ⟨_, _, rfl⟩ | cases h1
    exact EqAt.str_str _ _ _ _
  · have e1 : (vs.map (RV.den st.ρ)).any (strIs x) = vs.any (strRVis x) := by
      rw [List.any_map]
      congr 1
      funext v
      cases v with
      | r i => rfl
      | v y => cases y <;> rfl
    rw [show (vs.map (RV.den st.ρ)).toArray.any (strIs x) = (vs.map (RV.den st.ρ)).any (strIs x) from List.any_toArray, e1]
    exact hq (.v (.bool _)) _ _ _ k S (Ext.refl _)
theorem x_abs {a : Int} {t : Tok} (k : ∀ u, K (.v (.int (if a < 0 then -a else a) u)) st) : DoC c (.builtin "abs") [.v (.int a t)] st K :=
  ⟨fun Q s z S hq => call_abs_int fun u tk => hq (.v (.int _ u)) _ _ _ (k u) S (Ext.refl _)⟩
theorem x_max (O : c.A.handled = none) {a b : Int} {t u : Tok} (k : ∀ t', K (.v (.int (if b > a then b else a) t')) st) : DoC c (.builtin "max") [.v (.int a t), .v (.int b u)] st K :=
  ⟨fun Q s z S hq => max_two_N O S.F S.N fun h' tk F' N' => hq (.v (.int _ _)) st h' tk (k _) ⟨F', N', S.len, S.D, S.CE⟩ (Ext.refl _)⟩
theorem x_mulL {i k : Nat} {y : Value} {n : Nat} {x : Int} {u : Tok} (hw : st.wf = true) (ho : st.ob[i]? = some (.lst [y] n)) (hx : x = k) (hk : k ≤ 1000) (kk : ∀ a, K (.r st.ob.length) (st.add a (.lst (List.replicate k y) 0))) : Do c (binaryOp .Mult ((RV.r i).den st.ρ) ((RV.v (.int x u)).den st.ρ)) st K := by
  refine ⟨fun Q s z S hq => ?_⟩
  subst hx
  refine PyProof.Rows.mul_list S.F S.N (S.N _ (S.mem ho)).1 (by show (-2 ^ 63 : Int) ≤ (k : Int); lia) (by show (k : Int) < 2 ^ 63; lia) (by show 1 * k ≤ 2 ^ 24; lia) fun h' F' N' => ?_
  have e : (List.foldl (fun x1 x2 => x1 ++ x2) #[] (List.replicate (if (#[y] : Array Value).isEmpty = true then 0 else (k : Int).toNat) #[y])) = (List.replicate k y).toArray := by
    rw [if_neg (by simp), Int.toNat_natCast]
    have : ∀ (k : Nat) (z : Array Value), List.foldl (fun x1 x2 => x1 ++ x2) z (List.replicate k #[y]) = z ++ (List.replicate k y).toArray := by
      intro k
      induction k with
      | zero => intro z; simp
      | succ k ih => intro z; rw [List.replicate_succ, List.foldl_cons, ih, List.replicate_succ, Array.append_assoc]; congr 1; simp
    rw [this]; simp
  have h1 : (s.heap.objs.size : Addr) = (st.ρ ++ [s.heap.objs.size]).getD st.ob.length 0 := by rw [List.getD_eq_getElem?_getD, ← S.len, List.getElem?_append_right (Nat.le_refl _), Nat.sub_self]; rfl
  have := hq (.r st.ob.length) (st.add s.heap.objs.size (.lst (List.replicate k y) 0)) h' s.toks (kk _) (S.add hw F' (by rw [show RO.den (st.ρ ++ [s.heap.objs.size]) (.lst (List.replicate k y) 0) = listOf (List.replicate k y).toArray 0 from rfl]; exact e ▸ N') fun p hp => Heap.lt_size (S.N p hp).1) Ext.add
  rw [show (RV.r st.ob.length).den (st.add s.heap.objs.size (.lst (List.replicate k y) 0)).ρ = .ref s.heap.objs.size from congrArg Value.ref h1.symm] at this
  exact this
end
theorem road_iadd {M : Model} {A : Around} {E : Value → Shared → Prop} {s : Shared} {a b : Value} {T id : String} {Q : Value → Shared → Prop} (ha : s.TypeIs a T) (hb : s.TypeIs b T) (hfi : fillsInplaceSlot (.type T) "add" (Operator.Add == .Add) = pure false) (hfill : fillsNumberSlot (.type T) "add" = pure false)
    (hsi : seqSlot? (.type T) (dunderI "add") = pure (some (.builtin id))) (hc : wpAny M A (call (.builtin id) [a, b]) Q E s) : wpAny M A (inplaceOp .Add a b) Q E s := by
  unfold inplaceOp
  refine wpAny_holding ?_
  refine wpAny_bind (wpAny_typeOf ha (wpAny_bind (wpAny_of_eq hfi ?_)))
  show wpAny M A (if false = true then _ else _) Q E s
  rw [if_neg Bool.false_ne_true]
  refine wpAny_bind (wpAny_binaryOp1_none (nm := "add") ha hb hfill ?_)
  refine wpAny_bind (wpAny_of_eq hsi ?_)
  exact wpAny_bind (wpAny_rule hc)
theorem fi_list : fillsInplaceSlot (.type "list") "add" (Operator.Add == .Add) = pure false := by
  unfold fillsInplaceSlot
  show (typeLookup (.type "list") (dunderI "add") >>= fun fi => pure (fi.isSome && !isSeqSlot fi)) = pure false
  rw [PySem.F.slot_list_iadd.lookup]
  show (pure _ : Sem Bool) = pure _
  congr 1
theorem seq_list_iadd : seqSlot? (.type "list") (dunderI "add") = pure (some (.builtin "list.__iadd__")) := PyProof.Rows.seqSlot_of PySem.F.slot_list_iadd.lookup (by decide +kernel)
section
variable {prog : Program} {w : World} {A : Around} {E : Value → Shared → Prop} {s : Shared} {h₀ : Heap} {L D b : Addr} {m : Str → Option Value} {news news' : List (Addr × Obj)}
theorem my_iadd {xs ys : List Value} {n n2 : Nat} {Q : Value → Shared → Prop}
    (F : Fr h₀ L s.heap m) (N : News h₀ L s.heap news) (hb : (b, listOf ys.toArray n2) ∈ news) (hz : xs.length + ys.length ≤ 1000) (U : Upd D (listOf xs.toArray n) (listOf (xs ++ ys).toArray (if ys.length = 0 then n else n + 1)) news news')
    (h : ∀ h', Fr h₀ L h' m → News h₀ L h' news' → Q (.ref D) { s with heap := h' }) : wpAny (model prog w) A (inplaceOp .Add (.ref D) (.ref b)) Q E s := by
  obtain ⟨pre, post, rfl, rfl, a, c⟩ := U.split
  have z := N (D, listOf xs.toArray n) (List.mem_append.mpr (.inr (.head _)))
  have zb := N _ hb
  have hs : xs.length + ys.length ≤ sizeLine := sz_ok hz
  refine road_iadd (T := "list") (id := "list.__iadd__") ⟨_, z.1, rfl⟩ ⟨_, zb.1, rfl⟩ fi_list noFill_list_add seq_list_iadd (call_meets PySem.F.slot_list_iadd ⟨_, z.1, rfl⟩ PySem.F.entry_list_iadd (PySem.F.args_list_iadd_2 _ _)
    (PySem.AutoSeq1.list___iadd___list_list_0 D xs.toArray n b ys.toArray n2 ?_ (by rw [List.size_toArray]; lia) (by rw [List.size_toArray, List.size_toArray]; lia)) ⟨z.1, zb.1, h _ (F.change (Heap.SameBut.update ..) z.2.1 z.2.2) ?_⟩)
  · rw [List.size_toArray, List.size_toArray, show Builtin.List.listTooLong (xs.length + ys.length) = false from ?_]
    · simp
    · unfold Builtin.List.listTooLong
      simp only [decide_eq_false_iff_not]
      first | (rw [PySem.sizeLine_eq] at hs; lia) | lia
  · by_cases hy : ys.length = 0
    · rw [if_pos hy]
      exact kl_turn0 (fun x => x ++ ys.toArray) N a c (by simp) (by rw [List.size_toArray, List.size_toArray, List.length_append, hy]; rfl)
    · rw [if_neg hy]
      exact kl_turn (fun x => x ++ ys.toArray) N a c (by simp) (by rw [List.size_toArray, List.size_toArray, List.length_append]; lia)
end
section
variable {c : XC} {st : XS} {K : RV → XS → Prop}
theorem x_iadd {i j : Nat} {vs us : List Value} {n m : Nat} (e : st.ob[i]? = some (.lst vs n)) (hi : st.mu.contains i = true) (e2 : st.ob[j]? = some (.lst us m)) (hl : vs.length + us.length ≤ 1000) (k : K (.r i) (st.set i (.lst (vs ++ us) (if us.length = 0 then n else n + 1)))) :
    Do c (inplaceOp .Add ((RV.r i).den st.ρ) ((RV.r j).den st.ρ)) st K :=
  ⟨fun _ _ _ S hq => my_iadd S.F S.N (S.mem e2) hl (S.upd e (by simpa using hi) (.lst (vs ++ us) (if us.length = 0 then n else n + 1))) fun h' F' N' => hq (.r i) (st.set i (.lst (vs ++ us) (if us.length = 0 then n else n + 1))) h' _ k (S.setTo F' N') ⟨List.prefix_refl _, rfl⟩⟩
end
end
section
section
variable {G : GR} (HG : GrF G.K)
include HG
theorem c_load (mm md lc pl c : Addr) (its : List Value) (q : Nat → Int) (t : Nat → Tok) (ch pd : Value) (n k : Nat) (a v : Int) (t3 t4 t5 t6 t7 : Tok) (h1 : a = k) (h3 : its.length ≤ 1000) (h2 : its[k]? = some (.ref c)) :
    CT G 700 2000 236 [.ref mm, .ref pl] [(mm, instObj 253 md), (md, memD q t lc ch), (lc, listOf its.toArray n), (pl, tupO #[.int 0 t3, .int a t4, .int 0 t5, pd]), (c, tupO #[.int 0 t6, .int v t7])] []
     (fun r out => r = .int v t7 ∧ out = []) never := by
  have h4 : k < its.length := (gS h2).1
  refine CT.go HG 40 [mm, md, lc, pl, c] [.inst 253 1, .dict [(q 0, Str.ofString "numeric", t 0, .r 2), (q 1, Str.ofString "characters", t 1, .v ch)] 2, .lst its n, .tup [.v (.int 0 t3), .v (.int a t4), .v (.int 0 t5), .v pd], .tup [.v (.int 0 t6), .v (.int v t7)]] [] [] [.r 0, .r 3] rfl rfl rfl (fun _ _ _ _ _ _ _ => rfl) rfl (fun _ => Iff.rfl) rfl (fun _ _ h => nomatch h) ?_
  intro c frames base Y _
  refine exS_fin fun KK hKK => ?_
  intro t1
  intro t2 t3
  refine DoC.inlN Y 40 rfl rfl rfl rfl (fun _ _ _ _ _ _ _ => rfl) fun c1 F1 B1 Y1 _ => ?_
  refine DoC.inlN Y1 40 rfl rfl rfl rfl (fun _ _ _ _ _ _ _ => rfl) fun c2 F2 B2 Y2 _ => ?_
  intro t'
  refine DoC.inlN Y1 40 rfl rfl rfl rfl (fun _ _ _ _ _ _ _ => rfl) fun c2 F2 B2 Y2 _ => ?_
  intro t4
  refine iff' (decide_eq_false (by lia)) ?_
  intro t5
  refine x_len rfl h3 fun t6 => ?_
  refine iff' (decide_eq_false (by lia)) ?_
  refine DoC.inlN Y1 40 rfl rfl rfl rfl (fun _ _ _ _ _ _ _ => rfl) fun c2 F2 B2 Y2 _ => ?_
  refine x_item (.r 4) rfl h1 h2 h3 rfl ?_
  intro t7
  intro t8
  subst hKK
  refine EndX.same rfl ?_
  exact ⟨rfl, rfl⟩
end
end
section
inductive HeldPost (m : Int) (r : Value) (out : List (Addr × Obj)) : Prop
  | mk (lo : Addr) (xs : List Value) (tl : List (Addr × Obj)) (hr : r = .ref lo) (ho : out = (lo, LCg.lst xs) :: tl) (hl : xs.length = m.toNat) (hA : AllAt PlaceR tl xs) (hN : NeAll lo tl)
section
variable {G : GR} (HG : GrF G.K)
include HG
theorem x_extent (dd d1 : Addr) (m : Int) (t6 t7 : Tok) (hm : 0 ≤ m ∧ m ≤ 5) :
    CT G 850 2800 320 [.ref dd] [(dd, tupO #[.ref d1]), (d1, tupO #[.int 1 t6, .int m t7])] [] (fun r out => ∃ t, r = .int m t ∧ out = []) never := by
  refine CT.go HG 40 [dd, d1] [.tup [.r 1], .tup [.v (.int 1 t6), .v (.int m t7)]] [] [] [.r 0] rfl rfl rfl (fun _ _ _ _ _ _ _ => rfl) rfl (fun _ => Iff.rfl) rfl (fun _ _ h => nomatch h) ?_
  intro c frames base Y O
  refine exS_fin fun KK hKK => ?_
  intro t1
  refine DoF.forT O rfl 40 rfl rfl ⟨0, 1, _, rfl, rfl, rfl, rfl, fun I oI => ?_⟩
  intro t2 t3 t4
  refine x_imul (IntMulOk.of_left (by decide)) fun t8 => ?_
  refine ⟨_, Weak.refl rfl, ?_, rfl, rfl⟩
  subst hKK
  refine EndX.same rfl ?_
  refine ⟨_, congrArg (Value.int · _) ?_, rfl⟩
  rotate_left 1
  lia
omit HG in
theorem u_extent {c : XC} {frames : List Env} {base : Heap} {D U : Nat} {R : Int → List (Addr × Obj) → Prop} {st : XS} {K : RV → XS → Prop} (Y : Uses G c frames base D U R) {i j : Nat} {m : Int} {t6 t7 : Tok} (e : st.ob[i]? = some (.tup [.r j])) (e' : st.ob[j]? = some (.tup [.v (.int 1 t6), .v (.int m t7)])) (hm : 0 ≤ m ∧ m ≤ 5) (hD : Nat.ble D 850 = true) (hU : Nat.ble U 2800 = true) (k : ∀ t, K (.v (.int m t)) st) : DoC c (.ref 320) [.r i] st K :=
  Do.use0 Y (x_extent Y.HG _ _ m t6 t7 hm) hD hU (fun hl => all_cons (mem_led hl e) (all_cons (mem_led hl e') all_nil)) fun _ _ ⟨t, e, _⟩ => ⟨.v (.int m t), e, k t⟩
theorem x_elems (pl dd d1 : Addr) (m : Int) (t3 t4 t5 t6 t7 : Tok) (hm : 0 ≤ m ∧ m ≤ 5) :
    CT G 750 2400 339 [.ref pl] [(pl, tupO #[.int 0 t3, .int 3 t4, .int 0 t5, .ref dd]), (dd, tupO #[.ref d1]), (d1, tupO #[.int 1 t6, .int m t7])] []
     (HeldPost m) never := by
  refine CT.goC HG 40 [pl, dd, d1] [.tup [.v (.int 0 t3), .v (.int 3 t4), .v (.int 0 t5), .r 1], .tup [.r 2], .tup [.v (.int 1 t6), .v (.int m t7)]] [] [] [(Str.ofString "place", .r 0)] [] rfl rfl rfl (fun _ _ _ _ _ _ _ => rfl) (by decide +kernel) (by intro L; show ([L + 1 + 1 + 1 + 1, L + 1 + 1 + 1, L + 1 + 1, L + 1] : List Nat).Nodup; simp; lia) (fun _ _ _ => rfl) (fun _ _ L => all_cons rfl (all_cons rfl (all_cons rfl (all_cons rfl all_nil)))) (fun _ => Iff.rfl) rfl (fun _ _ h => nomatch h) ?_
  intro c frames base L o Y O
  refine exS_fin fun KK hKK => ?_
  intro o1 o2 o3
  refine u_extent Y (j := 2) rfl rfl hm rfl rfl fun t1 => ?_
  refine DoC.inlN Y 40 rfl rfl rfl rfl (fun _ _ _ _ _ _ _ => rfl) fun c1 F1 B1 Y1 O1 => ?_
  refine DoC.inlN Y1 40 rfl rfl rfl rfl (fun _ _ _ _ _ _ _ => rfl) fun c2 F2 B2 Y2 O2 => ?_
  intro t2 o4
  refine Do.comp O PlaceR place_tag 40 40 rfl rfl rfl rfl ?_
  refine x_range rfl fun r t8 t9 => ?_
  refine ⟨rfl, rfl, rfl, 3, m.toNat, _, rfl, .rng 0 m _ _ _ rfl (small_one (by decide) (by decide) (by lia) (by lia)) ((rangeSize_nat 0 m).trans (by rw [Int.sub_zero])) (by lia) rfl, fun c' C oC I oI D ys tl i w _ O' hi hw hl hA hn => ?_, fun D ys tl hl hA h1 h2 h3 => ?_⟩
  · obtain ⟨tw, rfl⟩ := hw
    refine x_mul (IntMulOk.of_right (by decide)) fun t10 => ?_
    intro t11 e p
    refine ⟨⟨rfl, rfl, rfl, rfl⟩, rfl, ?_⟩
    refine ⟨p, e, t3, t11, t5, rfl, ?_, List.Mem.head _⟩
    rw [show (3 + (i : Int)) = 3 + (0 + (i : Int)) * 1 by lia]
    exact List.Mem.tail _ (List.Mem.head _)
  · subst hKK
    refine EndX.outT (led_sub [r] [_] rfl rfl (fun _ h => nomatch h) rfl rfl) rfl rfl h1 h3 ?_
    exact ⟨D, ys, tl, rfl, rfl, hl, hA, h2⟩
omit HG in
theorem u_elems {c : XC} {frames : List Env} {base : Heap} {D U : Nat} {R : Int → List (Addr × Obj) → Prop} {st : XS} {K : RV → XS → Prop} (Y : Uses G c frames base D U R) {i j k : Nat} {m : Int} {t3 t4 t5 t6 t7 : Tok} (hw : st.wf = true) (e : st.ob[i]? = some (.tup [.v (.int 0 t3), .v (.int 3 t4), .v (.int 0 t5), .r j]))
    (e1 : st.ob[j]? = some (.tup [.r k])) (e2 : st.ob[k]? = some (.tup [.v (.int 1 t6), .v (.int m t7)])) (hm : 0 ≤ m ∧ m ≤ 5) (hD : Nat.ble D 750 = true) (hU : Nat.ble U 2400 = true)
    (kk : ∀ lo xs tl, xs.length = m.toNat → AllAt PlaceR tl xs → NeAll lo tl → NeAll lo (led st) → (∀ p ∈ tl, NeAll p.1 (led st)) → K (.r st.ob.length) (st.addT lo (.lst xs xs.length) tl)) : DoC c (.ref 339) [.r i] st K := by
  refine Do.use Y (fun _ _ => x_elems Y.HG _ _ _ m t3 t4 t5 t6 t7 hm) [] hD hU (fun hl => all_cons (mem_led hl e) (all_cons (mem_led hl e1) (all_cons (mem_led hl e2) all_nil))) rfl rfl ?_ (fun _ _ _ h => h.elim) rfl
  rintro r out ⟨lo, xs, tl, rfl, rfl, h1, h2, h3⟩ hn D hl A
  have hne : ∀ q ∈ ((lo, LCg.lst xs) :: tl), NeAll q.1 (led st) := fun q hq => (hn q hq).resolve_left fun h => nomatch h
  have hlo := hne _ mS
  have htl : ∀ p ∈ tl, NeAll p.1 (led st) := fun p hp => hne p (mC _ hp)
  refine ⟨.r st.ob.length, _, ?_, Next.addT (o := .lst xs xs.length) hl hw D A hlo mS h3 (fun p hp => ⟨mC _ hp, htl p hp⟩), kk lo xs tl h1 h2 h3 hlo htl⟩
  show Value.ref lo = Value.ref ((st.ρ ++ [lo]).getD st.ob.length 0)
  rw [← hl]; simp
theorem c_held (mm md lc pl dd d1 : Addr) (its : List Value) (q : Nat → Int) (t : Nat → Tok) (ch : Value) (n : Nat) (m : Int) (t3 t4 t5 t6 t7 : Tok) (hm : 0 ≤ m ∧ m ≤ 5) (h7 : its.length = 20) :
    CT G 600 1500 346 [.ref mm, .ref pl] [(mm, instObj 253 md), (md, memD q t lc ch), (lc, listOf its.toArray n), (pl, tupO #[.int 0 t3, .int 3 t4, .int 0 t5, .ref dd]), (dd, tupO #[.ref d1]), (d1, tupO #[.int 1 t6, .int m t7])] []
     (HeldPost m) never := by
  refine CT.go HG 40 [mm, md, lc, pl, dd, d1] [.inst 253 1, .dict [(q 0, Str.ofString "numeric", t 0, .r 2), (q 1, Str.ofString "characters", t 1, .v ch)] 2, .lst its n, .tup [.v (.int 0 t3), .v (.int 3 t4), .v (.int 0 t5), .r 4], .tup [.r 5], .tup [.v (.int 1 t6), .v (.int m t7)]] [] [] [.r 0, .r 3] rfl rfl rfl (fun _ _ _ _ _ _ _ => rfl) rfl (fun _ => Iff.rfl) rfl (fun _ _ h => nomatch h) ?_
  intro c frames base Y O
  refine exS_fin fun KK hKK => ?_
  -- span_of
  refine DoC.inlN Y 40 rfl rfl rfl rfl (fun _ _ _ _ _ _ _ => rfl) fun c1 F1 B1 Y1 O1 => ?_
  refine u_extent Y1 (j := 5) rfl rfl hm rfl rfl fun t1 => ?_
  refine DoC.inlN Y1 40 rfl rfl rfl rfl (fun _ _ _ _ _ _ _ => rfl) fun c2 F2 B2 Y2 O2 => ?_
  refine DoC.inlN Y2 40 rfl rfl rfl rfl (fun _ _ _ _ _ _ _ => rfl) fun c3 F3 B3 Y3 O3 => ?_
  intro t2
  refine x_mul (IntMulOk.of_right (by decide)) fun t8 => ?_
  intro t9 tp t10
  refine u_extent Y (j := 5) rfl rfl hm rfl rfl fun t11 => ?_
  intro ta
  -- need_units
  refine DoC.inlN Y 40 rfl rfl rfl rfl (fun _ _ _ _ _ _ _ => rfl) fun c1 F1 B1 Y1 O1 => ?_
  intro t12 t13
  refine x_len rfl (by lia) fun t14 => ?_
  refine iff' (decide_eq_false (by lia)) ?_
  refine u_elems Y (j := 4) (k := 5) rfl rfl rfl rfl hm rfl rfl fun lo xs tl g1 g2 g3 g4 g5 => ?_
  subst hKK
  refine EndX.outT (led_sub [tp] [_] rfl rfl (fun _ h => nomatch h) rfl rfl) rfl rfl g4 g5 ?_
  exact ⟨lo, xs, tl, rfl, rfl, g1, g2, g3⟩
end
end
section
noncomputable abbrev runE (q : Nat → Int) (t : Nat → Tok) (u : Nat → Value) (mm li ex fr op : RV) (x : Int) (tx : Tok) : List (Int × Str × Tok × RV) :=
  [(q 0, Str.ofString "memory", t 0, mm), (q 1, Str.ofString "limits", t 1, li), (q 2, Str.ofString "units", t 2, .v (u 2)), (q 3, Str.ofString "world", t 3, .v (u 3)), (q 4, Str.ofString "expressions", t 4, ex), (q 5, Str.ofString "statements", t 5, .v (u 5)), (q 6, Str.ofString "frame", t 6, fr), (q 7, Str.ofString "depth", t 7, .v (u 7)),
   (q 8, Str.ofString "steps", t 8, .v (.int x tx)), (q 9, Str.ofString "places", t 9, .v (u 9)), (q 10, Str.ofString "flows", t 10, .v (u 10)), (q 11, Str.ofString "clears", t 11, .v (u 11)), (q 12, Str.ofString "active", t 12, .v (u 12)), (q 13, Str.ofString "loops", t 13, .v (u 13)), (q 14, Str.ofString "operations", t 14, op), (q 15, Str.ofString "library", t 15, .v (u 15))]
noncomputable abbrev limE (q : Nat → Int) (t : Nat → Tok) (u : Nat → Value) (y : Int) (ty : Tok) : List (Int × Str × Tok × RV) :=
  [(q 0, Str.ofString "width", t 0, .v (.int 32 (t 10))), (q 1, Str.ofString "real_digits", t 1, .v (u 1)), (q 2, Str.ofString "double_digits", t 2, .v (u 2)), (q 3, Str.ofString "top_exponent", t 3, .v (u 3)), (q 4, Str.ofString "steps", t 4, .v (.int y ty)), (q 5, Str.ofString "continuations", t 5, .v (u 5)), (q 6, Str.ofString "columns", t 6, .v (u 6)), (q 7, Str.ofString "depth", t 7, .v (u 7))]
section
variable {G : GR} (HG : GrF G.K)
include HG
theorem c_count (rr rd li ld mm ex fr op : Addr) (q q' : Nat → Int) (t t' : Nat → Tok) (u u' : Nat → Value) (x y k : Int) (tx ty tk : Tok)
    (hx : 0 ≤ x ∧ x ≤ 1000) (hy : 0 ≤ y ∧ y ≤ 1000) (hk : 0 ≤ k ∧ k ≤ 1000) (n1 : rr ≠ rd) (n2 : li ≠ rd) (n3 : ld ≠ rd) :
    CT G 700 2000 442 [.ref rr, .int k tk] [(rr, instObj 370 rd), (rd, runD q t u mm li ex fr op x tx), (li, instObj 607 ld), (ld, limD q' t' u' y ty)] [rd]
      (fun r out => x + k ≤ y ∧ r = .none ∧ ∃ tx', out = [(rd, runD q t u mm li ex fr op (x + k) tx')])
      (fun c out => y < x + k ∧ c = x + k ∧ ∃ tx', out = [(rd, runD q t u mm li ex fr op (x + k) tx')]) := by
  refine CT.go HG 40 [rr, rd, li, ld] [.inst 370 1, .dict (runE q t u (.v (.ref mm)) (.r 2) (.v (.ref ex)) (.v (.ref fr)) (.v (.ref op)) x tx) 16, .inst 607 3, .dict (limE q' t' u' y ty) 8] [] [1] [.r 0, .v (.int k tk)] rfl rfl rfl (fun _ _ _ _ _ _ _ => rfl) rfl (fun _ => Iff.rfl) rfl (Dis.of ⟨⟨⟨n1, trivial, n2, n3, trivial⟩, all_nil⟩, trivial⟩) ?_
  intro c frames base Y O
  refine exS_fin fun KK hKK => ?_
  intro t1 q2 t2
  refine ifc (fun hb => ?_) (fun hb => ?_)
  · have hb : x + k > y := of_decide_eq_true hb
    refine DoF.raise Y O 40 ?_
    refine DoC.exc Y 40 rfl rfl rfl fun e t0 c1 F1 B1 Y1 O1 _ => ?_
    intro t3
    refine DoC.inlK Y1 40 rfl rfl rfl rfl (fun _ _ _ _ _ _ _ => rfl) fun c2 F2 B2 Y2 O2 K1 hK1 => ?_
    refine x_excinit Y2 rfl rfl fun t4 => ?_
    refine x_excset0 Y2 rfl rfl rfl rfl HG.x108.2.2.2.2.1 fun d q3 t5 => ?_
    refine hK1 ?_
    refine x_excset1 Y1 (j := 5) rfl rfl rfl rfl HG.x108.2.2.2.2.2 rfl fun q4 t6 => ?_
    refine ⟨4, 5, t4, d, _, _, _, _, _, _, _, rfl, rfl, rfl, rfl, rfl, ?_⟩
    refine ⟨[(rd, runD q t u mm li ex fr op (x + k) t1)], all_cons (.inr (List.Mem.head _)) (all_cons (.inl (List.Mem.head _)) (all_cons (.inr (List.Mem.tail _ (List.Mem.tail _ (List.Mem.head _)))) (all_cons (.inr (List.Mem.tail _ (List.Mem.tail _ (List.Mem.tail _ (List.Mem.head _))))) all_nil))), ?_, all_cons ⟨List.Mem.tail _ (List.Mem.head _), .inl (List.Mem.head _)⟩ all_nil, hb, rfl, t1, rfl⟩
    exact all_cons (List.Mem.head _) (all_cons (List.Mem.tail _ (List.Mem.head _)) (all_cons (List.Mem.tail _ (List.Mem.tail _ (List.Mem.head _))) (all_cons (List.Mem.tail _ (List.Mem.tail _ (List.Mem.tail _ (List.Mem.head _)))) all_nil)))
  · have hb : ¬ x + k > y := of_decide_eq_false hb
    subst hKK
    refine EndX.out [1] [1] [] rfl rfl (fun _ h => h) rfl rfl rfl rfl rfl rfl fun D => ?_
    exact ⟨Int.not_lt.mp hb, rfl, _, rfl⟩
end
end
section
noncomputable abbrev memE (q : Nat → Int) (t : Nat → Tok) (lc : RV) (ch : Value) : RO := .dict [(q 0, Str.ofString "numeric", t 0, lc), (q 1, Str.ofString "characters", t 1, .v ch)] 2
section
variable {G : GR} (HG : GrF G.K)
include HG
theorem c_store (mm md lc pl : Addr) (its : List Value) (q : Nat → Int) (t : Nat → Tok) (ch pd : Value) (n k : Nat) (a v : Int) (t3 t4 t5 t6 : Tok) (h1 : a = k) (h3 : its.length ≤ 1000) (h4 : k < its.length) (n1 : mm ≠ lc) (n2 : md ≠ lc) (n3 : pl ≠ lc) :
    CT G 700 2000 243 [.ref mm, .ref pl, .int v t6] [(mm, instObj 253 md), (md, memD q t lc ch), (lc, listOf its.toArray n), (pl, tupO #[.int 0 t3, .int a t4, .int 0 t5, pd])] [lc]
     (fun r out => r = .none ∧ ∃ c, c ≠ lc ∧ out = [(lc, listOf (its.set k (.ref c)).toArray n), (c, tupO #[.int 0 t3, .int v t6])]) never := by
  refine CT.go HG 40 [mm, md, lc, pl] [.inst 253 1, memE q t (.r 2) ch, .lst its n, .tup [.v (.int 0 t3), .v (.int a t4), .v (.int 0 t5), .v pd]] [] [2] [.r 0, .r 3, .v (.int v t6)] rfl rfl rfl (fun _ _ _ _ _ _ _ => rfl) rfl (fun _ => Iff.rfl) rfl (Dis.of ⟨⟨⟨n1, n2, trivial, n3, trivial⟩, all_nil⟩, trivial⟩) ?_
  intro c frames base Y O
  refine exS_fin fun KK hKK => ?_
  intro t1 t2 t7
  refine DoC.inlN Y 40 rfl rfl rfl rfl (fun _ _ _ _ _ _ _ => rfl) fun c1 F1 B1 Y1 O1 => ?_
  refine DoC.inlN Y1 40 rfl rfl rfl rfl (fun _ _ _ _ _ _ _ => rfl) fun c2 F2 B2 Y2 O2 => ?_
  intro t8
  refine DoC.inlN Y1 40 rfl rfl rfl rfl (fun _ _ _ _ _ _ _ => rfl) fun c2 F2 B2 Y2 O2 => ?_
  intro t9
  refine iff' (decide_eq_false (by lia)) ?_
  intro t10
  refine x_len rfl h3 fun t11 => ?_
  refine iff' (decide_eq_false (by lia)) ?_
  intro c₀
  refine x_setitem rfl rfl h1 h4 h3 ?_
  subst hKK
  refine EndX.out [2] [2, 4] [c₀] rfl rfl (fun _ h => h) rfl rfl rfl rfl rfl rfl fun D => ?_
  exact ⟨rfl, c₀, (dis_at D 4 2 rfl rfl rfl rfl).symm, rfl⟩
end
section
variable {G : GR} {c : XC} {frames : List Env} {base : Heap} {D U : Nat} {R : Int → List (Addr × Obj) → Prop} {st : XS} {K : RV → XS → Prop} (Y : Uses G c frames base D U R)
include Y
theorem u_load {im idd il k n : Nat} {its : List Value} (q : Nat → Int) (t : Nat → Tok) {ch pd : Value} {pv : RV} {pl cc : Addr} {a v : Int} {t3 t4 t5 t6 t7 : Tok} (e1 : st.ob[im]? = some (.inst 253 idd)) (e2 : st.ob[idd]? = some (memE q t (.r il) ch)) (e3 : st.ob[il]? = some (.lst its n)) (hpv : pv.den st.ρ = .ref pl) (hp : st.ρ.length = st.ob.length → (pl, tupO #[.int 0 t3, .int a t4, .int 0 t5, pd]) ∈ led st)
    (h1 : a = k) (h3 : its.length ≤ 1000) (h2 : its[k]? = some (.ref cc)) (hc : st.ρ.length = st.ob.length → (cc, tupO #[.int 0 t6, .int v t7]) ∈ led st) (hD : Nat.ble D 700 = true) (hU : Nat.ble U 2000 = true) (kk : K (.v (.int v t7)) st) : DoC c (.ref 236) [.r im, pv] st K :=
  Do.use0 Y (c_load Y.HG _ _ _ pl cc its q t ch pd n k a v t3 t4 t5 t6 t7 h1 h3 h2) hD hU (fun hl => all_cons (mem_led hl e1) (all_cons (mem_led hl e2) (all_cons (mem_led hl e3) (all_cons (hp hl) (all_cons (hc hl) all_nil))))) (fun _ _ ⟨e, _⟩ => ⟨.v (.int v t7), e, kk⟩) (by rw [List.map_cons, List.map_cons, hpv]; rfl)
theorem u_store {im idd il k n : Nat} {its : List Value} (q : Nat → Int) (t : Nat → Tok) {ch pd : Value} {pv : RV} {pl : Addr} {a v : Int} {t3 t4 t5 t6 : Tok} (hw : st.wf = true) (e1 : st.ob[im]? = some (.inst 253 idd)) (e2 : st.ob[idd]? = some (memE q t (.r il) ch)) (e3 : st.ob[il]? = some (.lst its n)) (hpv : pv.den st.ρ = .ref pl) (hp : st.ρ.length = st.ob.length → (pl, tupO #[.int 0 t3, .int a t4, .int 0 t5, pd]) ∈ led st) (hpn : st.ρ.length = st.ob.length → Dis st → pl ≠ st.ρ.getD il 0)
    (h1 : a = k) (h3 : its.length ≤ 1000) (h4 : k < its.length) (hil : st.mu.contains il = true) (hi : Nat.beq im il = false) (hj : Nat.beq idd il = false) (hD : Nat.ble D 700 = true) (hU : Nat.ble U 2000 = true)
    (kk : ∀ cc, K (.v .none) ((st.add cc (.tup [.v (.int 0 t3), .v (.int v t6)])).set il (.lst (its.set k (.ref cc)) n))) : DoC c (.ref 243) [.r im, pv, .v (.int v t6)] st K := by
  have hlt : il < st.ob.length := (gS e3).1
  have at_ : ∀ m o, st.ρ.length = st.ob.length → st.ob[m]? = some o → st.ρ[m]? = some (st.ρ.getD m 0) := fun m o hlen e => getD_at (hlen ▸ (gS e).1)
  refine Do.use Y (fun hlen hne => c_store Y.HG _ _ _ pl its q t ch pd n k a v t3 t4 t5 t6 h1 h3 h4 (dis_at hne il im hil (at_ _ _ hlen e3) (at_ _ _ hlen e1) hi) (dis_at hne il idd hil (at_ _ _ hlen e3) (at_ _ _ hlen e2) hj) (hpn hlen hne)) [il] hD hU
    (fun hl => all_cons (mem_led hl e1) (all_cons (mem_led hl e2) (all_cons (mem_led hl e3) (all_cons (hp hl) all_nil)))) rfl (by simp only [List.all_cons, List.all_nil, hil, Bool.true_and, Bool.and_true]; exact Nat.ble_eq_true_of_le hlt) ?_ (fun _ _ _ h => h.elim) (by rw [List.map_cons, List.map_cons, List.map_cons, hpv]; rfl)
  · rintro r out ⟨rfl, cc, hcc, rfl⟩ hn D hl A
    have hne := (hn _ (mC _ mS)).resolve_left fun h => hcc (mG h)
    exact ⟨.v .none, _, rfl, Next.setadd hl hw D A hlt hne mS (mC _ mS), kk cc⟩
end
end
section
theorem ROwes.pass {sub out rest : List (Addr × Obj)} {mu : List Addr} {rais : Int → List (Addr × Obj) → Prop} {k : Int} (h : ∀ q ∈ sub, q ∈ rest ∨ q.1 ∈ mu) (ha : ∀ a ∈ mu, a ∈ out.map (·.1)) (ho : ∀ q ∈ out, q.1 ∈ mu) (hr : rais k out) : ROwes sub mu rais k (out ++ rest) :=
  ⟨out, fun q hq => (h q hq).elim (fun h => .inr (mR _ h)) .inl, fun q hq => by
    rw [List.map_append]
    rcases h q hq with h | h
    · exact mR _ (List.mem_map_of_mem h)
    · exact mL _ (ha _ h), fun q hq => ⟨mL _ hq, .inl (ho q hq)⟩, hr⟩
section
variable {G : GR} {c : XC} {frames : List Env} {base : Heap} {D U : Nat} {R : Int → List (Addr × Obj) → Prop} {st : XS} {K : RV → XS → Prop} (Y : Uses G c frames base D U R)
include Y
theorem u_count {i d l j : Nat} {q q' : Nat → Int} {t t' : Nat → Tok} {u u' : Nat → Value} {mm ex fr op : Addr} {vm ve vf vo : RV} {x y k : Int} {tx ty tk : Tok} (hw : st.wf = true)
    (e1 : st.ob[i]? = some (.inst 370 d)) (e2 : st.ob[d]? = some (.dict (runE q t u vm (.r l) ve vf vo x tx) 16)) (e3 : st.ob[l]? = some (.inst 607 j)) (e4 : st.ob[j]? = some (.dict (limE q' t' u' y ty) 8)) (hd : st.mu.contains d = true)
    (hm : vm.den st.ρ = .ref mm) (he : ve.den st.ρ = .ref ex) (hf : vf.den st.ρ = .ref fr) (ho : vo.den st.ρ = .ref op)
    (hx : 0 ≤ x ∧ x ≤ 1000) (hy : 0 ≤ y ∧ y ≤ 1000) (hk : 0 ≤ k ∧ k ≤ 1000) (hi : Nat.beq i d = false) (hl : Nat.beq l d = false) (hj : Nat.beq j d = false) (hD : Nat.ble D 700 = true) (hU : Nat.ble U 2000 = true)
    (kk : x + k ≤ y → ∀ tx', K (.v .none) (st.set d (.dict (runE q t u vm (.r l) ve vf vo (x + k) tx') 16)))
    (r : y < x + k → ∀ tx' rest, (∀ q ∈ led st, q ∈ rest ∨ q.1 = st.ρ.getD d 0) → R (x + k) ((st.ρ.getD d 0, (RO.dict (runE q t u vm (.r l) ve vf vo (x + k) tx') 16).den st.ρ) :: rest)) : DoC c (.ref 442) [.r i, .v (.int k tk)] st K := by
  have hdl : d < st.ob.length := (gS e2).1
  have at_ : ∀ m o, st.ρ.length = st.ob.length → st.ob[m]? = some o → st.ρ[m]? = some (st.ρ.getD m 0) := fun m o hlen e => getD_at (hlen ▸ (gS e).1)
  have run : ∀ (x : Int) (tx : Tok), (RO.dict (runE q t u vm (.r l) ve vf vo x tx) 16).den st.ρ = runD q t u mm (st.ρ.getD l 0) ex fr op x tx := fun x tx => by
    show dictOf _ 16 = dictOf _ 16
    simp only [List.map_cons, List.map_nil, entry, hm, he, hf, ho]
    rfl
  have m2 := fun hl => mem_led (st := st) hl e2
  rw [run] at m2
  refine Do.use Y (fun hlen hne => c_count Y.HG (st.ρ.getD i 0) (st.ρ.getD d 0) (st.ρ.getD l 0) (st.ρ.getD j 0) mm ex fr op q q' t t' u u' x y k tx ty tk hx hy hk (dis_at hne d i hd (at_ _ _ hlen e2) (at_ _ _ hlen e1) hi) (dis_at hne d l hd (at_ _ _ hlen e2) (at_ _ _ hlen e3) hl) (dis_at hne d j hd (at_ _ _ hlen e2) (at_ _ _ hlen e4) hj)) [d] hD hU
    (fun hl => all_cons (mem_led hl e1) (all_cons (m2 hl) (all_cons (mem_led hl e3) (all_cons (mem_led hl e4) all_nil)))) rfl (by simp only [List.all_cons, List.all_nil, hd, Bool.true_and, Bool.and_true]; exact Nat.ble_eq_true_of_le hdl) ?_ ?_
  · rintro v out ⟨h1, rfl, tx', rfl⟩ _ D hl' A
    exact ⟨.v .none, _, rfl, Next.set1 hl' hw D A hdl (by rw [run]; exact mS), kk h1 tx'⟩
  · rintro e out rest ⟨h1, rfl, tx', rfl⟩ D h2 h3
    have := r h1 tx' rest fun q hq => (h2 q hq).imp id fun h => mG h
    rw [run] at this
    exact this
end
end
section
section
variable {G : GR} (HG : GrF G.K)
include HG
theorem c_place (rr rd mm li ex fr op it pl : Addr) (q : Nat → Int) (t : Nat → Tok) (u : Nat → Value) (x : Int) (tx t0 t1 t2 : Tok) (s nm : Str) (oF : Obj) (kvs : List (Str × Value)) (ys : List RV) (rest : List Value) (hs : (s == Str.ofString "substr") = false) (hs2 : (s == Str.ofString "elem") = false)
    (hF : oF.IsDictOf (strKind PG G.w) kvs) (hv : valueAt kvs nm = some (.ref pl)) (h8 : (fr == sysModules) = false) :
    CT G 800 2500 407 [.ref rr, .ref it] [(rr, instObj 370 rd), (rd, runD q t u mm li ex fr op x tx), (fr, oF), (it, tupO #[.str s t0, .int 0 t1, .str nm t2]), (pl, tupO rest.toArray)] [] (fun r out => r = .ref pl ∧ out = []) never := by
  refine CT.goC HG 40 [rr, rd, fr, it, pl] [.inst 370 1, .dict (runE q t u (.v (.ref mm)) (.v (.ref li)) (.v (.ref ex)) (.r 2) (.v (.ref op)) x tx) 16, .raw oF, .tup [.v (.str s t0), .v (.int 0 t1), .v (.str nm t2)], .raw (tupO rest.toArray)] [] [] [(Str.ofString "tree", .r 3)] [(Str.ofString "run", .r 0)] rfl rfl rfl (fun _ _ _ _ _ _ _ => rfl) (by decide +kernel) (by intro L; show ([L + 1] : List Nat).Nodup; simp) (fun _ _ _ => rfl) (fun _ _ L => all_cons rfl all_nil) (fun _ => Iff.rfl) rfl (fun _ _ h => nomatch h) ?_
  intro c frames base L o Y O
  refine exS_fin fun KK hKK => ?_
  intro v1 v2
  refine iff' hs ?_
  intro v3
  refine DoC.inlN Y 40 rfl rfl rfl rfl (fun _ _ _ _ _ _ _ => rfl) fun c3 F3 B3 Y3 O3 => ?_
  refine ⟨⟨hF.choose_spec.choose_spec.1.1, hF.choose_spec.choose_spec.1.2.1⟩, ?_⟩
  refine x_dget (.r 4) (knd := strKind c3.prog c3.w) (key := nm) (kvs := kvs) rfl (fun _ => List.Mem.tail _ (List.Mem.tail _ (List.Mem.head _))) (by rw [Y3.prog, Y3.hw]; exact hF) h8 (strKind_is _ _ _ _) hv ?_
  refine x_isTuple (a := pl) rfl (fun _ => List.Mem.tail _ (List.Mem.tail _ (List.Mem.tail _ (List.Mem.tail _ (List.Mem.head _))))) rfl ?_
  intro v4 v5
  refine iff' hs2 ?_
  subst hKK
  refine EndX.out [] [] [] rfl rfl (fun _ h => nomatch h) rfl rfl rfl rfl rfl rfl fun D => ?_
  exact ⟨rfl, rfl⟩
omit HG in
theorem u_place {c : XC} {frames : List Env} {base : Heap} {D U : Nat} {R : Int → List (Addr × Obj) → Prop} {st : XS} {K : RV → XS → Prop} (Y : Uses G c frames base D U R) {i d : Nat} {q : Nat → Int} {t : Nat → Tok} {u : Nat → Value} {mm li ex fr op it pl : Addr} {vm vl ve vf vo iv : RV} {x : Int} {tx t0 t1 t2 : Tok} {s nm : Str} {oF : Obj} {po : RO} {kvs : List (Str × Value)} (rest : List Value) (hs : (s == Str.ofString "substr") = false) (hs2 : (s == Str.ofString "elem") = false)
    (e1 : st.ob[i]? = some (.inst 370 d)) (e2 : st.ob[d]? = some (.dict (runE q t u vm vl ve vf vo x tx) 16)) (hm : vm.den st.ρ = .ref mm) (hl : vl.den st.ρ = .ref li) (he : ve.den st.ρ = .ref ex) (hf : vf.den st.ρ = .ref fr) (ho : vo.den st.ρ = .ref op)
    {jf : Nat} (e3 : st.ob[jf]? = some (.raw oF)) (hff : st.ρ.getD jf 0 = fr) (hF : oF.IsDictOf (strKind PG G.w) kvs) (hv : valueAt kvs nm = some (.ref pl)) (h8 : (fr == sysModules) = false) (hi : iv.den st.ρ = .ref it) (him : st.ρ.length = st.ob.length → (it, tupO #[.str s t0, .int 0 t1, .str nm t2]) ∈ led st)
    {ip : Nat} (e4 : st.ob[ip]? = some po) (hpo : po.den st.ρ = tupO rest.toArray) (hp : st.ρ.getD ip 0 = pl) (hD : Nat.ble D 800 = true) (hU : Nat.ble U 2500 = true) (k : K (.r ip) st) : DoC c (.ref 407) [.r i, iv] st K := by
  have run : (RO.dict (runE q t u vm vl ve vf vo x tx) 16).den st.ρ = runD q t u mm li ex fr op x tx := by
    show dictOf _ 16 = dictOf _ 16
    simp only [List.map_cons, List.map_nil, entry, hm, hl, he, hf, ho]
    rfl
  have m2 := fun hl => mem_led (st := st) hl e2
  rw [run] at m2
  exact Do.use0 Y (c_place Y.HG _ _ mm li ex fr op it pl q t u x tx t0 t1 t2 s nm oF kvs [] rest hs hs2 hF hv h8) hD hU (fun hl => all_cons (mem_led hl e1) (all_cons (m2 hl) (all_cons (hff ▸ mem_led hl e3) (all_cons (him hl) (all_cons (hpo ▸ hp ▸ mem_led hl e4) all_nil))))) (fun _ _ ⟨e, _⟩ => ⟨.r ip, e.trans (congrArg Value.ref hp.symm), k⟩) (by rw [List.map_cons, List.map_cons, hi]; rfl)
end
end
section
theorem x_eqBool {c : XC} {st : XS} {K : RV → XS → Prop} {a b : Bool} (k : K (.v (.bool (a == b))) st) : Do c (compareOp .Eq ((RV.v (.bool a)).den st.ρ) ((RV.v (.bool b)).den st.ρ)) st K :=
  ⟨fun Q s z S hq => PyProof.Rows.eq_bool (hq (.v (.bool (a == b))) _ _ _ k S (Ext.refl _))⟩
section
variable {G : GR} (HG : GrF G.K)
include HG
theorem c_fit (n : Int) (t tw : Tok) (h : -1000 ≤ n ∧ n ≤ 1000) : CT G 860 2900 117 [.int n t, .int 32 tw] [] [] (fun r out => r = .int n t ∧ out = []) never := by
  refine CT.go HG 40 [] [] [] [] [.v (.int n t), .v (.int 32 tw)] rfl rfl rfl (fun _ _ _ _ _ _ _ => rfl) rfl (fun _ => Iff.rfl) rfl (fun _ _ h => nomatch h) ?_
  intro c frames base Y O
  refine exS_fin fun KK hKK => ?_
  intro v1 v2 v3
  refine x_lshift (by decide) (by decide) (by decide) fun v4 => ?_
  intro v5
  refine iff' (decide_eq_false (by have : (1 * 2 ^ (32 - 1 : Int).toNat : Int) = 2147483648 := by decide
                                   lia)) ?_
  refine iff' (decide_eq_false (by have : (1 * 2 ^ (32 - 1 : Int).toNat : Int) = 2147483648 := by decide
                                   lia)) ?_
  subst hKK
  exact EndX.same rfl ⟨rfl, rfl⟩
omit HG in
theorem u_fit {c : XC} {frames : List Env} {base : Heap} {D U : Nat} {R : Int → List (Addr × Obj) → Prop} {st : XS} {K : RV → XS → Prop} (Y : Uses G c frames base D U R) {n : Int} {t tw : Tok} (h : -1000 ≤ n ∧ n ≤ 1000) (hD : Nat.ble D 860 = true) (hU : Nat.ble U 2900 = true) (k : K (.v (.int n t)) st) : DoC c (.ref 117) [.v (.int n t), .v (.int 32 tw)] st K :=
  Do.use0 Y (c_fit Y.HG n t tw h) hD hU (fun _ => all_nil) fun _ _ ⟨e, _⟩ => ⟨.v (.int n t), e, k⟩
theorem c_eval (rr rd mm li ex fr op tr : Addr) (q : Nat → Int) (t : Nat → Tok) (u : Nat → Value) (x n : Int) (tx t0 t1 t2 : Tok) (oE : Obj) (vv : Value)
    (hE : oE.IsDictOf (strKind PG G.w) [(Str.ofString "const", .ref 421), (Str.ofString "var", vv)]) (h8 : (ex == sysModules) = false) :
    CT G 800 2500 381 [.ref rr, .ref tr] [(rr, instObj 370 rd), (rd, runD q t u mm li ex fr op x tx), (ex, oE), (tr, tupO #[.str (Str.ofString "const") t0, .int 0 t1, .int n t2])] [] (fun r out => r = .int n t2 ∧ out = []) never := by
  refine CT.go HG 40 [rr, rd, ex, tr] [.inst 370 1, .dict (runE q t u (.v (.ref mm)) (.v (.ref li)) (.r 2) (.v (.ref fr)) (.v (.ref op)) x tx) 16, .raw oE, .tup [.v (.str (Str.ofString "const") t0), .v (.int 0 t1), .v (.int n t2)]] [] [] [.r 0, .r 3] rfl rfl rfl (fun _ _ _ _ _ _ _ => rfl) rfl (fun _ => Iff.rfl) rfl (fun _ _ h => nomatch h) ?_
  intro c frames base Y O
  refine exS_fin fun KK hKK => ?_
  intro v1
  refine x_dnotin (b := true) (a := ex) (o := oE) (knd := strKind c.prog c.w) (key := Str.ofString "const") (kvs := [(Str.ofString "const", .ref 421), (Str.ofString "var", vv)]) rfl (fun _ => List.Mem.tail _ (List.Mem.tail _ (List.Mem.head _))) (by rw [Y.prog, Y.hw]; exact hE) h8 (strKind_is _ _ _ _) rfl ?_
  intro v2
  refine x_ditem (.v (.ref 421)) (a := ex) (o := oE) (knd := strKind c.prog c.w) (key := Str.ofString "const") (kvs := [(Str.ofString "const", .ref 421), (Str.ofString "var", vv)]) rfl (fun _ => List.Mem.tail _ (List.Mem.tail _ (List.Mem.head _))) (by rw [Y.prog, Y.hw]; exact hE) (strKind_is _ _ _ _) rfl rfl ?_
  refine DoC.inlN Y 40 rfl rfl rfl rfl (fun _ _ _ _ _ _ _ => rfl) fun c3 F3 B3 Y3 O3 => ?_
  intro v3
  subst hKK
  exact EndX.same rfl ⟨rfl, rfl⟩
omit HG in
theorem u_eval {c : XC} {frames : List Env} {base : Heap} {D U : Nat} {R : Int → List (Addr × Obj) → Prop} {st : XS} {K : RV → XS → Prop} (Y : Uses G c frames base D U R) {i d jf jt : Nat} {q : Nat → Int} {t : Nat → Tok} {u : Nat → Value} {mm li ex fr op : Addr} {vm vl ve vf vo : RV} {x n : Int} {tx t0 t1 t2 : Tok} {oE : Obj} {vv : Value}
    (e1 : st.ob[i]? = some (.inst 370 d)) (e2 : st.ob[d]? = some (.dict (runE q t u vm vl ve vf vo x tx) 16)) (hm : vm.den st.ρ = .ref mm) (hl : vl.den st.ρ = .ref li) (he : ve.den st.ρ = .ref ex) (hf : vf.den st.ρ = .ref fr) (ho : vo.den st.ρ = .ref op)
    (e3 : st.ob[jf]? = some (.raw oE)) (hff : st.ρ.getD jf 0 = ex) (hE : oE.IsDictOf (strKind PG G.w) [(Str.ofString "const", .ref 421), (Str.ofString "var", vv)]) (h8 : (ex == sysModules) = false)
    (e4 : st.ob[jt]? = some (.tup [.v (.str (Str.ofString "const") t0), .v (.int 0 t1), .v (.int n t2)])) (hD : Nat.ble D 800 = true) (hU : Nat.ble U 2500 = true) (k : K (.v (.int n t2)) st) : DoC c (.ref 381) [.r i, .r jt] st K := by
  have run : (RO.dict (runE q t u vm vl ve vf vo x tx) 16).den st.ρ = runD q t u mm li ex fr op x tx := by
    show dictOf _ 16 = dictOf _ 16
    simp only [List.map_cons, List.map_nil, entry, hm, hl, he, hf, ho]
    rfl
  have m2 := fun hl => mem_led (st := st) hl e2
  rw [run] at m2
  exact Do.use0 Y (c_eval Y.HG _ _ mm li ex fr op _ q t u x n tx t0 t1 t2 oE vv hE h8) hD hU (fun hl => all_cons (mem_led hl e1) (all_cons (m2 hl) (all_cons (hff ▸ mem_led hl e3) (all_cons (mem_led hl e4) all_nil)))) (fun _ _ ⟨e, _⟩ => ⟨.v (.int n t2), e, k⟩)
theorem c_trip (op li ld : Addr) (q : Nat → Int) (t : Nat → Tok) (u : Nat → Value) (y lo hi : Int) (ty ta tl th ts : Tok) (oO : Obj) (hO : oO.IsDictOf (intKind PG G.w) [(0, .ref 187)]) (h1 : 0 ≤ lo ∧ lo ≤ 50) (h2 : 0 ≤ hi ∧ hi ≤ 50) :
    CT G 800 2500 215 [.int 0 ta, .int lo tl, .int hi th, .int 1 ts, .ref op, .ref li] [(op, oO), (li, instObj 607 ld), (ld, limD q t u y ty)] [] (fun r out => (∃ t', r = .int (if 0 > hi - lo + 1 then 0 else hi - lo + 1) t') ∧ out = []) never := by
  refine CT.go HG 60 [op, li, ld] [.raw oO, .inst 607 2, .dict (limE q t u y ty) 8] [] [] [.v (.int 0 ta), .v (.int lo tl), .v (.int hi th), .v (.int 1 ts), .r 0, .r 1] rfl rfl rfl (fun _ _ _ _ _ _ _ => rfl) rfl (fun _ => Iff.rfl) rfl (fun _ _ h => nomatch h) ?_
  intro c frames base Y O
  refine exS_fin fun KK hKK => ?_
  refine DoC.inlN Y 40 rfl rfl rfl rfl (fun _ _ _ _ _ _ _ => rfl) fun c1 F1 B1 Y1 O1 => ?_
  refine x_isTupleInt ?_
  intro v1
  refine x_ditem (.v (.ref 187)) (a := op) (o := oO) (knd := intKind c.prog c.w) (key := 0) (kvs := [(0, .ref 187)]) rfl (fun _ => List.Mem.head _) (by rw [Y.prog, Y.hw]; exact hO) (intKind_is _ _ _ _) rfl rfl ?_
  intro v2 v3
  refine DoC.inlN Y 40 rfl rfl rfl rfl (fun _ _ _ _ _ _ _ => rfl) fun c1 F1 B1 Y1 O1 => ?_
  intro v4 v5
  refine DoC.inlN Y1 40 rfl rfl rfl rfl (fun _ _ _ _ _ _ _ => rfl) fun c2 F2 B2 Y2 O2 => ?_
  intro v6
  refine u_fit Y2 (by lia) rfl rfl ?_
  refine DoC.inlN Y 40 rfl rfl rfl rfl (fun _ _ _ _ _ _ _ => rfl) fun c1 F1 B1 Y1 O1 => ?_
  intro v7
  refine DoC.inlN Y1 40 rfl rfl rfl rfl (fun _ _ _ _ _ _ _ => rfl) fun c2 F2 B2 Y2 O2 => ?_
  intro v8
  refine u_fit Y2 (by lia) rfl rfl ?_
  intro v9
  refine DoC.inlN Y 40 rfl rfl rfl rfl (fun _ _ _ _ _ _ _ => rfl) fun c1 F1 B1 Y1 O1 => ?_
  intro w1 w2 w3 w4
  refine DoC.inlN Y1 40 rfl rfl rfl rfl (fun _ _ _ _ _ _ _ => rfl) fun c2 F2 B2 Y2 O2 => ?_
  intro w5
  refine DoC.inlN Y2 40 rfl rfl rfl rfl (fun _ _ _ _ _ _ _ => rfl) fun c3 F3 B3 Y3 O3 => ?_
  refine x_abs fun w6 => ?_
  refine x_abs fun w7 => ?_
  refine x_fdiv (by simp) ?_ fun w8 => ?_
  · rfl
  intro w9 w10
  refine x_eqBool ?_
  refine ifc (fun hb => ?_) (fun hb => ?_)
  · have hz : ¬ hi - lo + 1 < 0 := by simpa using hb
    have e1 : Int.fdiv (if hi - lo + 1 < 0 then -(hi - lo + 1) else hi - lo + 1) (if (1 : Int) < 0 then -1 else 1) = hi - lo + 1 := by rw [if_neg hz, if_neg (by decide), Int.fdiv_one]
    refine u_fit Y2 (by rw [e1]; lia) rfl rfl ?_
    intro x1
    refine x_max Y.hA fun x2 => ?_
    refine u_fit Y (by rw [e1]; split <;> lia) rfl rfl ?_
    subst hKK
    exact EndX.same rfl ⟨⟨x2, by rw [e1]; rfl⟩, rfl⟩
  · have hz : hi - lo + 1 < 0 := by simpa using hb
    intro x0
    have e1 : -Int.fdiv (if hi - lo + 1 < 0 then -(hi - lo + 1) else hi - lo + 1) (if (1 : Int) < 0 then -1 else 1) = hi - lo + 1 := by rw [if_pos hz, if_neg (by decide), Int.fdiv_one]; lia
    refine u_fit Y2 (by rw [e1]; lia) rfl rfl ?_
    intro x1
    refine x_max Y.hA fun x2 => ?_
    refine u_fit Y (by rw [e1]; split <;> lia) rfl rfl ?_
    subst hKK
    exact EndX.same rfl ⟨⟨x2, by rw [e1]; rfl⟩, rfl⟩
omit HG in
theorem u_trip {c : XC} {frames : List Env} {base : Heap} {D U : Nat} {R : Int → List (Addr × Obj) → Prop} {st : XS} {K : RV → XS → Prop} (Y : Uses G c frames base D U R) {io i j : Nat} {q : Nat → Int} {t : Nat → Tok} {u : Nat → Value} {y lo hi : Int} {ty ta tl th ts : Tok} {oO : Obj} (e1 : st.ob[io]? = some (.raw oO)) (e2 : st.ob[i]? = some (.inst 607 j)) (e3 : st.ob[j]? = some (.dict (limE q t u y ty) 8))
    (hO : oO.IsDictOf (intKind PG G.w) [(0, .ref 187)]) (h1 : 0 ≤ lo ∧ lo ≤ 50) (h2 : 0 ≤ hi ∧ hi ≤ 50) (hD : Nat.ble D 800 = true) (hU : Nat.ble U 2500 = true) (k : ∀ t', K (.v (.int (if 0 > hi - lo + 1 then 0 else hi - lo + 1) t')) st) : DoC c (.ref 215) [.v (.int 0 ta), .v (.int lo tl), .v (.int hi th), .v (.int 1 ts), .r io, .r i] st K :=
  Do.use0 Y (c_trip Y.HG _ _ _ q t u y lo hi ty ta tl th ts oO hO h1 h2) hD hU (fun hl => all_cons (mem_led hl e1) (all_cons (mem_led hl e2) (all_cons (mem_led hl e3) all_nil))) fun _ _ ⟨⟨t', e⟩, _⟩ => ⟨.v (.int _ t'), e, k t'⟩
end
end
section
section
variable {c : XC} {st : XS} {K : RV → XS → Prop}
theorem x_itemL {i : Nat} {p : List Value} {n : Nat} {t : Tok} {val sl : Expr} (rv : RV) (e : st.ob[i]? = some (.lst (p ++ [rv.den st.ρ]) n)) (h2 : noSlice sl = true) (k : K rv st) :
    Do c (subscriptTail val sl ((RV.r i).den st.ρ) ((RV.v (.int (-1) t)).den st.ρ)) st K :=
  ⟨fun _ _ _ S hq => kba_turn (value' := .Name "x" default) (fun _ => rfl) (my_itemLast S.N (S.mem e) (hq _ _ _ _ k S (Ext.refl _)) (sl_is h2) fun _ => rfl)⟩
end
section
variable {G : GR} {c : XC} {frames : List Env} {base : Heap} {D U : Nat} {R : Int → List (Addr × Obj) → Prop} {st : XS} {K : RV → XS → Prop} (Y : Uses G c frames base D U R)
include Y
theorem u_held {im idd il ip j k n : Nat} {its : List Value} (q : Nat → Int) (t : Nat → Tok) {ch : Value} {m : Int} {t3 t4 t5 t6 t7 : Tok} (hw : st.wf = true) (e1 : st.ob[im]? = some (.inst 253 idd)) (e2 : st.ob[idd]? = some (memE q t (.r il) ch)) (e3 : st.ob[il]? = some (.lst its n)) (e4 : st.ob[ip]? = some (.tup [.v (.int 0 t3), .v (.int 3 t4), .v (.int 0 t5), .r j]))
    (e5 : st.ob[j]? = some (.tup [.r k])) (e6 : st.ob[k]? = some (.tup [.v (.int 1 t6), .v (.int m t7)])) (hm : 0 ≤ m ∧ m ≤ 5) (h7 : its.length = 20) (hD : Nat.ble D 600 = true) (hU : Nat.ble U 1500 = true)
    (kk : ∀ lo xs tl, xs.length = m.toNat → AllAt PlaceR tl xs → NeAll lo tl → NeAll lo (led st) → (∀ p ∈ tl, NeAll p.1 (led st)) → K (.r st.ob.length) (st.addT lo (.lst xs xs.length) tl)) : DoC c (.ref 346) [.r im, .r ip] st K := by
  refine Do.use Y (fun _ _ => c_held Y.HG _ _ _ _ _ _ its q t ch n m t3 t4 t5 t6 t7 hm h7) [] hD hU (fun hl => all_cons (mem_led hl e1) (all_cons (mem_led hl e2) (all_cons (mem_led hl e3) (all_cons (mem_led hl e4) (all_cons (mem_led hl e5) (all_cons (mem_led hl e6) all_nil)))))) rfl rfl ?_ (fun _ _ _ h => h.elim) rfl
  rintro r out ⟨lo, xs, tl, rfl, rfl, h1, h2, h3⟩ hn D hl A
  have hne : ∀ q ∈ ((lo, LCg.lst xs) :: tl), NeAll q.1 (led st) := fun q hq => (hn q hq).resolve_left fun h => nomatch h
  have hlo := hne _ mS
  have htl : ∀ p ∈ tl, NeAll p.1 (led st) := fun p hp => hne p (mC _ hp)
  refine ⟨.r st.ob.length, _, ?_, Next.addT (o := .lst xs xs.length) hl hw D A hlo mS h3 (fun p hp => ⟨mC _ hp, htl p hp⟩), kk lo xs tl h1 h2 h3 hlo htl⟩
  show Value.ref lo = Value.ref ((st.ρ ++ [lo]).getD st.ob.length 0)
  rw [← hl]; simp
end
noncomputable abbrev levE (q : Nat → Int) (t : Nat → Tok) (il : RV) (tg : RV) (a : Int) (ta : Tok) (sv : Value) (k : Int) (tk : Tok) : RO :=
  .dict [(q 0, Str.ofString "items", t 0, il), (q 1, Str.ofString "at", t 1, .v (.int a ta)), (q 2, Str.ofString "target", t 2, tg), (q 3, Str.ofString "step", t 3, .v sv), (q 4, Str.ofString "count", t 4, .v (.int k tk))] 5
noncomputable abbrev levD (q : Nat → Int) (t : Nat → Tok) (il : Value) (tg : Value) (a : Int) (ta : Tok) (sv : Value) (k : Int) (tk : Tok) : Obj :=
  dictOf [⟨q 0, .str (Str.ofString "items") (t 0), il⟩, ⟨q 1, .str (Str.ofString "at") (t 1), .int a ta⟩, ⟨q 2, .str (Str.ofString "target") (t 2), tg⟩, ⟨q 3, .str (Str.ofString "step") (t 3), sv⟩, ⟨q 4, .str (Str.ofString "count") (t 4), .int k tk⟩] 5
noncomputable def five {α : Type} (a b c d e : α) : Nat → α
  | 0 => a
  | 1 => b
  | 2 => c
  | 3 => d
  | _ => e
structure WO where
  (wd ww lv d0 l0 fd : Addr)
  (q4 q5 : Nat → Int)
  (t4 t5 : Nat → Tok)
structure WP where
  a : Nat → Addr
  q : Nat → Nat → Int
  t : Nat → Nat → Tok
  u : Nat → Nat → Value
  y : Int
  ch : Value
  oE : Obj
  oF : Obj
  oO : Obj
  many : Nat
  xs : List Value
  ni : Nat
  items : List (Itm × Addr)
  o : WO
namespace WP
variable (P : WP)
noncomputable abbrev grd (x : Int) (tx : Tok) (its : List Value) (n : Nat) : List RO :=
  [.inst 370 1, .dict (runE (P.q 0) (P.t 0) (P.u 0) (.r 4) (.r 2) (.r 7) (.r 8) (.r 9) x tx) 16, .inst 607 3, .dict (limE (P.q 1) (P.t 1) (P.u 1) P.y (P.t 1 8)) 8, .inst 253 5, memE (P.q 2) (P.t 2) (.r 6) P.ch, .lst its n, .raw P.oE, .raw P.oF, .raw P.oO,
   .tup [.v (.int 0 (P.t 3 0)), .v (.int 3 (P.t 3 1)), .v (.int 0 (P.t 3 2)), .r 11], .tup [.r 12], .tup [.v (.int 1 (P.t 3 3)), .v (.int P.many (P.t 3 4))], .tup [.v (.int 0 (P.t 3 5)), .v (.int 0 (P.t 3 6)), .v (.int 0 (P.t 3 7)), .r 14], .tup [], .lst P.xs P.ni]
noncomputable abbrev own (lv : List Value) (nl : Nat) (els : List Value) (ne : Nat) (at_ : Int) (ta : Tok) (fv : List Value) (nf : Nat) : List RO :=
  [.dict [(P.o.q4 0, Str.ofString "run", P.o.t4 0, .r 0), (P.o.q4 1, Str.ofString "levels", P.o.t4 1, .r 18), (P.o.q4 2, Str.ofString "elements", P.o.t4 2, .r 19)] 3, .inst 515 16, .lst lv nl, .lst els ne,
   .dict [(P.o.q5 0, Str.ofString "items", P.o.t5 0, .r 15), (P.o.q5 1, Str.ofString "at", P.o.t5 1, .v (.int at_ ta)), (P.o.q5 2, Str.ofString "target", P.o.t5 2, .v .none), (P.o.q5 3, Str.ofString "step", P.o.t5 3, .v .none), (P.o.q5 4, Str.ofString "count", P.o.t5 4, .v (.int 1 (P.o.t5 5)))] 5, .inst 466 20, .lst fv nf]
noncomputable abbrev inn (q : Nat → Int) (t : Nat → Tok) (jl tg : Addr) (b : Int) (tb ts : Tok) (k : Int) (tk : Tok) : List RO :=
  [levE q t (.v (.ref jl)) (.v (.ref tg)) b tb (.int 1 ts) k tk, .inst 466 23]
noncomputable abbrev rho (e : Addr) : List Addr := [P.a 0, P.a 1, P.a 2, P.a 3, P.a 4, P.a 5, P.a 6, P.a 7, P.a 8, P.a 9, P.a 10, P.a 11, P.a 12, P.a 13, P.a 14, P.a 15, P.o.wd, P.o.ww, P.o.lv, e, P.o.d0, P.o.l0, P.o.fd]
noncomputable abbrev stB (fr : List (Str × RV)) (fo : Str → Option Value) (T : List (Addr × Obj)) (x : Int) (tx : Tok) (its : List Value) (n : Nat) (e : Addr) (lv : List Value) (nl : Nat) (els : List Value) (ne : Nat) (at_ : Int) (ta : Tok) (fv : List Value) (nf : Nat) : XS :=
  ⟨P.rho e, fr, P.grd x tx its n ++ P.own lv nl els ne at_ ta fv nf, T, [1, 6, 16, 18, 19, 20, 22], [], fo⟩
noncomputable abbrev stI (fr : List (Str × RV)) (fo : Str → Option Value) (T : List (Addr × Obj)) (x : Int) (tx : Tok) (its : List Value) (n : Nat) (e : Addr) (nl : Nat) (els : List Value) (ne : Nat) (at_ : Int) (ta : Tok) (fv : List Value) (nf : Nat)
    (d1 l1 jl tg : Addr) (q : Nat → Int) (t : Nat → Tok) (b : Int) (tb ts : Tok) (k : Int) (tk : Tok) : XS :=
  ⟨P.rho e ++ [d1, l1], fr, P.grd x tx its n ++ (P.own [.ref (P.o.l0), .ref l1] nl els ne at_ ta fv nf ++ inn q t jl tg b tb ts k tk), T, [1, 6, 16, 18, 19, 20, 22, 23], [], fo⟩
inductive InT (T : List (Addr × Obj)) (jl tg aj c0 : Addr) (nj : Nat) (vv : Int) : Prop
  | mk (l : (jl, listOf [Value.ref aj].toArray nj) ∈ T) (a : ∃ t0 t1 t2, (aj, tupO #[.str (Str.ofString "array") t0, .int 0 t1, .str (Str.ofString "A") t2]) ∈ T) (g : ∃ t0 t1 t2, (tg, tupO #[.str (Str.ofString "var") t0, .int 0 t1, .str (Str.ofString "I") t2]) ∈ T) (c : ∃ t0 t1, (c0, tupO #[.int 0 t0, .int vv t1]) ∈ T)
theorem InT.mono {T T' : List (Addr × Obj)} {jl tg aj c0 : Addr} {nj : Nat} {vv : Int} (h : ∀ p ∈ T, p ∈ T') (x : InT T jl tg aj c0 nj vv) : InT T' jl tg aj c0 nj vv := by
  obtain ⟨h1, ⟨a0, a1, a2, h2⟩, ⟨b0, b1, b2, h3⟩, ⟨c0, c1, h4⟩⟩ := x
  exact ⟨h _ h1, ⟨_, _, _, h _ h2⟩, ⟨_, _, _, h _ h3⟩, ⟨_, _, h _ h4⟩⟩
end WP
end
section
theorem ExtP.take {p : Nat} {st st1 : XS} (k : Nat) (hp : p ≤ k) (h : st.ρ.take k = st1.ρ.take k) (hc : st1.ce = st.ce) : ExtP p st st1 :=
  ⟨fun i a hi e => by
    have hk : i < k := Nat.lt_of_lt_of_le hi hp
    have e1 : (st.ρ.take k)[i]? = some a := by rw [List.getElem?_take_of_lt hk]; exact e
    rw [h, List.getElem?_take_of_lt hk] at e1; exact e1, by rw [hc]⟩
def Cov (st st1 : XS) : Prop := ∀ q ∈ led st, q.1 ∈ (led st1).map (·.1)
theorem Cov.trans {a b c : XS} (h : Cov a b) (k : Cov b c) : Cov a c := fun q hq => by
  obtain ⟨r, hr, e⟩ := mM (h q hq)
  rw [← e]; exact k r hr
theorem led_adr {st : XS} {j : Nat} {a : Addr} (hl : st.ρ.length = st.ob.length) (h : st.ρ[j]? = some a) : a ∈ (led st).map (·.1) := by
  have hj : j < st.ob.length := hl ▸ (gS h).1
  exact List.mem_map.mpr ⟨_, led_of h (List.getElem?_eq_getElem hj), rfl⟩
theorem Cov.of {st st1 : XS} (hl : st1.ρ.length = st1.ob.length) (h : ∀ a ∈ st.ρ, a ∈ st1.ρ ∨ a ∈ st1.tl.map (·.1)) (hc : st1.ce = st.ce) (ht : ∀ p ∈ st.tl, p.1 ∈ st1.tl.map (·.1)) : Cov st st1 := fun q hq => by
  rcases led_at hq with ⟨j, o, h1, h2, h3⟩ | hq
  · rcases h q.1 (List.mem_of_getElem? h1) with h | h
    · obtain ⟨i, hi⟩ := List.mem_iff_getElem?.mp h
      exact led_adr hl hi
    · obtain ⟨r, hr, e⟩ := mM h
      exact List.mem_map.mpr ⟨r, mR _ (mR _ hr), e⟩
  · rcases mA hq with hq | hq
    · exact List.mem_map.mpr ⟨q, mR _ (mL _ (by rw [hc]; exact hq)), rfl⟩
    · obtain ⟨r, hr, e⟩ := mM (ht q hq)
      exact List.mem_map.mpr ⟨r, mR _ (mR _ hr), e⟩
theorem Cov.pre {st st1 : XS} (hl : st1.ρ.length = st1.ob.length) (h : st.ρ <+: st1.ρ) (hc : st1.ce = st.ce) (ht : ∀ p ∈ st.tl, p ∈ st1.tl) : Cov st st1 :=
  Cov.of hl (fun a ha => .inl (h.subset ha)) hc fun p hp => List.mem_map_of_mem (ht p hp)
noncomputable def ElemV (F : List (Addr × Obj)) : El → RO → Prop
  | .pl k, o => ∃ y t, o = .tup [.v (.int 0 t), .v y, .v .none] ∧ IsPlace F (3 + k) y
  | .con a, o => ∃ t, o = .tup [.v (.int 0 t), .v .none, .v (.ref a)]
namespace WP
variable (P : WP)
noncomputable abbrev gr16 : List Addr := [P.a 0, P.a 1, P.a 2, P.a 3, P.a 4, P.a 5, P.a 6, P.a 7, P.a 8, P.a 9, P.a 10, P.a 11, P.a 12, P.a 13, P.a 14, P.a 15]
noncomputable abbrev st0 (fr : List (Str × RV)) (T0 : List (Addr × Obj)) (x : Int) (tx : Tok) (its : List Value) (n : Nat) : XS := ⟨P.gr16, fr, P.grd x tx its n, T0, [1, 6], [], fun _ => none⟩
def Fresh (T0 : List (Addr × Obj)) (b : Addr) : Prop := (∀ a ∈ P.gr16, a ≠ b) ∧ NeAll b T0
structure Ok (w : World) (T0 : List (Addr × Obj)) : Prop where
  m5 : P.many ≤ 5
  it : ItemsAt T0 P.items P.xs
  l3 : P.xs.length ≤ 3
  y : 1 ≤ P.y ∧ P.y ≤ 50
  hE : P.oE.IsDictOf (strKind PG w) [(Str.ofString "const", .ref 421), (Str.ofString "var", .ref 428)]
  sE : (P.a 7 == sysModules) = false
  hF : P.oF.IsDictOf (strKind PG w) [(Str.ofString "A", .ref (P.a 10)), (Str.ofString "I", .ref (P.a 13))]
  sF : (P.a 8 == sysModules) = false
  hO : P.oO.IsDictOf (intKind PG w) [(0, .ref 187)]
  sO : (P.a 9 == sysModules) = false
noncomputable abbrev runO (x : Int) (tx : Tok) : Obj := runD (P.q 0) (P.t 0) (P.u 0) (P.a 4) (P.a 2) (P.a 7) (P.a 8) (P.a 9) x tx
structure Com (T0 : List (Addr × Obj)) (its0 : List Value) (F T : List (Addr × Obj)) (its els : List Value) (es : List Nat) (x : Int) : Prop where
  hT : ∀ p ∈ F ++ T0, p ∈ T
  hF : ∀ p ∈ F, P.Fresh T0 p.1
  hE : ElsAt (F ++ T0) es els
  h5 : es.length ≤ 5
  h20 : its.length = 20
  hi : ∀ i : Nat, i ≠ 0 → its[i]? = its0[i]?
  hx : 0 ≤ x ∧ x ≤ 100
inductive I (T0 : List (Addr × Obj)) (its0 : List Value) (fr : List (Str × RV)) (fv : List Value) (nf : Nat) (C : XS → Prop) : List (Addr × Obj) → List Nat → Lv → Int → XS → Prop
  | base {F T : List (Addr × Obj)} {es : List Nat} {x : Int} {tx : Tok} {its els : List Value} {n nl ne a : Nat} {e : Addr} {ta : Tok} {fo : Str → Option Value} (lb : Bool) : P.Com T0 its0 F T its els es x → a ≤ P.xs.length →
      C (P.stB fr fo T x tx its n e (if lb then [.ref (P.o.l0)] else []) nl els ne a ta fv nf) →
      I T0 its0 fr fv nf C F es (if lb then .top (P.items.drop a) else .non) x (P.stB fr fo T x tx its n e (if lb then [.ref (P.o.l0)] else []) nl els ne a ta fv nf)
  | inner {F T : List (Addr × Obj)} {es : List Nat} {x vv : Int} {tx tb tk ts ta : Tok} {its els : List Value} {n nl ne a nj k : Nat} {b : Bool} {e d1 l1 jl aj tg c0 : Addr} {q : Nat → Int} {t : Nat → Tok} {fo : Str → Option Value} : P.Com T0 its0 F T its els es x → a ≤ P.xs.length →
      InT T jl tg aj c0 nj vv → its[0]? = some (.ref c0) → 1 ≤ vv ∧ vv + k ≤ 50 ∧ k ≤ 3 → (b = true → 1 ≤ k) →
      C (P.stI fr fo T x tx its n e nl els ne a ta fv nf d1 l1 jl tg q t (if b then 1 else 0) tb ts k tk) →
      I T0 its0 fr fv nf C F es (.inner (P.items.drop a) b k) x (P.stI fr fo T x tx its n e nl els ne a ta fv nf d1 l1 jl tg q t (if b then 1 else 0) tb ts k tk)
end WP
end
section
noncomputable def mes (es : List Nat) (lv : Lv) : Nat := es.length + 6 * lvM lv
namespace WP
variable (P : WP)
noncomputable abbrev fr4 : List (Str × RV) := [(Str.ofString "found", .r 22), (Str.ofString "walk", .r 17), (Str.ofString "items", .r 15), (Str.ofString "run", .r 0)]
noncomputable abbrev frS : List (Str × RV) := [(Str.ofString "self", .r 17)]
variable {P}
theorem I.den {T0 : List (Addr × Obj)} {its0 : List Value} {fr : List (Str × RV)} {fv : List Value} {nf : Nat} {C : XS → Prop} {F : List (Addr × Obj)} {es : List Nat} {lv : Lv} {x : Int} {st : XS} (h : P.I T0 its0 fr fv nf C F es lv x st) : st.ρ.take 16 = P.gr16 ∧ st.ce = [] ∧ st.fr = fr ∧ (∀ q ∈ fr4, q.2.den st.ρ = q.2.den (P.rho 0)) ∧ st.ρ.length = st.ob.length ∧ C st := by
  cases h with
  | base lb h1 h2 hc => exact ⟨rfl, rfl, rfl, all_cons rfl (all_cons rfl (all_cons rfl (all_cons rfl all_nil))), rfl, hc⟩
  | inner h1 h2 h3 h4 h5 h6 hc => exact ⟨rfl, rfl, rfl, all_cons rfl (all_cons rfl (all_cons rfl (all_cons rfl all_nil))), rfl, hc⟩
theorem I.call {T0 : List (Addr × Obj)} {its0 : List Value} {fr l : List (Str × RV)} {fv : List Value} {nf : Nat} {C C' : XS → Prop} {F : List (Addr × Obj)} {es : List Nat} {lv : Lv} {x : Int} {st : XS} (h : P.I T0 its0 fr fv nf C F es lv x st) (hc : C' (st.call l)) : P.I T0 its0 l fv nf C' F es lv x (st.call l) := by
  cases h with
  | base lb h1 h2 _ => exact .base lb h1 h2 hc
  | inner h1 h2 h3 h4 h5 h6 _ => exact .inner h1 h2 h3 h4 h5 h6 hc
end WP
theorem news_cov {st0 st : XS} {rest : List (Addr × Obj)} {d : Addr} {o : Obj} (h : ∀ q ∈ led st, q ∈ rest ∨ q.1 = d) (C : Cov st0 st) : ∀ q ∈ led st0, q.1 ∈ ((d, o) :: rest).map (·.1) := fun q hq => by
  obtain ⟨r, hr, e⟩ := mM (C q hq)
  rw [← e]
  rcases h r hr with h | h
  · exact mC _ (List.mem_map_of_mem h)
  · rw [h]; exact mS
theorem news_in {st0 st : XS} {rest : List (Addr × Obj)} {d : Addr} {o : Obj} (h : ∀ q ∈ led st, q ∈ rest ∨ q.1 = d) (C : ∀ q ∈ led st0, q ∈ led st) : ∀ q ∈ led st0, q.1 = d ∨ q ∈ (d, o) :: rest := fun q hq =>
  (h q (C q hq)).elim (fun h => .inr (mC _ h)) .inl
noncomputable def nTest : Expr := match fd_505.body with
  | .While t _ _ _ :: _ => t
  | _ => .Name "x" default
noncomputable def nBody : List Stmt := match fd_505.body with
  | .While _ b _ _ :: _ => b
  | _ => []
noncomputable abbrev xt5 : XT := ⟨fd_505.scope, GL, FS, TAB, ME, false⟩
def NTurn (c : XC) (Kl : RF → XS → Prop) (st : XS) : Prop := exTest c (exE xt5 c 30) 30 nTest st fun b st2 => Ite b (exS xt5 c 30 nBody st2 Kl) (Kl .brk st2)
section
variable {G : GR} {c : XC} {frames : List Env} {base : Heap} {R : Int → List (Addr × Obj) → Prop} {Kl : RF → XS → Prop} (Y : Uses G c frames base 402 906 R) (O : c.Ok xt5)
set_option linter.unusedSectionVars false
include Y O
variable (P : WP)
theorem n_popB {T : List (Addr × Obj)} {x : Int} {tx ta t0 t1 t2 : Tok} {its lv p : List Value} {n nl ne nf a : Nat} {e pl em : Addr} {fo : Str → Option Value} {fv : List Value} {b : Int} (h5 : p.length ≤ 5) (hT : (pl, tupO #[.int 0 t0, .int b t1, .int 0 t2, .ref em]) ∈ T)
    (k : ∀ v fr', Kl (.ret (.r 23)) ((P.stB fr' fo T x tx its n e lv nl p (ne + 1) a ta fv nf).add v (.tup [.v (.int 0 t0), .v (.ref pl), .v .none]))) : NTurn c Kl (P.stB WP.frS fo T x tx its n e lv nl (p ++ [.ref pl]) ne a ta fv nf) := by
  unfold NTurn
  refine x_truth rfl (by simp; lia) ?_
  refine ift (by simp) ?_
  refine x_truth rfl (by simp; lia) ?_
  refine ift (by simp) ?_
  refine DoCR.of (x_pop (.v (.ref pl)) rfl rfl (by lia) ?_)
  intro t
  refine x_tupitem (vs := [.int 0 t0, .int b t1, .int 0 t2, .ref em]) (.int 0 t0) rfl (fun _ => tl_mem hT) rfl rfl rfl rfl ?_
  intro v
  exact k v _
theorem n_endB {T : List (Addr × Obj)} {x : Int} {tx ta : Tok} {its : List Value} {n nl ne nf a : Nat} {e : Addr} {fo : Str → Option Value} {fv : List Value}
    (k : Kl .brk (P.stB WP.frS fo T x tx its n e [] nl [] ne a ta fv nf)) : NTurn c Kl (P.stB WP.frS fo T x tx its n e [] nl [] ne a ta fv nf) := by
  unfold NTurn
  refine x_truth rfl (by simp) ?_
  refine x_truth rfl (by simp) ?_
  exact k
set_option tactic.hygienic true in
theorem n_dropB {T : List (Addr × Obj)} {x : Int} {tx ta : Tok} {its : List Value} {n nl ne nf a : Nat} {e : Addr} {fo : Str → Option Value} {fv : List Value} (h3 : P.xs.length ≤ 3) (ha : a = P.xs.length)
    (k : ∀ fr', fr'.lookup (Str.ofString "self") = some (.r 17) → Kl .next (P.stB fr' fo T x tx its n e [] (nl + 1) [] ne a ta fv nf)) : NTurn c Kl (P.stB WP.frS fo T x tx its n e [.ref (P.o.l0)] nl [] ne a ta fv nf) := by
  unfold NTurn
  refine x_truth rfl (by simp) ?_
  refine x_truth rfl (by simp) ?_
  refine x_truth rfl (by simp) ?_
  intro t1 t2
  refine x_itemL (p := []) (.r 21) rfl rfl ?_
  intro t3
  refine x_len rfl (by lia) fun t4 => ?_
  refine ift (by subst ha; simp) ?_
  refine x_pop (p := []) (.v (.ref (P.o.l0))) rfl rfl (by decide) ?_
  exact k _ rfl
theorem n_takeC {T : List (Addr × Obj)} {x : Int} {tx ta t0 t1 t2 : Tok} {its : List Value} {n nl ne nf a : Nat} {e it : Addr} {fo : Str → Option Value} {fv : List Value} (h3 : P.xs.length ≤ 3) (ha : P.xs[a]? = some (.ref it)) (hT : (it, tupO #[.str (Str.ofString "const") t0, .int 0 t1, .int 7 t2]) ∈ T)
    (k : ∀ v j jv fr' ta', Kl (.ret (.r 24)) (((P.stB fr' fo T x tx its n e [.ref (P.o.l0)] nl [] ne (a + 1) ta' fv nf).add j (.tup jv)).add v (.tup [.v (.int 0 t1), .v .none, .v (.ref it)]))) : NTurn c Kl (P.stB WP.frS fo T x tx its n e [.ref (P.o.l0)] nl [] ne a ta fv nf) := by
  have hlt : a < P.xs.length := (gS ha).1
  unfold NTurn
  refine x_truth rfl (by simp) ?_
  refine x_truth rfl (by simp) ?_
  refine x_truth rfl (by simp) ?_
  intro u1 u2
  refine x_itemL (p := []) (.r 21) rfl rfl ?_
  intro u3
  refine x_len rfl (by lia) fun t4 => ?_
  refine iff' (by simp; lia) ?_
  intro u4 u5 q6 u6 u7 u8
  refine x_item (.v (.ref it)) rfl (by lia) ha (by lia) rfl ?_
  refine DoC.inlK Y 40 rfl rfl rfl rfl (fun _ _ _ _ _ _ _ => rfl) fun c1 F1 B1 Y1 O1 K1 hK1 => ?_
  intro v1
  refine x_tupitem (vs := [.str (Str.ofString "const") t0, .int 0 t1, .int 7 t2]) (.str (Str.ofString "const") t0) rfl (fun _ => tl_mem hT) rfl rfl rfl rfl ?_
  intro v2 v3
  refine x_tupitem (vs := [.str (Str.ofString "const") t0, .int 0 t1, .int 7 t2]) (.str (Str.ofString "const") t0) rfl (fun _ => tl_mem hT) rfl rfl rfl rfl ?_
  intro v4
  refine DoC.inlK Y1 40 rfl rfl rfl rfl (fun _ _ _ _ _ _ _ => rfl) fun c2 F2 B2 Y2 O2 K2 hK2 => ?_
  intro v5
  refine x_tupitem (vs := [.str (Str.ofString "const") t0, .int 0 t1, .int 7 t2]) (.str (Str.ofString "const") t0) rfl (fun _ => tl_mem hT) rfl rfl rfl rfl ?_
  intro v6 v7 v8 v9 v10
  refine x_inTup (i := 23) false rfl rfl rfl ?_
  refine hK2 ?_
  intro v11
  refine x_tupitem (vs := [.str (Str.ofString "const") t0, .int 0 t1, .int 7 t2]) (.int 0 t1) rfl (fun _ => tl_mem hT) rfl rfl rfl rfl ?_
  intro v
  refine hK1 ?_
  exact k v v10 _ _ _
set_option tactic.hygienic true in
theorem n_takeA {T : List (Addr × Obj)} {x : Int} {tx ta t0 t1 t2 : Tok} {its : List Value} {n nl ne nf a : Nat} {e it : Addr} {fo : Str → Option Value} {fv : List Value} (h3 : P.xs.length ≤ 3) (ha : P.xs[a]? = some (.ref it)) (hT : (it, tupO #[.str (Str.ofString "array") t0, .int 0 t1, .str (Str.ofString "A") t2]) ∈ T)
    (hF : P.oF.IsDictOf (strKind PG G.w) [(Str.ofString "A", .ref (P.a 10)), (Str.ofString "I", .ref (P.a 13))]) (h8 : (P.a 8 == sysModules) = false) (h20 : its.length = 20) (hm : P.many ≤ 5) (hx : 0 ≤ x ∧ x ≤ 100) (hy : 1 ≤ P.y ∧ P.y ≤ 50)
    (k : ∀ lo xs tl fr' tx' ta', xs.length = P.many → AllAt PlaceR tl xs → (∀ p ∈ tl, NeAll p.1 (led (P.st0 [] T x tx its n))) → x + xs.length ≤ P.y → fr'.lookup (Str.ofString "self") = some (.r 17) → Kl .next ⟨P.rho e ++ [lo], fr', P.grd (x + xs.length) tx' its n ++ ((P.own [.ref (P.o.l0)] nl [] ne (a + 1) ta' fv nf).set 0 (.dict [(P.o.q4 0, Str.ofString "run", P.o.t4 0, .r 0), (P.o.q4 1, Str.ofString "levels", P.o.t4 1, .r 18), (P.o.q4 2, Str.ofString "elements", P.o.t4 2, .r 23)] 3) ++ [.lst xs.reverse xs.length]), tl ++ T, [23, 1, 6, 16, 18, 19, 20, 22], [], fo⟩)
    (hr : P.y < x + P.many → ∀ news, (∀ q ∈ led (P.stB WP.frS fo T x tx its n e [.ref (P.o.l0)] nl [] ne a ta fv nf), q.1 ∈ news.map (·.1)) → (∀ q ∈ led (P.st0 [] T x tx its n), q.1 = P.a 1 ∨ q ∈ news) → (∃ tx', (P.a 1, P.runO (x + P.many) tx') ∈ news) → R (x + P.many) news) : NTurn c Kl (P.stB WP.frS fo T x tx its n e [.ref (P.o.l0)] nl [] ne a ta fv nf) := by
  have hlt : a < P.xs.length := (gS ha).1
  unfold NTurn
  refine x_truth rfl (by simp) ?_
  refine x_truth rfl (by simp) ?_
  refine x_truth rfl (by simp) ?_
  intro u1 u2
  refine x_itemL (p := []) (.r 21) rfl rfl ?_
  intro u3
  refine x_len rfl (by lia) fun t4 => ?_
  refine iff' (by simp; lia) ?_
  intro u4 u5 q6 u6 u7 u8
  refine x_item (.v (.ref it)) rfl (by lia) ha (by lia) rfl ?_
  refine DoC.inl Y 40 rfl rfl rfl rfl (fun _ _ _ _ _ _ _ => rfl) fun c1 F1 B1 Y1 O1 _ K3 hK3 => ?_
  intro v1
  refine x_tupitem (vs := [.str (Str.ofString "array") t0, .int 0 t1, .str (Str.ofString "A") t2]) (.str (Str.ofString "array") t0) rfl (fun _ => tl_mem hT) rfl rfl rfl rfl ?_
  intro v2 v3
  refine x_tupitem (vs := [.str (Str.ofString "array") t0, .int 0 t1, .str (Str.ofString "A") t2]) (.str (Str.ofString "array") t0) rfl (fun _ => tl_mem hT) rfl rfl rfl rfl ?_
  intro v4
  refine u_place Y1 (s := Str.ofString "array") (nm := Str.ofString "A") (oF := P.oF) (pl := P.a 10) [.int 0 (P.t 3 0), .int 3 (P.t 3 1), .int 0 (P.t 3 2), .ref (P.a 11)] (by decide +kernel) (by decide +kernel) rfl rfl rfl rfl rfl rfl rfl (jf := 8) rfl rfl hF rfl h8 rfl (fun _ => tl_mem hT) (ip := 10) rfl rfl rfl rfl rfl ?_
  refine u_held Y1 (P.q 2) (P.t 2) (im := 4) (idd := 5) (il := 6) (ip := 10) (j := 11) (k := 12) rfl rfl rfl rfl rfl rfl rfl (by lia) h20 rfl rfl fun lo xs tl g1 g2 g3 g4 g5 => ?_
  intro q7 w1
  refine x_len rfl (by lia) fun w2 => ?_
  refine u_count Y1 (i := 0) (d := 1) (l := 2) (j := 3) rfl rfl rfl rfl rfl rfl rfl rfl rfl rfl (by lia) (by lia) (by lia) rfl rfl rfl rfl rfl (fun hle tx' => ?_) (fun hgt tx' rest hrest => ?_)
  · refine x_reverse (i := 23) rfl rfl (by lia) ?_
    refine hK3 ?_
    exact k lo xs tl _ _ _ (g1.trans (Int.toNat_natCast _)) g2 (fun p hp => NeAll.of fun q hq => (g5 p hp).all q (led_sub (st := P.st0 [] T x tx its n) _ _ rfl rfl (fun p hp => by exact hp) rfl rfl q hq)) hle rfl
  · refine ⟨news_cov hrest (Cov.pre rfl ⟨_, rfl⟩ rfl fun p hp => mR _ hp), ?_⟩
    have e1 : ((xs.length : Nat) : Int) = P.many := by lia
    rw [e1] at hgt ⊢
    exact hr hgt _ (news_cov hrest (Cov.pre rfl ⟨_, rfl⟩ rfl fun p hp => mR _ hp)) (news_in hrest (led_sub _ _ rfl rfl (fun p hp => mR _ (mR _ hp)) rfl rfl)) ⟨tx', List.Mem.head _⟩
end
end
section
section
variable {c : XC} {st : XS} {K : RV → XS → Prop}
theorem x_lenT {ov : RV} {a : Addr} {vs : List Value} {n : Nat} (ho : ov.den st.ρ = .ref a) (hm : st.ρ.length = st.ob.length → (a, listOf vs.toArray n) ∈ led st) (hl : vs.length ≤ 1000) (k : ∀ t, K (.v (.int vs.length t)) st) : DoC c (.builtin "len") [ov] st K :=
  ⟨fun _ _ _ S hq => by
    rw [List.map_cons, ho]
    exact my_len S.N (hm S.len) hl (hq _ _ _ _ (k _) S (Ext.refl _))⟩
theorem x_itemT {ov : RV} {a : Addr} {j : Nat} {vs : List Value} {n : Nat} {x : Int} {t : Tok} {val sl : Expr} (v : Value) (ho : ov.den st.ρ = .ref a) (hm : st.ρ.length = st.ob.length → (a, listOf vs.toArray n) ∈ led st) (ha : x = j) (hv : vs[j]? = some v) (hl : vs.length ≤ 1000) (h2 : noSlice sl = true) (k : K (.v v) st) :
    Do c (subscriptTail val sl (ov.den st.ρ) ((RV.v (.int x t)).den st.ρ)) st K :=
  ⟨fun _ _ _ S hq => by
    rw [ho]
    exact kba_turn (value' := .Name "x" default) (fun _ => rfl) (my_item S.N (hm S.len) hv ha hl (hq (.v v) _ _ _ k S (Ext.refl _)) (sl_is h2) fun _ => rfl)⟩
end
inductive BeginPost (lc jl tg : Addr) (its : List Value) (n : Nat) (t15 : Tok) (m : Int) (r : Value) (out : List (Addr × Obj)) : Prop
  | mk (v dv c0 : Addr) (ql : Nat → Int) (tl : Nat → Tok) (ta tk t1 t2 : Tok) (hr : r = .ref v) (h1 : c0 ≠ lc) (h2 : dv ≠ lc) (h3 : v ≠ lc) (h4 : c0 ≠ dv) (h5 : v ≠ dv) (h6 : v ≠ c0) (ho : out = [(lc, listOf (its.set 0 (.ref c0)).toArray n), (c0, tupO #[.int 0 t1, .int 1 t2]), (dv, levD ql tl (.ref jl) (.ref tg) 0 ta (.int 1 t15) m tk), (v, instObj 466 dv)])
section
variable {G : GR} (HG : GrF G.K)
include HG
theorem c_begin (rr rd li ld mm md lc ex fr op pi ia jl tg f1 f2 f3 : Addr) (q q' qm : Nat → Int) (t t' tm s ti : Nat → Tok) (u u' : Nat → Value) (x y : Int) (m n : Nat) (tx ty : Tok) (ch ei vv pa : Value) (oE oF oO : Obj) (its : List Value) (hm : m ≤ 3) (h20 : its.length = 20)
    (hE : oE.IsDictOf (strKind PG G.w) [(Str.ofString "const", .ref 421), (Str.ofString "var", vv)]) (h8 : (ex == sysModules) = false) (hF : oF.IsDictOf (strKind PG G.w) [(Str.ofString "A", pa), (Str.ofString "I", .ref pi)]) (h9 : (fr == sysModules) = false) (hO : oO.IsDictOf (intKind PG G.w) [(0, .ref 187)])
    (n1 : rr ≠ lc) (n2 : rd ≠ lc) (n3 : li ≠ lc) (n4 : ld ≠ lc) (n5 : mm ≠ lc) (n6 : md ≠ lc) (n7 : ex ≠ lc) (n8 : fr ≠ lc) (n9 : op ≠ lc) (n10 : pi ≠ lc) (n11 : ia ≠ lc) (n12 : tg ≠ lc) (n13 : f1 ≠ lc) (n14 : f2 ≠ lc) (n15 : f3 ≠ lc) :
    CT G 600 1500 477 [.ref rr, .ref ia] [(rr, instObj 370 rd), (rd, runD q t u mm li ex fr op x tx), (li, instObj 607 ld), (ld, limD q' t' u' y ty), (mm, instObj 253 md), (md, memD qm tm lc ch), (lc, listOf its.toArray n), (ex, oE), (fr, oF), (op, oO), (pi, tupO #[.int 0 (s 0), .int 0 (s 1), .int 0 (s 2), ei]),
        (ia, tupO #[.str (Str.ofString "ido") (ti 0), .ref jl, .ref tg, .ref f1, .ref f2, .ref f3]), (tg, tupO #[.str (Str.ofString "var") (ti 4), .int 0 (ti 5), .str (Str.ofString "I") (ti 6)]), (f1, tupO #[.str (Str.ofString "const") (ti 7), .int 0 (ti 8), .int 1 (ti 9)]), (f2, tupO #[.str (Str.ofString "const") (ti 10), .int 0 (ti 11), .int m (ti 12)]), (f3, tupO #[.str (Str.ofString "const") (ti 13), .int 0 (ti 14), .int 1 (ti 15)])] [lc]
      (BeginPost lc jl tg its n (ti 15) m) never := by
  refine CT.go HG 60 [rr, rd, li, ld, mm, md, lc, ex, fr, op, pi, ia, tg, f1, f2, f3] [.inst 370 1, .dict (runE q t u (.r 4) (.r 2) (.r 7) (.r 8) (.r 9) x tx) 16, .inst 607 3, .dict (limE q' t' u' y ty) 8, .inst 253 5, memE qm tm (.r 6) ch, .lst its n, .raw oE, .raw oF, .raw oO, .tup [.v (.int 0 (s 0)), .v (.int 0 (s 1)), .v (.int 0 (s 2)), .v ei],
      .tup [.v (.str (Str.ofString "ido") (ti 0)), .v (.ref jl), .r 12, .r 13, .r 14, .r 15], .tup [.v (.str (Str.ofString "var") (ti 4)), .v (.int 0 (ti 5)), .v (.str (Str.ofString "I") (ti 6))], .tup [.v (.str (Str.ofString "const") (ti 7)), .v (.int 0 (ti 8)), .v (.int 1 (ti 9))], .tup [.v (.str (Str.ofString "const") (ti 10)), .v (.int 0 (ti 11)), .v (.int m (ti 12))], .tup [.v (.str (Str.ofString "const") (ti 13)), .v (.int 0 (ti 14)), .v (.int 1 (ti 15))]] [] [6] [.r 0, .r 11] rfl rfl rfl (fun _ _ _ _ _ _ _ => rfl) rfl (fun _ => Iff.rfl) rfl
      (Dis.of ⟨⟨⟨n1, n2, n3, n4, n5, n6, trivial, n7, n8, n9, n10, n11, n12, n13, n14, n15, trivial⟩, all_nil⟩, trivial⟩) ?_
  intro c frames base Y O
  refine exS_fin fun KK hKK => ?_
  refine u_eval Y (jf := 7) (jt := 13) rfl rfl rfl rfl rfl rfl rfl rfl rfl hE h8 rfl rfl rfl ?_
  refine u_eval Y (jf := 7) (jt := 14) rfl rfl rfl rfl rfl rfl rfl rfl rfl hE h8 rfl rfl rfl ?_
  refine u_eval Y (jf := 7) (jt := 15) rfl rfl rfl rfl rfl rfl rfl rfl rfl hE h8 rfl rfl rfl ?_
  intro v3
  refine u_trip Y (io := 9) (i := 2) rfl rfl rfl hO (by lia) (by lia) rfl rfl fun v4 => ?_
  refine u_place Y (s := Str.ofString "var") (nm := Str.ofString "I") (oF := oF) (pl := pi) [.int 0 (s 0), .int 0 (s 1), .int 0 (s 2), ei] (by decide +kernel) (by decide +kernel) rfl rfl rfl rfl rfl rfl rfl (jf := 8) rfl rfl hF rfl h9 rfl (fun hl => mem_led (i := 12) hl rfl) (ip := 10) rfl rfl rfl rfl rfl ?_
  refine u_store Y qm tm (k := 0) (im := 4) (idd := 5) (il := 6) rfl rfl rfl rfl rfl (fun hl => mem_led (i := 10) hl rfl) (fun _ D => dis_at D 6 10 rfl rfl rfl rfl) rfl (by lia) (by lia) rfl rfl rfl rfl rfl fun c0 => ?_
  refine DoC.cls Y 40 rfl rfl rfl rfl rfl rfl (fun _ _ _ _ _ _ _ _ _ => rfl) fun v dv c1 F1 B1 Y1 O1 hp => ?_
  intro q1 t1 t2 q2 t3 q3 t4 q4 t5 q5 t6
  subst hKK
  refine EndX.out [6] [6, 16, 17, 18] [c0, dv, v] rfl rfl (fun _ h => h) rfl rfl rfl rfl rfl rfl fun D => ?_
  have e1 : (if 0 > (m : Int) - 1 + 1 then 0 else (m : Int) - 1 + 1) = m := by rw [if_neg (by lia)]; lia
  rw [e1]
  exact ⟨v, dv, c0, five q1 q2 q3 q4 q5, five t1 t3 t4 t5 t6, t2, v4, s 0, ti 9, rfl, (dis_at D 16 6 rfl rfl rfl rfl).symm, (dis_at D 17 6 rfl rfl rfl rfl).symm, (dis_at D 18 6 rfl rfl rfl rfl).symm, (dis_at D 17 16 rfl rfl rfl rfl), (dis_at D 17 18 rfl rfl rfl rfl), (dis_at D 16 18 rfl rfl rfl rfl), rfl⟩
end
theorem getD_app {l as : List Addr} {i : Nat} (h : i < l.length) : (l ++ as).getD i 0 = l.getD i 0 := by
  rw [List.getD_eq_getElem?_getD, List.getD_eq_getElem?_getD, List.getElem?_append_left h]
theorem Next.gen {st : XS} {out : List (Addr × Obj)} (i : Nat) (ol : RO) (as : List Addr) (os : List RO) (tl : List (Addr × Obj)) (mu' : List Nat) (hl : st.ρ.length = st.ob.length) (hw : st.wf = true) (D : Dis st) (A : CAp st) (hi : i < st.ob.length) (hlen : as.length = os.length)
    (hn : ∀ a ∈ as, NeAll a (led st)) (hd : as.Nodup) (ht : ∀ p ∈ tl, p ∈ out ∧ NeAll p.1 (led st) ∧ ∀ a ∈ as, a ≠ p.1) (hm : ∀ k ∈ mu', k ∈ st.mu ∨ st.ob.length ≤ k) (ho : (st.ρ.getD i 0, ol.den (st.ρ ++ as)) ∈ out)
    (hos : ∀ (j : Nat) (a : Addr) (o : RO), as[j]? = some a → os[j]? = some o → (a, o.den (st.ρ ++ as)) ∈ out) : Next st [i] out ⟨st.ρ ++ as, st.fr, st.ob.set i ol ++ os, tl ++ st.tl, mu', st.ce, st.fo⟩ := by
  have hsl : (st.ob.set i ol).length = st.ob.length := List.length_set ..
  have split : ∀ {j : Nat} {b : Addr}, (st.ρ ++ as)[j]? = some b → st.ρ[j]? = some b ∨ (st.ob.length ≤ j ∧ as[j - st.ob.length]? = some b) := fun {j b} e => by
    rcases Nat.lt_or_ge j st.ρ.length with q | q
    · rw [List.getElem?_append_left q] at e; exact .inl e
    · rw [List.getElem?_append_right q] at e; exact .inr ⟨hl ▸ q, by rw [← hl]; exact e⟩
  have tlc : ∀ p ∈ st.ce.map (fun e => (e.a, e.o)) ++ (tl ++ st.tl), p ∈ tl ∨ p ∈ st.tlc := fun p hp => by
    rcases mA hp with h | h
    · exact .inr (mL _ h)
    · exact (mA h).imp id fun h => mR _ h
  refine ⟨⟨as, rfl⟩, rfl, rfl, by show (st.ρ ++ as).length = (st.ob.set i ol ++ os).length; rw [List.length_append, List.length_append, hsl, hl, hlen], hw, ?_, fun p hp => ?_, rfl, fun e he => ⟨fun j b hb => ?_, fun p hp => ?_⟩, fun j hj => ?_, fun j h1 h2 => ?_, fun j b hj hb => ?_⟩
  · show keepL [i] 0 st.ob = keepL [i] 0 ((st.ob.set i ol ++ os).take st.ob.length)
    rw [← hsl, List.take_left]
    refine keepL_same _ _ _ _ hsl.symm fun j x e hj => ?_
    rw [Nat.zero_add] at hj
    rw [List.getElem?_set_ne (contains_one hj)]; exact e
  · exact (tlc p hp).elim (fun h => .inr (ht p h).1) .inl
  · have ne0 : ∀ a, NeAll a (led st) → a ≠ e.a := fun a h q => (NeAll.all h (e.a, e.o) (mR _ (mL _ (List.mem_map.mpr ⟨e, he, rfl⟩)))) q.symm
    rcases split hb with h | ⟨_, h⟩
    · exact (A e he).1 j b h
    · exact ne0 b (hn b (List.mem_of_getElem? h))
  · have ne0 : ∀ a, NeAll a (led st) → a ≠ e.a := fun a h q => (NeAll.all h (e.a, e.o) (mR _ (mL _ (List.mem_map.mpr ⟨e, he, rfl⟩)))) q.symm
    rcases mA hp with h | h
    · exact ne0 _ (ht p h).2.1
    · exact (A e he).2 p h
  · cases mG hj
    show ((st.ρ ++ as).getD i 0, ((st.ob.set i ol ++ os).getD i (.raw default)).den (st.ρ ++ as)) ∈ out
    have e2 : (st.ob.set i ol ++ os).getD i (.raw default) = ol := by rw [List.getD_eq_getElem?_getD, List.getElem?_append_left (by rw [hsl]; exact hi), List.getElem?_set_self hi]; rfl
    rw [e2, getD_app (hl ▸ hi)]; exact ho
  · have h2 : j < (st.ob.set i ol ++ os).length := h2
    rw [List.length_append, hsl] at h2
    have hj : j - st.ob.length < os.length := by lia
    show ((st.ρ ++ as).getD j 0, ((st.ob.set i ol ++ os).getD j (.raw default)).den (st.ρ ++ as)) ∈ out
    refine hos (j - st.ob.length) _ _ ?_ ?_
    · rw [List.getD_eq_getElem?_getD, List.getElem?_append_right (by lia), hl, List.getElem?_eq_getElem (by lia)]; rfl
    · rw [List.getD_eq_getElem?_getD, List.getElem?_append_right (by rw [hsl]; exact h1), hsl, List.getElem?_eq_getElem hj]; rfl
  · have old : ∀ (k : Nat) (b' : Addr), st.ρ[k]? = some b' → ∀ a, NeAll a (led st) → a ≠ b' := fun k b' e a h q => (ne_at hl h).1 k b' e q.symm
    rcases split hb with h | ⟨h0, h⟩
    · have hj' : j ∈ st.mu := (hm j hj).resolve_right fun q => by
        have := (gS h).1
        lia
      obtain ⟨d1, d2⟩ := D j b hj' h
      refine ⟨fun j' b' hb' hne => ?_, fun p hp => ?_⟩
      · rcases split hb' with g | ⟨_, g⟩
        · exact d1 j' b' g hne
        · exact old j b h b' (hn b' (List.mem_of_getElem? g))
      · rcases tlc p hp with g | g
        · exact old j b h p.1 (ht p g).2.1
        · exact d2 p g
    · have hb0 := hn b (List.mem_of_getElem? h)
      refine ⟨fun j' b' hb' hne => ?_, fun p hp => ?_⟩
      · rcases split hb' with g | ⟨g0, g⟩
        · exact (old j' b' g b hb0).symm
        · refine fun e => hne ?_
          subst e
          obtain ⟨a1, a2⟩ := gS h
          obtain ⟨c1, c2⟩ := gS g
          have := (List.nodup_iff_pairwise_ne.mp hd)
          rw [List.pairwise_iff_getElem] at this
          rcases Nat.lt_trichotomy (j - st.ob.length) (j' - st.ob.length) with q | q | q
          · exact absurd (a2.trans c2.symm) (this _ _ a1 c1 q)
          · lia
          · exact absurd (c2.trans a2.symm) (this _ _ c1 a1 q)
      · rcases tlc p hp with g | g
        · exact fun e => (ht p g).2.2 b (List.mem_of_getElem? h) e.symm
        · exact fun e => (ne_at hl hb0).2 p g e
theorem dis_tl {st : XS} {a b : Addr} {o : Obj} (D : Dis st) (i : Nat) (hi : st.mu.contains i = true) (ha : st.ρ[i]? = some a) (hm : (b, o) ∈ st.tl) : b ≠ a :=
  (D i a (by simpa using hi) ha).2 (b, o) (mR _ hm)
theorem new_of {st : XS} {out : List (Addr × Obj)} {a b : Addr} {o : Obj} (hn : ∀ q ∈ out, q.1 ∈ [a] ∨ NeAll q.1 (led st)) (hb : b ≠ a) (hm : (b, o) ∈ out) : NeAll b (led st) := (hn _ hm).resolve_left fun q => hb (mG q)
noncomputable def outsIn (ρ : List Addr) (out : List (Addr × Obj)) : List Addr → List RO → Prop
  | a :: as, o :: os => (a, o.den ρ) ∈ out ∧ outsIn ρ out as os
  | _, _ => True
theorem outsIn.at {ρ : List Addr} {out : List (Addr × Obj)} : ∀ {as : List Addr} {os : List RO}, outsIn ρ out as os → ∀ (j : Nat) (a : Addr) (o : RO), as[j]? = some a → os[j]? = some o → (a, o.den ρ) ∈ out
  | x :: as, y :: os, h, 0, a, o, h1, h2 => by cases h1; cases h2; exact h.1
  | x :: as, y :: os, h, j + 1, a, o, h1, h2 => outsIn.at h.2 j a o h1 h2
  | [], _, _, _, _, _, h1, _ => by simp at h1
  | _ :: _, [], _, _, _, _, _, h2 => by simp at h2
theorem Next.gen2 {st : XS} {out : List (Addr × Obj)} (i : Nat) (ol : RO) (as : List Addr) (os : List RO) (tl : List (Addr × Obj)) (mu' : List Nat) (hl : st.ρ.length = st.ob.length) (hw : st.wf = true) (D : Dis st) (A : CAp st) (hi : Nat.blt i st.ob.length = true) (hlen : as.length = os.length)
    (hn : ∀ a ∈ as, NeAll a (led st)) (hd : as.Pairwise (· ≠ ·)) (ht : ∀ p ∈ tl, p ∈ out ∧ NeAll p.1 (led st) ∧ ∀ a ∈ as, a ≠ p.1) (hm : mu'.all (fun k => st.mu.contains k || Nat.ble st.ob.length k) = true) (ho : (st.ρ.getD i 0, ol.den (st.ρ ++ as)) ∈ out)
    (hos : outsIn (st.ρ ++ as) out as os) : Next st [i] out ⟨st.ρ ++ as, st.fr, st.ob.set i ol ++ os, tl ++ st.tl, mu', st.ce, st.fo⟩ :=
  Next.gen i ol as os tl mu' hl hw D A (Nat.le_of_ble_eq_true hi) hlen hn hd ht (fun k hk => by
    have := aT hm k hk
    rcases Bool.or_eq_true_iff.mp this with h | h
    · exact .inl (by simpa using h)
    · exact .inr (Nat.le_of_ble_eq_true h)) ho hos.at
end
section
section
variable {G : GR} {c : XC} {frames : List Env} {base : Heap} {R : Int → List (Addr × Obj) → Prop} {Kl : RF → XS → Prop} (Y : Uses G c frames base 402 906 R) (O : c.Ok xt5)
set_option linter.unusedSectionVars false
include Y O
variable (P : WP)
set_option tactic.hygienic true in
theorem n_takeI {T : List (Addr × Obj)} {x : Int} {tx ta : Tok} {its : List Value} {n nl ne nf a m : Nat} {e it jl tg f1 f2 f3 : Addr} {t : Nat → Tok} {fo : Str → Option Value} {fv : List Value} (h3 : P.xs.length ≤ 3) (ha : P.xs[a]? = some (.ref it)) (hm : m ≤ 3)
    (h1 : (it, tupO #[.str (Str.ofString "ido") (t 0), .ref jl, .ref tg, .ref f1, .ref f2, .ref f3]) ∈ T) (h5 : (tg, tupO #[.str (Str.ofString "var") (t 4), .int 0 (t 5), .str (Str.ofString "I") (t 6)]) ∈ T)
    (h6 : (f1, tupO #[.str (Str.ofString "const") (t 7), .int 0 (t 8), .int 1 (t 9)]) ∈ T) (h7 : (f2, tupO #[.str (Str.ofString "const") (t 10), .int 0 (t 11), .int m (t 12)]) ∈ T) (h8 : (f3, tupO #[.str (Str.ofString "const") (t 13), .int 0 (t 14), .int 1 (t 15)]) ∈ T)
    {vv : Value} (hE : P.oE.IsDictOf (strKind PG G.w) [(Str.ofString "const", .ref 421), (Str.ofString "var", vv)]) (h9 : (P.a 7 == sysModules) = false)
    (hF : P.oF.IsDictOf (strKind PG G.w) [(Str.ofString "A", .ref (P.a 10)), (Str.ofString "I", .ref (P.a 13))]) (h10 : (P.a 8 == sysModules) = false) (hO : P.oO.IsDictOf (intKind PG G.w) [(0, .ref 187)]) (h20 : its.length = 20)
    (k : ∀ fr' ta' c0 d1 l1 q t' tb ts tk t1 t2, NeAll c0 (led (P.st0 [] T x tx its n)) → fr'.lookup (Str.ofString "self") = some (.r 17) → Kl .next (P.stI fr' fo ((c0, tupO #[.int 0 t1, .int 1 t2]) :: T) x tx (its.set 0 (.ref c0)) n e (nl + 1) [] ne (a + 1) ta' fv nf d1 l1 jl tg q t' 0 tb ts m tk)) : NTurn c Kl (P.stB WP.frS fo T x tx its n e [.ref (P.o.l0)] nl [] ne a ta fv nf) := by
  have hlt : a < P.xs.length := (gS ha).1
  unfold NTurn
  refine x_truth rfl (by simp) ?_
  refine x_truth rfl (by simp) ?_
  refine x_truth rfl (by simp) ?_
  intro u1 u2
  refine x_itemL (p := []) (.r 21) rfl rfl ?_
  intro u3
  refine x_len rfl (by lia) fun t4 => ?_
  refine iff' (by simp; lia) ?_
  intro u4 u5 q6 u6 u7 u8
  refine x_item (.v (.ref it)) rfl (by lia) ha (by lia) rfl ?_
  refine DoC.inlK Y 40 rfl rfl rfl rfl (fun _ _ _ _ _ _ _ => rfl) fun c1 F1 B1 Y1 O1 K1 hK1 => ?_
  intro v1
  refine x_tupitem (vs := [.str (Str.ofString "ido") (t 0), .ref jl, .ref tg, .ref f1, .ref f2, .ref f3]) (.str (Str.ofString "ido") (t 0)) rfl (fun _ => tl_mem h1) rfl rfl rfl rfl ?_
  intro v2
  refine Do.use Y1 (fun hl hne => c_begin Y1.HG (P.a 0) (P.a 1) (P.a 2) (P.a 3) (P.a 4) (P.a 5) (P.a 6) (P.a 7) (P.a 8) (P.a 9) (P.a 13) it jl tg f1 f2 f3 (P.q 0) (P.q 1) (P.q 2) (P.t 0) (P.t 1) (P.t 2) (fun i => P.t 3 (5 + i)) t (P.u 0) (P.u 1) x P.y m n tx (P.t 1 8) P.ch (.ref (P.a 14)) vv (.ref (P.a 10)) P.oE P.oF P.oO its hm h20 hE h9 hF h10 hO
    (dis_at hne 6 0 rfl rfl rfl rfl) (dis_at hne 6 1 rfl rfl rfl rfl) (dis_at hne 6 2 rfl rfl rfl rfl) (dis_at hne 6 3 rfl rfl rfl rfl) (dis_at hne 6 4 rfl rfl rfl rfl) (dis_at hne 6 5 rfl rfl rfl rfl) (dis_at hne 6 7 rfl rfl rfl rfl) (dis_at hne 6 8 rfl rfl rfl rfl) (dis_at hne 6 9 rfl rfl rfl rfl) (dis_at hne 6 13 rfl rfl rfl rfl)
    (dis_tl hne 6 rfl rfl h1) (dis_tl hne 6 rfl rfl h5) (dis_tl hne 6 rfl rfl h6) (dis_tl hne 6 rfl rfl h7) (dis_tl hne 6 rfl rfl h8)) [6] rfl rfl
    (fun hl => by exact all_cons (mem_led (i := 0) hl rfl) (all_cons (mem_led (i := 1) hl rfl) (all_cons (mem_led (i := 2) hl rfl) (all_cons (mem_led (i := 3) hl rfl) (all_cons (mem_led (i := 4) hl rfl) (all_cons (mem_led (i := 5) hl rfl) (all_cons (mem_led (i := 6) hl rfl) (all_cons (mem_led (i := 7) hl rfl) (all_cons (mem_led (i := 8) hl rfl) (all_cons (mem_led (i := 9) hl rfl) (all_cons (mem_led (i := 13) hl rfl)
      (all_cons (tl_mem h1) (all_cons (tl_mem h5) (all_cons (tl_mem h6) (all_cons (tl_mem h7) (all_cons (tl_mem h8) all_nil)))))))))))))))) rfl rfl ?_ (fun _ _ _ h => h.elim) rfl
  rintro r out ⟨v, dv, c0, ql, tl, tb, tk, t1, t2, rfl, g1, g2, g3, g4, g5, g6, rfl⟩ hn D hl A
  have n1 := new_of hn g1 (List.Mem.tail _ (List.Mem.head _))
  have n2 := new_of hn g2 (List.Mem.tail _ (List.Mem.tail _ (List.Mem.head _)))
  have n3 := new_of hn g3 (List.Mem.tail _ (List.Mem.tail _ (List.Mem.tail _ (List.Mem.head _))))
  refine ⟨.r 24, _, rfl, Next.gen2 6 (.lst (its.set 0 (.ref c0)) n) [dv, v] [levE ql tl (.v (.ref jl)) (.v (.ref tg)) 0 tb (.int 1 (t 15)) m tk, .inst 466 23] [(c0, tupO #[.int 0 t1, .int 1 t2])] [1, 6, 16, 18, 19, 20, 22, 23] hl rfl D A rfl rfl (all_cons n2 (all_cons n3 all_nil)) (.cons (all_cons g5.symm all_nil) (.cons all_nil .nil))
    (all_cons ⟨List.Mem.tail _ (List.Mem.head _), n1, all_cons g4.symm (all_cons g6 all_nil)⟩ all_nil) rfl (List.Mem.head _) ⟨List.Mem.tail _ (List.Mem.tail _ (List.Mem.head _)), List.Mem.tail _ (List.Mem.tail _ (List.Mem.tail _ (List.Mem.head _))), trivial⟩, ?_⟩
  refine x_append (i := 18) rfl rfl (by simp) ?_
  refine hK1 ?_
  exact k _ _ c0 dv v ql tl _ _ _ _ _ (NeAll.of fun q hq => n1.all q (led_sub (st := P.st0 [] T x tx its n) _ _ rfl rfl (fun p hp => by exact hp) rfl rfl q hq)) rfl
end
end
section
section
variable {G : GR} {c : XC} {frames : List Env} {base : Heap} {R : Int → List (Addr × Obj) → Prop} {Kl : RF → XS → Prop} (Y : Uses G c frames base 402 906 R) (O : c.Ok xt5)
set_option linter.unusedSectionVars false
include Y O
variable (P : WP)
theorem n_popI {T : List (Addr × Obj)} {x b k bv : Int} {tx ta tb ts tk t0 t1 t2 : Tok} {its p : List Value} {n nl ne nf a : Nat} {e pl em d1 l1 jl tg : Addr} {q : Nat → Int} {t : Nat → Tok} {fo : Str → Option Value} {fv : List Value} (h5 : p.length ≤ 5) (hT : (pl, tupO #[.int 0 t0, .int bv t1, .int 0 t2, .ref em]) ∈ T)
    (kk : ∀ v fr', Kl (.ret (.r 25)) ((P.stI fr' fo T x tx its n e nl p (ne + 1) a ta fv nf d1 l1 jl tg q t b tb ts k tk).add v (.tup [.v (.int 0 t0), .v (.ref pl), .v .none]))) : NTurn c Kl (P.stI WP.frS fo T x tx its n e nl (p ++ [.ref pl]) ne a ta fv nf d1 l1 jl tg q t b tb ts k tk) := by
  unfold NTurn
  refine x_truth rfl (by simp; lia) ?_
  refine ift (by simp) ?_
  refine x_truth rfl (by simp; lia) ?_
  refine ift (by simp) ?_
  refine DoCR.of (x_pop (.v (.ref pl)) rfl rfl (by lia) ?_)
  intro t
  refine x_tupitem (vs := [.int 0 t0, .int bv t1, .int 0 t2, .ref em]) (.int 0 t0) rfl (fun _ => tl_mem hT) rfl rfl rfl rfl ?_
  intro v
  exact kk v _
set_option tactic.hygienic true in
theorem n_dropI {T : List (Addr × Obj)} {x b : Int} {tx ta tb ts tk : Tok} {its : List Value} {n nl ne nf a : Nat} {e d1 l1 jl tg : Addr} {q : Nat → Int} {t : Nat → Tok} {fo : Str → Option Value} {fv : List Value}
    (kk : ∀ fr', fr'.lookup (Str.ofString "self") = some (.r 17) → Kl .next ⟨P.rho e ++ [d1, l1], fr', P.grd x tx its n ++ (P.own [.ref (P.o.l0)] (nl + 1) [] ne a ta fv nf ++ WP.inn q t jl tg b tb ts 0 tk), T, [1, 6, 16, 18, 19, 20, 22, 23], [], fo⟩) : NTurn c Kl (P.stI WP.frS fo T x tx its n e nl [] ne a ta fv nf d1 l1 jl tg q t b tb ts 0 tk) := by
  unfold NTurn
  refine x_truth rfl (by simp) ?_
  refine x_truth rfl (by simp) ?_
  refine x_truth rfl (by simp) ?_
  intro u1 u2
  refine x_itemL (p := [.ref (P.o.l0)]) (.r 24) rfl rfl ?_
  intro u3
  refine x_pop (p := [.ref (P.o.l0)]) (.v (.ref l1)) rfl rfl (by simp) ?_
  exact kk _ rfl
set_option tactic.hygienic true in
theorem n_takeAI {T : List (Addr × Obj)} {x k vv : Int} {tx ta tb ts tk : Tok} {its : List Value} {n nl ne nf a nj : Nat} {e d1 l1 jl tg aj c0 : Addr} {q : Nat → Int} {t : Nat → Tok} {fo : Str → Option Value} {fv : List Value} (hI : WP.InT T jl tg aj c0 nj vv) (hk : k ≠ 0)
    (hF : P.oF.IsDictOf (strKind PG G.w) [(Str.ofString "A", .ref (P.a 10)), (Str.ofString "I", .ref (P.a 13))]) (h8 : (P.a 8 == sysModules) = false) (h20 : its.length = 20) (hm : P.many ≤ 5) (hx : 0 ≤ x ∧ x ≤ 100) (hy : 1 ≤ P.y ∧ P.y ≤ 50)
    (kk : ∀ lo xs tl fr' tx' tb', xs.length = P.many → AllAt PlaceR tl xs → (∀ p ∈ tl, NeAll p.1 (led (P.st0 [] T x tx its n))) → x + xs.length ≤ P.y → fr'.lookup (Str.ofString "self") = some (.r 17) → Kl .next ⟨P.rho e ++ [d1, l1, lo], fr', P.grd (x + xs.length) tx' its n ++ ((P.own [.ref (P.o.l0), .ref l1] nl [] ne a ta fv nf).set 0 (.dict [(P.o.q4 0, Str.ofString "run", P.o.t4 0, .r 0), (P.o.q4 1, Str.ofString "levels", P.o.t4 1, .r 18), (P.o.q4 2, Str.ofString "elements", P.o.t4 2, .r 25)] 3) ++ (WP.inn q t jl tg 1 tb' ts k tk ++ [.lst xs.reverse xs.length])), tl ++ T, [25, 1, 6, 16, 18, 19, 20, 22, 23], [], fo⟩)
    (hr : P.y < x + P.many → ∀ news, (∀ z ∈ led (P.stI WP.frS fo T x tx its n e nl [] ne a ta fv nf d1 l1 jl tg q t 0 tb ts k tk), z.1 ∈ news.map (·.1)) → (∀ z ∈ led (P.st0 [] T x tx its n), z.1 = P.a 1 ∨ z ∈ news) → (∃ tx', (P.a 1, P.runO (x + P.many) tx') ∈ news) → R (x + P.many) news) : NTurn c Kl (P.stI WP.frS fo T x tx its n e nl [] ne a ta fv nf d1 l1 jl tg q t 0 tb ts k tk) := by
  obtain ⟨hl, ⟨t0, t1, t2, ha⟩, -, -⟩ := hI
  unfold NTurn
  refine x_truth rfl (by simp) ?_
  refine x_truth rfl (by simp) ?_
  refine x_truth rfl (by simp) ?_
  intro u1 u2
  refine x_itemL (p := [.ref (P.o.l0)]) (.r 24) rfl rfl ?_
  intro u3
  refine iff' (by simpa using hk) ?_
  refine x_lenT (vs := [.ref aj]) rfl (fun _ => tl_mem hl) (by simp) fun t4 => ?_
  intro u4 u5 q6 u6 u7 u8
  refine x_itemT (vs := [.ref aj]) (j := 0) (.ref aj) rfl (fun _ => tl_mem hl) (by simp) rfl (by simp) rfl ?_
  refine DoC.inl Y 40 rfl rfl rfl rfl (fun _ _ _ _ _ _ _ => rfl) fun c1 F1 B1 Y1 O1 _ K1 hK1 => ?_
  intro v1
  refine x_tupitem (vs := [.str (Str.ofString "array") t0, .int 0 t1, .str (Str.ofString "A") t2]) (.str (Str.ofString "array") t0) rfl (fun _ => tl_mem ha) rfl rfl rfl rfl ?_
  intro v2 v3
  refine x_tupitem (vs := [.str (Str.ofString "array") t0, .int 0 t1, .str (Str.ofString "A") t2]) (.str (Str.ofString "array") t0) rfl (fun _ => tl_mem ha) rfl rfl rfl rfl ?_
  intro v4
  refine u_place Y1 (s := Str.ofString "array") (nm := Str.ofString "A") (oF := P.oF) (pl := P.a 10) [.int 0 (P.t 3 0), .int 3 (P.t 3 1), .int 0 (P.t 3 2), .ref (P.a 11)] (by decide +kernel) (by decide +kernel) rfl rfl rfl rfl rfl rfl rfl (jf := 8) rfl rfl hF rfl h8 rfl (fun _ => tl_mem ha) (ip := 10) rfl rfl rfl rfl rfl ?_
  refine u_held Y1 (P.q 2) (P.t 2) (im := 4) (idd := 5) (il := 6) (ip := 10) (j := 11) (k := 12) rfl rfl rfl rfl rfl rfl rfl (by lia) h20 rfl rfl fun lo xs tl g1 g2 g3 g4 g5 => ?_
  intro q7 w1
  refine x_len rfl (by lia) fun w2 => ?_
  refine u_count Y1 (i := 0) (d := 1) (l := 2) (j := 3) rfl rfl rfl rfl rfl rfl rfl rfl rfl rfl (by lia) (by lia) (by lia) rfl rfl rfl rfl rfl (fun hle tx' => ?_) (fun hgt tx' rest hrest => ?_)
  · refine x_reverse (i := 25) rfl rfl (by lia) ?_
    refine hK1 ?_
    exact kk lo xs tl _ _ _ (g1.trans (Int.toNat_natCast _)) g2 (fun p hp => NeAll.of fun q hq => (g5 p hp).all q (led_sub (st := P.st0 [] T x tx its n) _ _ rfl rfl (fun p hp => by exact hp) rfl rfl q hq)) hle rfl
  · refine ⟨news_cov hrest (Cov.pre rfl ⟨_, rfl⟩ rfl fun p hp => mR _ hp), ?_⟩
    have e1 : ((xs.length : Nat) : Int) = P.many := by lia
    rw [e1] at hgt ⊢
    exact hr hgt _ (news_cov hrest (Cov.pre rfl ⟨_, rfl⟩ rfl fun p hp => mR _ hp)) (news_in hrest (led_sub _ _ rfl rfl (fun p hp => mR _ (mR _ hp)) rfl rfl)) ⟨tx', List.Mem.head _⟩
end
end
section
theorem x_isRef {c : XC} {st : XS} {K : RV → XS → Prop} {ov : RV} {a : Addr} (ho : ov.den st.ρ = .ref a) (k : K (.v (.bool false)) st) : Do c (compareOp .Is (ov.den st.ρ) ((RV.v .none).den st.ρ)) st K :=
  ⟨fun Q s z S hq => by
    rw [ho]
    exact is_ref_none (hq (.v (.bool false)) _ _ _ k S (Ext.refl _))⟩
section
variable {G : GR} {c : XC} {frames : List Env} {base : Heap} {R : Int → List (Addr × Obj) → Prop} {Kl : RF → XS → Prop} (Y : Uses G c frames base 402 906 R) (O : c.Ok xt5)
set_option linter.unusedSectionVars false
include Y O
variable (P : WP)
set_option tactic.hygienic true in
theorem n_round {T : List (Addr × Obj)} {x k vv : Int} {tx ta tb ts tk : Tok} {its : List Value} {n nl ne nf a nj : Nat} {e d1 l1 jl tg aj c0 : Addr} {q : Nat → Int} {t : Nat → Tok} {fo : Str → Option Value} {fv : List Value} (hI : WP.InT T jl tg aj c0 nj vv) (hk : k ≠ 0) (hc : its[0]? = some (.ref c0)) (hv : 0 ≤ vv ∧ vv ≤ 100)
    (hF : P.oF.IsDictOf (strKind PG G.w) [(Str.ofString "A", .ref (P.a 10)), (Str.ofString "I", .ref (P.a 13))]) (h8 : (P.a 8 == sysModules) = false) (hO : P.oO.IsDictOf (intKind PG G.w) [(0, .ref 187)]) (h9 : (P.a 9 == sysModules) = false) (h20 : its.length = 20) (hx : 0 ≤ x ∧ x ≤ 100) (hy : 1 ≤ P.y ∧ P.y ≤ 50)
    (kk : ∀ c1 fr' tx' tb' tk' t1 t2, x + 1 ≤ P.y → fr'.lookup (Str.ofString "self") = some (.r 17) → Kl .next ⟨P.rho e ++ [d1, l1, c1], fr', P.grd (x + 1) tx' (its.set 0 (.ref c1)) n ++ (P.own [.ref (P.o.l0), .ref l1] nl [] ne a ta fv nf ++ (WP.inn q t jl tg 0 tb' ts (k - 1) tk' ++ [.tup [.v (.int 0 t1), .v (.int (vv + 1) t2)]])), T, [25, 1, 6, 16, 18, 19, 20, 22, 23], [], fo⟩)
    (hr : P.y < x + 1 → ∀ news, (∀ z ∈ led (P.stI WP.frS fo T x tx its n e nl [] ne a ta fv nf d1 l1 jl tg q t 1 tb ts k tk), z.1 ∈ news.map (·.1)) → (∀ z ∈ led (P.st0 [] T x tx its n), z.1 = P.a 1 ∨ z ∈ news) → (∃ tx', (P.a 1, P.runO (x + 1) tx') ∈ news) → R (x + 1) news) : NTurn c Kl (P.stI WP.frS fo T x tx its n e nl [] ne a ta fv nf d1 l1 jl tg q t 1 tb ts k tk) := by
  obtain ⟨hl, -, ⟨g0, g1, g2, hg⟩, ⟨c1', c2', hcc⟩⟩ := hI
  unfold NTurn
  refine x_truth rfl (by simp) ?_
  refine x_truth rfl (by simp) ?_
  refine x_truth rfl (by simp) ?_
  intro u1 u2
  refine x_itemL (p := [.ref (P.o.l0)]) (.r 24) rfl rfl ?_
  intro u3
  refine iff' (by simpa using hk) ?_
  refine x_lenT (vs := [.ref aj]) rfl (fun _ => tl_mem hl) (by simp) fun t4 => ?_
  refine x_isRef (a := tg) rfl ?_
  refine DoC.inl Y 40 rfl rfl rfl rfl (fun _ _ _ _ _ _ _ => rfl) fun c1 F1 B1 Y1 O1 _ K1 hK1 => ?_
  refine DoC.inl Y1 40 rfl rfl rfl rfl (fun _ _ _ _ _ _ _ => rfl) fun c2 F2 B2 Y2 O2 _ K2 hK2 => ?_
  intro v1
  refine u_count Y2 (i := 0) (d := 1) (l := 2) (j := 3) rfl rfl rfl rfl rfl rfl rfl rfl rfl rfl (by lia) (by lia) (by lia) rfl rfl rfl rfl rfl (fun hle tx' => ?_) (fun hgt tx' rest hrest => ?_)
  · refine hK2 ?_
    refine u_place Y1 (s := Str.ofString "var") (nm := Str.ofString "I") (oF := P.oF) (pl := P.a 13) [.int 0 (P.t 3 5), .int 0 (P.t 3 6), .int 0 (P.t 3 7), .ref (P.a 14)] (by decide +kernel) (by decide +kernel) rfl rfl rfl rfl rfl rfl rfl (jf := 8) rfl rfl hF rfl h8 rfl (fun _ => tl_mem hg) (ip := 13) rfl rfl rfl rfl rfl ?_
    intro w1 w2
    refine x_tupitem (vs := [.str (Str.ofString "var") g0, .int 0 g1, .str (Str.ofString "I") g2]) (.int 0 g1) rfl (fun _ => tl_mem hg) rfl rfl rfl rfl ?_
    refine u_load Y1 (P.q 2) (P.t 2) (im := 4) (idd := 5) (il := 6) (k := 0) (its := its) rfl rfl rfl rfl (fun hl => mem_led (i := 13) hl rfl) rfl (by lia) hc (fun _ => tl_mem hcc) rfl rfl ?_
    refine DoC.inlK Y1 40 rfl rfl rfl rfl (fun _ _ _ _ _ _ _ => rfl) fun c3 F3 B3 Y3 O3 K3 hK3 => ?_
    refine x_dnotin (b := true) (a := P.a 9) (o := P.oO) (knd := intKind c3.prog c3.w) (key := 0) (kvs := [(0, .ref 187)]) rfl (fun hl => mem_led (i := 9) hl rfl) (by rw [Y3.prog, Y3.hw]; exact hO) h9 (intKind_is _ _ _ _) rfl ?_
    refine x_ditem (.v (.ref 187)) (a := P.a 9) (o := P.oO) (knd := intKind c3.prog c3.w) (key := 0) (kvs := [(0, .ref 187)]) rfl (fun hl => mem_led (i := 9) hl rfl) (by rw [Y3.prog, Y3.hw]; exact hO) (intKind_is _ _ _ _) rfl rfl ?_
    refine DoC.inlK Y3 40 rfl rfl rfl rfl (fun _ _ _ _ _ _ _ => rfl) fun c4 F4 B4 Y4 O4 K4 hK4 => ?_
    intro w3
    refine DoC.inlK Y4 40 rfl rfl rfl rfl (fun _ _ _ _ _ _ _ => rfl) fun c5 F5 B5 Y5 O5 K5 hK5 => ?_
    intro w4
    refine u_fit Y5 (by lia) rfl rfl ?_
    refine hK5 ?_
    refine hK4 ?_
    refine hK3 ?_
    refine u_store Y1 (P.q 2) (P.t 2) (k := 0) (im := 4) (idd := 5) (il := 6) rfl rfl rfl rfl rfl (fun hl => mem_led (i := 13) hl rfl) (fun _ D => dis_at D 6 13 rfl rfl rfl rfl) rfl (by lia) (by lia) rfl rfl rfl rfl rfl fun c1 => ?_
    intro w5 w6 w7 w8 w9 w10 w11
    refine hK1 ?_
    exact kk c1 _ _ _ _ _ _ hle rfl
  · refine ⟨news_cov hrest (Cov.pre rfl ⟨[], rfl⟩ rfl fun p hp => hp), news_cov hrest (Cov.pre rfl ⟨[], rfl⟩ rfl fun p hp => hp), ?_⟩
    exact hr hgt _ (news_cov hrest (Cov.pre rfl ⟨[], rfl⟩ rfl fun p hp => hp)) (news_in hrest (led_sub _ _ rfl rfl (fun p hp => mR _ hp) rfl rfl)) ⟨tx', List.Mem.head _⟩
end
end
section
theorem Cov.sel {st st1 : XS} (js mv : List Nat) (hl : st.ρ.length = st.ob.length) (hl1 : st1.ρ.length = st1.ob.length) (h1 : st1.ρ = js.map fun j => st.ρ.getD j 0) (hall : (List.range st.ob.length).all (fun i => js.contains i || mv.contains i) = true) (hmv : ∀ j ∈ mv, st.ρ.getD j 0 ∈ st1.tl.map (·.1)) (hc : st1.ce = st.ce) (ht : ∀ p ∈ st.tl, p ∈ st1.tl) : Cov st st1 :=
  Cov.of hl1 (fun a ha => by
    obtain ⟨i, hi⟩ := List.mem_iff_getElem?.mp ha
    have hlt : i < st.ob.length := hl ▸ (gS hi).1
    have e : st.ρ.getD i 0 = a := by rw [List.getD_eq_getElem?_getD, hi]; rfl
    rcases Bool.or_eq_true_iff.mp (aT hall i (List.mem_range.mpr hlt)) with h | h
    · refine .inl ?_
      rw [h1, ← e]
      exact List.mem_map.mpr ⟨i, by simpa using h, rfl⟩
    · refine .inr ?_
      rw [← e]
      exact hmv i (by simpa using h)) hc fun p hp => List.mem_map_of_mem (ht p hp)
namespace WP
variable {P : WP} {T0 F T : List (Addr × Obj)} {its0 its els : List Value} {es : List Nat} {x : Int}
theorem Com.tl {T' : List (Addr × Obj)} (h : P.Com T0 its0 F T its els es x) (ht : ∀ p ∈ T, p ∈ T') : P.Com T0 its0 F T' its els es x := ⟨fun p hp => ht p (h.hT p hp), h.hF, h.hE, h.h5, h.h20, h.hi, h.hx⟩
theorem Com.cell {v : Value} (h : P.Com T0 its0 F T its els es x) : P.Com T0 its0 F T (its.set 0 v) els es x := ⟨h.hT, h.hF, h.hE, h.h5, by rw [List.length_set]; exact h.h20, fun i hi => by rw [List.getElem?_set_ne (Ne.symm hi)]; exact h.hi i hi, h.hx⟩
theorem Com.steps {x' : Int} (h : P.Com T0 its0 F T its els es x) (hx : 0 ≤ x' ∧ x' ≤ 100) : P.Com T0 its0 F T its els es x' := ⟨h.hT, h.hF, h.hE, h.h5, h.h20, h.hi, hx⟩
theorem Com.nil (h : P.Com T0 its0 F T its els [] x) : els = [] := h.hE
theorem Com.pop {k : Nat} (h : P.Com T0 its0 F T its els (k :: es) x) : ∃ p y, els = p ++ [y] ∧ IsPlace (F ++ T0) (3 + k) y ∧ p.length ≤ 5 ∧ P.Com T0 its0 F T its p es x := by
  obtain ⟨p, y, e, hy, hp⟩ := h.hE
  have h5 := h.h5
  rw [List.length_cons] at h5
  exact ⟨p, y, e, hy, by rw [hp.len]; lia, h.hT, h.hF, hp, by lia, h.h20, h.hi, h.hx⟩
theorem fresh_of {n : Nat} {tx : Tok} {b : Addr} (hT : ∀ p ∈ T0, p ∈ T) (h : NeAll b (led (P.st0 [] T x tx its n))) : P.Fresh T0 b := by
  refine ⟨fun a ha => ?_, NeAll.of fun p hp => h.all p (mR _ (hT p hp))⟩
  obtain ⟨i, hi⟩ := List.mem_iff_getElem?.mp ha
  exact (ne_at (st := P.st0 [] T x tx its n) rfl h).1 i a hi
theorem Com.arr {tl : List (Addr × Obj)} {xs : List Value} {n : Nat} {tx : Tok} {x' : Int} (h : P.Com T0 its0 F T its els es x) (hl : xs.length = P.many) (h5 : P.many ≤ 5) (hA : AllAt PlaceR tl xs) (hn : ∀ p ∈ tl, NeAll p.1 (led (P.st0 [] T x tx its n))) (hx : 0 ≤ x' ∧ x' ≤ 100) : P.Com T0 its0 (tl ++ F) (tl ++ T) its xs.reverse (List.range' 0 P.many) x' := by
  refine ⟨fun p hp => ?_, fun p hp => ?_, ?_, by rw [List.length_range']; exact h5, h.h20, h.hi, hx⟩
  · rw [List.append_assoc] at hp
    exact (mA hp).elim (fun q => mL _ q) fun q => mR _ (h.hT p q)
  · exact (mA hp).elim (fun q => fresh_of (fun p hp => h.hT p (mR _ hp)) (hn p q)) (h.hF p)
  · rw [← hl]
    refine ElsAt.of fun i v hv => ?_
    rw [Nat.zero_add]
    exact (show IsPlace tl (3 + i) v from hA i v hv).mono fun p hp => mL _ (mL _ hp)
variable {fv : List Value} {nf n nl ne a : Nat} {tx ta : Tok} {e : Addr} {fo : Str → Option Value} {fr' : List (Str × RV)} {st0 : XS} (hs : fr'.lookup (Str.ofString "self") = some (.r 17))
include hs
theorem w_dropB (h : P.Com T0 its0 F T its [] [] x) (ha : a ≤ P.xs.length) (hc : Cov st0 (P.stB frS fo T x tx its n e [.ref (P.o.l0)] nl [] ne a ta fv nf)) : ∃ st4, Weak (P.stB fr' fo T x tx its n e [] (nl + 1) [] ne a ta fv nf) st4 ∧ P.I T0 its0 frS fv nf (Cov st0) F [] .non x st4 :=
  ⟨P.stB frS (frm (P.stB fr' fo T x tx its n e [] (nl + 1) [] ne a ta fv nf)) T x tx its n e [] (nl + 1) [] ne a ta fv nf, Weak.of 23 [] rfl rfl rfl rfl rfl rfl rfl (all_cons (frm_at (st := P.stB fr' fo T x tx its n e [] (nl + 1) [] ne a ta fv nf) hs) all_nil) (fun p hp => .inl hp) rfl, I.base (fo := frm (P.stB fr' fo T x tx its n e [] (nl + 1) [] ne a ta fv nf)) false h ha (hc.trans (Cov.pre rfl ⟨[], rfl⟩ rfl fun p hp => hp))⟩
theorem w_takeA {lo : Addr} {xs : List Value} {tl : List (Addr × Obj)} {x' : Int} {tx' ta' : Tok} (h : P.Com T0 its0 F T its [] [] x) (ha : a + 1 ≤ P.xs.length) (hl : xs.length = P.many) (h5 : P.many ≤ 5) (hA : AllAt PlaceR tl xs) (hn : ∀ p ∈ tl, NeAll p.1 (led (P.st0 [] T x tx its n))) (hx : 0 ≤ x' ∧ x' ≤ 100)
    (hc : Cov st0 (P.stB frS fo T x tx its n e [.ref (P.o.l0)] nl [] ne a ta fv nf)) : ∃ st4, Weak ⟨P.rho e ++ [lo], fr', P.grd x' tx' its n ++ ((P.own [.ref (P.o.l0)] nl [] ne (a + 1) ta' fv nf).set 0 (.dict [(P.o.q4 0, Str.ofString "run", P.o.t4 0, .r 0), (P.o.q4 1, Str.ofString "levels", P.o.t4 1, .r 18), (P.o.q4 2, Str.ofString "elements", P.o.t4 2, .r 23)] 3) ++ [.lst xs.reverse xs.length]), tl ++ T, [23, 1, 6, 16, 18, 19, 20, 22], [], fo⟩ st4 ∧ P.I T0 its0 frS fv nf (Cov st0) (tl ++ F) (List.range' 0 P.many) (.top (P.items.drop (a + 1))) x' st4 := by
  let st3 : XS := ⟨P.rho e ++ [lo], fr', P.grd x' tx' its n ++ ((P.own [.ref (P.o.l0)] nl [] ne (a + 1) ta' fv nf).set 0 (.dict [(P.o.q4 0, Str.ofString "run", P.o.t4 0, .r 0), (P.o.q4 1, Str.ofString "levels", P.o.t4 1, .r 18), (P.o.q4 2, Str.ofString "elements", P.o.t4 2, .r 23)] 3) ++ [.lst xs.reverse xs.length]), tl ++ T, [23, 1, 6, 16, 18, 19, 20, 22], [], fo⟩
  refine ⟨P.stB frS (frm st3) ((e, (RO.lst [] ne).den []) :: (tl ++ T)) x' tx' its n lo [.ref (P.o.l0)] nl xs.reverse xs.length (a + 1) ta' fv nf, Weak.sel [0, 1, 2, 3, 4, 5, 6, 7, 8, 9, 10, 11, 12, 13, 14, 15, 16, 17, 18, 23, 20, 21, 22] [19] rfl rfl rfl rfl (by decide) rfl rfl rfl (all_cons (frm_at (st := st3) hs) all_nil) (all_cons (.inr ⟨19, List.Mem.head _, Nat.le_of_ble_eq_true rfl, rfl⟩) fun p hp => .inl hp) rfl, ?_⟩
  refine I.base (lb := true) ((h.arr hl h5 hA hn hx).tl fun p hp => mC _ hp) ha ?_
  have k1 : Cov (P.stB frS fo T x tx its n e [.ref (P.o.l0)] nl [] ne a ta fv nf) st3 := Cov.pre rfl ⟨[lo], rfl⟩ rfl fun p (hp : p ∈ T) => mR tl hp
  have k2 : Cov st3 (P.stB frS (frm st3) ((e, (RO.lst [] ne).den []) :: (tl ++ T)) x' tx' its n lo [.ref (P.o.l0)] nl xs.reverse xs.length (a + 1) ta' fv nf) :=
    Cov.sel [0, 1, 2, 3, 4, 5, 6, 7, 8, 9, 10, 11, 12, 13, 14, 15, 16, 17, 18, 23, 20, 21, 22] [19] rfl rfl rfl rfl (all_cons (List.Mem.head _) all_nil) rfl fun p (hp : p ∈ tl ++ T) => mC _ hp
  exact hc.trans (k1.trans k2)
theorem w_takeI {c0 d1 l1 jl tg aj : Addr} {q : Nat → Int} {t : Nat → Tok} {tb ts tk t1 t2 : Tok} {m nj : Nat} {ta' : Tok} (h : P.Com T0 its0 F T its [] [] x) (ha : a + 1 ≤ P.xs.length) (hm : m ≤ 3) (hI : InT ((c0, tupO #[.int 0 t1, .int 1 t2]) :: T) jl tg aj c0 nj 1)
    (hc : Cov st0 (P.stB frS fo T x tx its n e [.ref (P.o.l0)] nl [] ne a ta fv nf)) : ∃ st4, Weak (P.stI fr' fo ((c0, tupO #[.int 0 t1, .int 1 t2]) :: T) x tx (its.set 0 (.ref c0)) n e (nl + 1) [] ne (a + 1) ta' fv nf d1 l1 jl tg q t 0 tb ts m tk) st4 ∧ P.I T0 its0 frS fv nf (Cov st0) F [] (.inner (P.items.drop (a + 1)) false m) x st4 := by
  let st3 : XS := P.stI fr' fo ((c0, tupO #[.int 0 t1, .int 1 t2]) :: T) x tx (its.set 0 (.ref c0)) n e (nl + 1) [] ne (a + 1) ta' fv nf d1 l1 jl tg q t 0 tb ts m tk
  have h20 := h.h20
  refine ⟨P.stI frS (frm st3) ((c0, tupO #[.int 0 t1, .int 1 t2]) :: T) x tx (its.set 0 (.ref c0)) n e (nl + 1) [] ne (a + 1) ta' fv nf d1 l1 jl tg q t 0 tb ts m tk, Weak.of 25 [] rfl rfl rfl rfl rfl rfl rfl (all_cons (frm_at (st := st3) hs) all_nil) (fun p hp => .inl hp) rfl, ?_⟩
  refine I.inner (b := false) (vv := 1) (h.cell.tl fun p hp => mC _ hp) ha hI (by rw [List.getElem?_set_self (by lia)]) (by lia) (fun h => nomatch h) ?_
  exact hc.trans (Cov.pre rfl ⟨[d1, l1], rfl⟩ rfl fun p hp => mC _ hp)
theorem w_dropI {d1 l1 jl tg : Addr} {q : Nat → Int} {t : Nat → Tok} {b : Int} {tb ts tk : Tok} (h : P.Com T0 its0 F T its [] [] x) (ha : a ≤ P.xs.length)
    (hc : Cov st0 (P.stI frS fo T x tx its n e nl [] ne a ta fv nf d1 l1 jl tg q t b tb ts 0 tk)) : ∃ st4, Weak ⟨P.rho e ++ [d1, l1], fr', P.grd x tx its n ++ (P.own [.ref (P.o.l0)] (nl + 1) [] ne a ta fv nf ++ WP.inn q t jl tg b tb ts 0 tk), T, [1, 6, 16, 18, 19, 20, 22, 23], [], fo⟩ st4 ∧ P.I T0 its0 frS fv nf (Cov st0) F [] (.top (P.items.drop a)) x st4 := by
  let st3 : XS := ⟨P.rho e ++ [d1, l1], fr', P.grd x tx its n ++ (P.own [.ref (P.o.l0)] (nl + 1) [] ne a ta fv nf ++ WP.inn q t jl tg b tb ts 0 tk), T, [1, 6, 16, 18, 19, 20, 22, 23], [], fo⟩
  refine ⟨P.stB frS (frm st3) ((d1, (levE q t (.v (.ref jl)) (.v (.ref tg)) b tb (.int 1 ts) 0 tk).den []) :: (l1, instObj 466 d1) :: T) x tx its n e [.ref (P.o.l0)] (nl + 1) [] ne a ta fv nf, Weak.of 23 [23, 24] rfl rfl rfl rfl rfl rfl rfl (all_cons (frm_at (st := st3) hs) all_nil) (all_cons (.inr ⟨23, List.Mem.head _, Nat.le_of_ble_eq_true rfl, rfl⟩) (all_cons (.inr ⟨24, List.Mem.tail _ (List.Mem.head _), Nat.le_of_ble_eq_true rfl, rfl⟩) fun p hp => .inl hp)) rfl, ?_⟩
  refine I.base (lb := true) (h.tl fun p hp => mC _ (mC _ hp)) ha ?_
  have k2 : Cov (P.stI frS fo T x tx its n e nl [] ne a ta fv nf d1 l1 jl tg q t b tb ts 0 tk) (P.stB frS (frm st3) ((d1, (levE q t (.v (.ref jl)) (.v (.ref tg)) b tb (.int 1 ts) 0 tk).den []) :: (l1, instObj 466 d1) :: T) x tx its n e [.ref (P.o.l0)] (nl + 1) [] ne a ta fv nf) :=
    Cov.sel [0, 1, 2, 3, 4, 5, 6, 7, 8, 9, 10, 11, 12, 13, 14, 15, 16, 17, 18, 19, 20, 21, 22] [23, 24] rfl rfl rfl rfl (all_cons (List.Mem.head _) (all_cons (List.Mem.tail _ (List.Mem.head _)) all_nil)) rfl fun p (hp : p ∈ T) => mC _ (mC _ hp)
  exact hc.trans k2
theorem w_takeAI {lo d1 l1 jl tg aj c0 : Addr} {q : Nat → Int} {t : Nat → Tok} {tb tb' ts tk : Tok} {k nj : Nat} {vv : Int} {xs : List Value} {tl : List (Addr × Obj)} {x' : Int} {tx' : Tok} (h : P.Com T0 its0 F T its [] [] x) (ha : a ≤ P.xs.length) (hI : InT T jl tg aj c0 nj vv) (hc0 : its[0]? = some (.ref c0)) (hv : 1 ≤ vv ∧ vv + k ≤ 50 ∧ k ≤ 3) (hk : 1 ≤ k)
    (hl : xs.length = P.many) (h5 : P.many ≤ 5) (hA : AllAt PlaceR tl xs) (hn : ∀ p ∈ tl, NeAll p.1 (led (P.st0 [] T x tx its n))) (hx : 0 ≤ x' ∧ x' ≤ 100)
    (hc : Cov st0 (P.stI frS fo T x tx its n e nl [] ne a ta fv nf d1 l1 jl tg q t 0 tb ts k tk)) : ∃ st4, Weak ⟨P.rho e ++ [d1, l1, lo], fr', P.grd x' tx' its n ++ ((P.own [.ref (P.o.l0), .ref l1] nl [] ne a ta fv nf).set 0 (.dict [(P.o.q4 0, Str.ofString "run", P.o.t4 0, .r 0), (P.o.q4 1, Str.ofString "levels", P.o.t4 1, .r 18), (P.o.q4 2, Str.ofString "elements", P.o.t4 2, .r 25)] 3) ++ (WP.inn q t jl tg 1 tb' ts k tk ++ [.lst xs.reverse xs.length])), tl ++ T, [25, 1, 6, 16, 18, 19, 20, 22, 23], [], fo⟩ st4 ∧ P.I T0 its0 frS fv nf (Cov st0) (tl ++ F) (List.range' 0 P.many) (.inner (P.items.drop a) true k) x' st4 := by
  let st3 : XS := ⟨P.rho e ++ [d1, l1, lo], fr', P.grd x' tx' its n ++ ((P.own [.ref (P.o.l0), .ref l1] nl [] ne a ta fv nf).set 0 (.dict [(P.o.q4 0, Str.ofString "run", P.o.t4 0, .r 0), (P.o.q4 1, Str.ofString "levels", P.o.t4 1, .r 18), (P.o.q4 2, Str.ofString "elements", P.o.t4 2, .r 25)] 3) ++ (WP.inn q t jl tg 1 tb' ts k tk ++ [.lst xs.reverse xs.length])), tl ++ T, [25, 1, 6, 16, 18, 19, 20, 22, 23], [], fo⟩
  refine ⟨P.stI frS (frm st3) ((e, (RO.lst [] ne).den []) :: (tl ++ T)) x' tx' its n lo nl xs.reverse xs.length a ta fv nf d1 l1 jl tg q t 1 tb' ts k tk, Weak.sel [0, 1, 2, 3, 4, 5, 6, 7, 8, 9, 10, 11, 12, 13, 14, 15, 16, 17, 18, 25, 20, 21, 22, 23, 24] [19] rfl rfl rfl rfl (by decide) rfl rfl rfl (all_cons (frm_at (st := st3) hs) all_nil) (all_cons (.inr ⟨19, List.Mem.head _, Nat.le_of_ble_eq_true rfl, rfl⟩) fun p hp => .inl hp) rfl, ?_⟩
  refine I.inner (b := true) ((h.arr hl h5 hA hn hx).tl fun p hp => mC _ hp) ha (hI.mono fun p hp => mC _ (mR _ hp)) hc0 hv (fun _ => hk) ?_
  have k1 : Cov (P.stI frS fo T x tx its n e nl [] ne a ta fv nf d1 l1 jl tg q t 0 tb ts k tk) st3 := Cov.pre rfl ⟨[lo], rfl⟩ rfl fun p (hp : p ∈ T) => mR tl hp
  have k2 : Cov st3 (P.stI frS (frm st3) ((e, (RO.lst [] ne).den []) :: (tl ++ T)) x' tx' its n lo nl xs.reverse xs.length a ta fv nf d1 l1 jl tg q t 1 tb' ts k tk) :=
    Cov.sel [0, 1, 2, 3, 4, 5, 6, 7, 8, 9, 10, 11, 12, 13, 14, 15, 16, 17, 18, 25, 20, 21, 22, 23, 24] [19] rfl rfl rfl rfl (all_cons (List.Mem.head _) all_nil) rfl fun p (hp : p ∈ tl ++ T) => mC _ hp
  exact hc.trans (k1.trans k2)
theorem w_round {c0 c1 d1 l1 jl tg aj : Addr} {q : Nat → Int} {t : Nat → Tok} {tb tb' ts tk tk' t1 t2 : Tok} {k nj : Nat} {vv x' k' : Int} {tx' : Tok} (h : P.Com T0 its0 F T its [] [] x) (ha : a ≤ P.xs.length) (hI : InT T jl tg aj c0 nj vv) (hv : 1 ≤ vv ∧ vv + (k + 1) ≤ 50 ∧ k + 1 ≤ 3) (hx : 0 ≤ x' ∧ x' ≤ 100) (hk : k' = k)
    (hc : Cov st0 (P.stI frS fo T x tx its n e nl [] ne a ta fv nf d1 l1 jl tg q t 1 tb ts (k + 1) tk)) : ∃ st4, Weak ⟨P.rho e ++ [d1, l1, c1], fr', P.grd x' tx' (its.set 0 (.ref c1)) n ++ (P.own [.ref (P.o.l0), .ref l1] nl [] ne a ta fv nf ++ (WP.inn q t jl tg 0 tb' ts k' tk' ++ [.tup [.v (.int 0 t1), .v (.int (vv + 1) t2)]])), T, [25, 1, 6, 16, 18, 19, 20, 22, 23], [], fo⟩ st4 ∧ P.I T0 its0 frS fv nf (Cov st0) F [] (.inner (P.items.drop a) false k) x' st4 := by
  subst hk
  let st3 : XS := ⟨P.rho e ++ [d1, l1, c1], fr', P.grd x' tx' (its.set 0 (.ref c1)) n ++ (P.own [.ref (P.o.l0), .ref l1] nl [] ne a ta fv nf ++ (WP.inn q t jl tg 0 tb' ts k tk' ++ [.tup [.v (.int 0 t1), .v (.int (vv + 1) t2)]])), T, [25, 1, 6, 16, 18, 19, 20, 22, 23], [], fo⟩
  have h20 := h.h20
  obtain ⟨i1, i2, i3, i4⟩ := hI.mono (T' := (c1, tupO #[.int 0 t1, .int (vv + 1) t2]) :: T) fun p hp => mC _ hp
  refine ⟨P.stI frS (frm st3) ((c1, tupO #[.int 0 t1, .int (vv + 1) t2]) :: T) x' tx' (its.set 0 (.ref c1)) n e nl [] ne a ta fv nf d1 l1 jl tg q t 0 tb' ts k tk', Weak.of 25 [25] rfl rfl rfl rfl rfl rfl rfl (all_cons (frm_at (st := st3) hs) all_nil) (all_cons (.inr ⟨25, List.Mem.head _, Nat.le_of_ble_eq_true rfl, rfl⟩) fun p hp => .inl hp) rfl, ?_⟩
  refine I.inner (b := false) (vv := vv + 1) (((h.cell).steps hx).tl fun p hp => mC _ hp) ha ⟨i1, i2, i3, ⟨t1, t2, List.Mem.head _⟩⟩ (by rw [List.getElem?_set_self (by lia)]) (by lia) (fun h => nomatch h) ?_
  exact hc.trans (Cov.pre rfl ⟨[], rfl⟩ rfl fun p hp => mC _ hp)
end WP
end
section
theorem runA_arr_ok {most x : Int} {k : Nat} {its : List (Itm × Addr)} {a : Addr} (h : x + k ≤ most) : runA most (stActs k [] (.top ((.arr, a) :: its))) x = runA most (stActs k (List.range' 0 k) (.top its)) (x + k) := runA_step_ok h
theorem runA_arr_no {most x : Int} {k : Nat} {its : List (Itm × Addr)} {a : Addr} (h : most < x + k) : runA most (stActs k [] (.top ((.arr, a) :: its))) x = .error (x + k) := runA_step_no h
theorem runA_ido {most x : Int} {k m : Nat} {its : List (Itm × Addr)} {a : Addr} : runA most (stActs k [] (.top ((.ido m, a) :: its))) x = runA most (stActs k [] (.inner its false m)) x := by
  cases m with
  | zero => rfl
  | succ m => rfl
theorem runA_drop {most x : Int} {k : Nat} {its : List (Itm × Addr)} {b : Bool} : runA most (stActs k [] (.inner its b 0)) x = runA most (stActs k [] (.top its)) x := rfl
theorem runA_arrI_ok {most x : Int} {k c : Nat} {its : List (Itm × Addr)} (h : x + k ≤ most) : runA most (stActs k [] (.inner its false (c + 1))) x = runA most (stActs k (List.range' 0 k) (.inner its true (c + 1))) (x + k) := by
  show runA most ((arrActs k ++ .step 1 :: rnds k c) ++ itemsActs k its) x = _
  rw [List.append_assoc]
  exact runA_step_ok h
theorem runA_arrI_no {most x : Int} {k c : Nat} {its : List (Itm × Addr)} (h : most < x + k) : runA most (stActs k [] (.inner its false (c + 1))) x = .error (x + k) := by
  show runA most ((arrActs k ++ .step 1 :: rnds k c) ++ itemsActs k its) x = _
  rw [List.append_assoc]
  exact runA_step_no h
theorem runA_rnd_ok {most x : Int} {k c : Nat} {its : List (Itm × Addr)} (h : x + 1 ≤ most) : runA most (stActs k [] (.inner its true (c + 1))) x = runA most (stActs k [] (.inner its false c)) (x + 1) := by
  refine (runA_step_ok (k := 1) h).trans ?_
  cases c with
  | zero => rfl
  | succ c => rfl
theorem runA_rnd_no {most x : Int} {k c : Nat} {its : List (Itm × Addr)} (h : most < x + 1) : runA most (stActs k [] (.inner its true (c + 1))) x = .error (x + 1) := runA_step_no (k := 1) h
theorem runA_pop {most x : Int} {k j : Nat} {es : List Nat} {lv : Lv} : runA most (stActs k (j :: es) lv) x = pre1 (.pl j) (runA most (stActs k es lv) x) := rfl
theorem drop_at {α : Type} {l : List α} {a : Nat} {v : α} (h : l[a]? = some v) : l.drop a = v :: l.drop (a + 1) := by
  obtain ⟨h1, h2⟩ := gS h
  rw [List.drop_eq_getElem_cons h1, h2]
structure RNext (P : WP) (T0 : List (Addr × Obj)) (its0 : List Value) (acts : List Act) (x : Int) (st : XS) (k : Int) (news : List (Addr × Obj)) : Prop where
  run : runA P.y acts x = .error k
  cov : ∀ q ∈ led st, q.1 ∈ news.map (·.1)
  rd : ∃ tx, (P.a 1, P.runO k tx) ∈ news
  grd : ∃ (x1 : Int) (tx1 : Tok) (its : List Value) (n : Nat), its.length = 20 ∧ (∀ i : Nat, i ≠ 0 → its[i]? = its0[i]?) ∧ ∀ q ∈ led (P.st0 [] T0 x1 tx1 its n), q.1 = P.a 1 ∨ q ∈ news
set_option tactic.hygienic true in
theorem r_next {P : WP} {T0 T : List (Addr × Obj)} {its0 its : List Value} {R : Int → List (Addr × Obj) → Prop} {a0 a1 : List Act} {x x1 : Int} {st st1 : XS} {n : Nat} {tx : Tok} {k : Int} {news : List (Addr × Obj)} (r : ∀ k news, RNext P T0 its0 a0 x st k news → R k news) (hr : runA P.y a0 x = runA P.y a1 x1) (hT : ∀ p ∈ T0, p ∈ T) (h20 : its.length = 20) (hi : ∀ i : Nat, i ≠ 0 → its[i]? = its0[i]?) (hc : Cov st st1) (hk : runA P.y a1 x1 = .error k) (hn : ∀ q ∈ led st1, q.1 ∈ news.map (·.1)) (hg : ∀ q ∈ led (P.st0 [] T x1 tx its n), q.1 = P.a 1 ∨ q ∈ news) (hd : ∃ tx', (P.a 1, P.runO k tx') ∈ news) : RIn st R k news := by
  have cov : ∀ q ∈ led st, q.1 ∈ news.map (·.1) := fun q hq => by
    obtain ⟨r, hr, e⟩ := mM (hc q hq)
    rw [← e]; exact hn r hr
  exact ⟨cov, r _ _ ⟨hr.trans hk, cov, hd, _, _, _, _, h20, hi, fun q hq => hg q (led_sub (st := P.st0 [] T0 x1 _ _ _) (st' := P.st0 [] _ x1 _ _ _) [] [] rfl rfl (fun p hp => hT p hp) rfl rfl q hq)⟩⟩
section
variable {G : GR} {c : XC} {frames : List Env} {base : Heap} {R : Int → List (Addr × Obj) → Prop} {K : RV → XS → Prop} (Y : Uses G c frames base 401 903 R)
include Y
variable (P : WP) {T0 : List (Addr × Obj)} {its0 : List Value}
set_option maxHeartbeats 8000000 in
structure NI (P : WP) (T0 : List (Addr × Obj)) (its0 fv : List Value) (nf : Nat) (st : XS) (F : List (Addr × Obj)) (es : List Nat) (lv : Lv) (x : Int) (i : List (Addr × Obj) × List Nat × Lv × Int) (s : XS) : Prop where
  hI : P.I T0 its0 WP.frS fv nf (Cov st) i.1 i.2.1 i.2.2.1 i.2.2.2 s
  hr : runA P.y (stActs P.many es lv) x = runA P.y (stActs P.many i.2.1 i.2.2.1) i.2.2.2
  hm : mes i.2.1 i.2.2.1 ≤ mes es lv
  hs : ∀ q ∈ F, q ∈ i.1
set_option tactic.hygienic true in
theorem u_next (hp : c.pin ≤ 16) (hP : P.Ok G.w T0) {fr : List (Str × RV)} {fv : List Value} {nf : Nat} {F : List (Addr × Obj)} {es : List Nat} {lv : Lv} {x : Int} {st : XS} (h : P.I T0 its0 fr fv nf (fun _ => True) F es lv x st) (hfr : ∀ q ∈ WP.fr4, fr.lookup q.1 = some q.2)
    (k0 : ∀ F' x' st', P.I T0 its0 WP.fr4 fv nf (fun _ => True) F' [] .non x' st' → (∀ q ∈ F, q ∈ F') → runA P.y (stActs P.many es lv) x = .ok ([], x') → K (.v .none) st')
    (k1 : ∀ F' es' lv' x' st' p o el, P.I T0 its0 WP.fr4 fv nf (fun _ => True) F' es' lv' x' st' → (∀ q ∈ F, q ∈ F') → ElemV (F' ++ T0) el o → runA P.y (stActs P.many es lv) x = pre1 el (runA P.y (stActs P.many es' lv') x') → mes es' lv' < mes es lv → K (.r st'.ob.length) (st'.add p o))
    (r : ∀ k news, RNext P T0 its0 (stActs P.many es lv) x st k news → R k news) : DoCR c (.ref 505) [.r 17] st K := by
  obtain ⟨e1, e2, e3, e4, e5, -⟩ := h.den
  obtain ⟨m5, hit, l3, hy, hE, sE, hF, sF, hO, sO⟩ := hP
  refine DoCR.inl Y 40 rfl rfl rfl (by rw [e2]; rfl) (fun _ _ _ _ _ _ _ => rfl) fun c1 F1 B1 Y1 O1 hp1 => ?_
  refine DoF.while O1 rfl (ι := List (Addr × Obj) × List Nat × Lv × Int) (NI P T0 its0 fv nf st F es lv x) (fun i => lvM i.2.2.1) 30 (fun i s hi => ?_) (F, es, lv, x) ?_ ?_
  · obtain ⟨f1, f2, -⟩ := hi.1.den
    exact ExtP.take 16 (hp1 ▸ hp) (e1.trans f1.symm) (f2.trans (by rw [show (st.call (bindRV _ _)).ce = st.ce.map CE.off from rfl, e2]; rfl))
  · refine ⟨h.call (fun q hq => ?_), rfl, Nat.le_refl _, fun _ hq => hq⟩
    rw [call_led]; exact List.mem_map_of_mem hq
  · rintro ⟨F2, es1, lv1, x1⟩ st1 ⟨hI, hr, hm, hsF⟩ TT hTT
    dsimp only at hI hr hm hsF ⊢
    have hfrm : ∀ q ∈ WP.fr4, frm st q.1 = some (q.2.den (P.rho 0)) := fun q hq => by rw [← e4 q hq]; exact frm_at (by rw [e3]; exact hfr q hq)
    cases hI with
    | base lb h1 h2 hc =>
      rename_i T tx its els n nl ne a e ta fo
      cases es1 with
      | cons j es1 =>
        obtain ⟨p, y, rfl, hpl, hp5, hcom⟩ := h1.pop
        obtain ⟨pl, em, t0, t1, t2, rfl, hT, hem⟩ := hpl
        refine n_popB Y1 O1 P hp5 (h1.hT _ hT) fun v fr' => hTT.rt ⟨.r 23, _, WP.fr4, Weak.refl rfl, ExtP.refl _ _, rfl, fun q hq => (hfrm q hq).trans (by revert q; exact all_cons rfl (all_cons rfl (all_cons rfl (all_cons rfl all_nil)))), ?_⟩
        show K _ ⟨_, _, _, _, _, st.ce, _⟩
        rw [e2]
        exact k1 F2 es1 _ x1 _ v _ (.pl j) (WP.I.base (fo := frm st) lb hcom h2 trivial) hsF ⟨_, t0, rfl, pl, em, t0, t1, t2, rfl, hT, hem⟩ (hr.trans runA_pop) (Nat.lt_of_lt_of_le (by unfold mes; rw [List.length_cons]; lia) hm)
      | nil =>
        obtain rfl := h1.nil
        cases lb with
        | false =>
          refine n_endB Y1 O1 P ?_
          refine hTT.bk ⟨.v .none, _, WP.fr4, Weak.refl rfl, ExtP.refl _ _, rfl, fun q hq => (hfrm q hq).trans (by revert q; exact all_cons rfl (all_cons rfl (all_cons rfl (all_cons rfl all_nil)))), ?_⟩
          show K _ ⟨_, _, _, _, _, st.ce, _⟩
          rw [e2]
          exact k0 F2 x1 _ (WP.I.base (fo := frm st) false h1 h2 trivial) hsF (hr.trans rfl)
        | true =>
          rcases Nat.lt_or_ge a P.xs.length with hlt | hge
          · have hil : a < P.items.length := by rw [← hit.1]; exact hlt
            have hxa : P.xs[a]? = some P.xs[a] := List.getElem?_eq_getElem hlt
            have hia : P.items[a]? = some P.items[a] := List.getElem?_eq_getElem hil
            have hI := hit.2 a _ _ hia hxa
            have hdr := drop_at hia
            generalize P.items[a] = it at hI hdr
            obtain ⟨ik, ia⟩ := it
            obtain ⟨hv, hI⟩ := hI
            rw [hv] at hxa
            dsimp only at hxa hI
            replace hr : runA P.y (stActs P.many es lv) x = runA P.y (stActs P.many [] (.top (P.items.drop a))) x1 := hr
            replace hm : mes [] (.top (P.items.drop a)) ≤ mes es lv := hm
            rw [hdr] at hr hm
            have hsub : ∀ p ∈ T0, p ∈ T := fun p hp => h1.hT p (mR _ hp)
            cases ik with
            | con =>
              obtain ⟨t0, t1, t2, hT⟩ := hI
              refine n_takeC Y1 O1 P l3 hxa (hsub _ hT) fun v jj jv fr' ta' => ?_
              refine hTT.rt ⟨.r 23, (P.stB [] (frm (((P.stB fr' fo T x1 tx its n e [.ref (P.o.l0)] nl [] ne (a + 1) ta' fv nf).add jj (.tup jv)).add v (.tup [.v (.int 0 t1), .v .none, .v (.ref ia)]))) T x1 tx its n e [.ref (P.o.l0)] nl [] ne (a + 1) ta' fv nf).add v (.tup [.v (.int 0 t1), .v .none, .v (.ref ia)]), WP.fr4, ?_, ?_, rfl, fun q hq => (hfrm q hq).trans (by revert q; exact all_cons rfl (all_cons rfl (all_cons rfl (all_cons rfl all_nil)))), ?_⟩
              · exact Weak.sel [0, 1, 2, 3, 4, 5, 6, 7, 8, 9, 10, 11, 12, 13, 14, 15, 16, 17, 18, 19, 20, 21, 22, 24] [] rfl rfl rfl rfl (by decide) rfl rfl rfl all_nil (fun p hp => .inl hp) rfl
              · exact ExtP.take 23 (Nat.le_trans (hp1 ▸ hp : c.pin ≤ 16) (by decide)) rfl rfl
              · show K _ ⟨_, _, _, _, _, st.ce, _⟩
                rw [e2]
                exact k1 F2 [] _ x1 _ v _ (.con ia) (WP.I.base (fo := frm st) true h1 (show a + 1 ≤ P.xs.length from hlt) trivial) hsF ⟨t1, rfl⟩ (hr.trans rfl) (Nat.lt_of_lt_of_le (by unfold mes; show _ < 0 + 6 * (1 + (1 + cost _)); show 0 + 6 * (1 + cost _) < _; lia) hm)
            | arr =>
              obtain ⟨t0, t1, t2, hT⟩ := hI
              have hlm : lvM (.top (P.items.drop a)) = 1 + (1 + cost (P.items.drop (a + 1))) := by rw [hdr]; rfl
              refine n_takeA Y1 O1 P l3 hxa (hsub _ hT) hF sF h1.h20 m5 h1.hx hy (fun lo xs tl fr' tx' ta' hl hA hn hle hs => ?_) (fun hlt' news hcov hg hd => r_next r hr hsub h1.h20 h1.hi hc (runA_arr_no hlt') hcov hg hd)
              have hx' : 0 ≤ x1 + (xs.length : Int) ∧ x1 + (xs.length : Int) ≤ 100 := by have := h1.hx; lia
              obtain ⟨st4, W, hI⟩ := WP.w_takeA (fo := fo) (tx' := tx') (ta' := ta') (lo := lo) hs h1 hlt hl m5 hA hn hx' hc
              refine hTT.nx ⟨st4, (tl ++ F2, List.range' 0 P.many, .top (P.items.drop (a + 1)), _), W, ⟨hI, hr.trans ?_, Nat.le_trans ?_ hm, fun q hq => mR _ (hsF q hq)⟩, ?_⟩
              · rw [hl]; exact runA_arr_ok (by lia)
              · unfold mes
                rw [List.length_range']
                show _ + 6 * (1 + cost _) ≤ 0 + 6 * (1 + (1 + cost _))
                lia
              · show 1 + cost _ < lvM (.top (P.items.drop a))
                rw [hlm]; lia
            | ido m =>
              obtain ⟨hm3, jl, nj, aj, tg, f1, f2, f3, t, y1, y2, y3, y4, y5, y6, y7⟩ := hI
              have hlm : lvM (.top (P.items.drop a)) = 1 + (2 + 2 * m + cost (P.items.drop (a + 1))) := by rw [hdr]; rfl
              refine n_takeI Y1 O1 P l3 hxa hm3 (hsub _ y1) (hsub _ y4) (hsub _ y5) (hsub _ y6) (hsub _ y7) hE sE hF sF hO h1.h20 fun fr' ta' c0 d1 l1 q t' tb ts tk t1 t2 hn hs => ?_
              obtain ⟨st4, W, hI⟩ := WP.w_takeI (fo := fo) (tx := tx) (ta' := ta') (d1 := d1) (l1 := l1) (q := q) (t := t') (tb := tb) (ts := ts) (tk := tk) (t1 := t1) (t2 := t2) (m := m) hs h1 hlt hm3 ⟨mC _ (hsub _ y2), ⟨_, _, _, mC _ (hsub _ y3)⟩, ⟨_, _, _, mC _ (hsub _ y4)⟩, ⟨t1, t2, mS⟩⟩ hc
              refine hTT.nx ⟨st4, (F2, [], .inner (P.items.drop (a + 1)) false m, x1), W, ⟨hI, hr.trans runA_ido, Nat.le_trans ?_ hm, hsF⟩, ?_⟩
              · unfold mes
                show 0 + 6 * (2 + cost _ + 2 * m - 0) ≤ 0 + 6 * (1 + (2 + 2 * m + cost _))
                lia
              · show 2 + cost _ + 2 * m - 0 < lvM (.top (P.items.drop a))
                rw [hlm]; lia
          · have ha : a = P.xs.length := Nat.le_antisymm h2 hge
            have hnil : P.items.drop a = [] := List.drop_eq_nil_of_le (by rw [← hit.1]; exact hge)
            replace hr : runA P.y (stActs P.many es lv) x = runA P.y (stActs P.many [] (.top (P.items.drop a))) x1 := hr
            replace hm : mes [] (.top (P.items.drop a)) ≤ mes es lv := hm
            have hlm : lvM (.top (P.items.drop a)) = 1 := by rw [hnil]; rfl
            rw [hnil] at hr hm
            refine n_dropB Y1 O1 P l3 ha fun fr' hs => ?_
            obtain ⟨st4, W, hI⟩ := WP.w_dropB (fo := fo) (tx := tx) (ta := ta) (nl := nl) (ne := ne) (e := e) (n := n) hs h1 h2 hc
            exact hTT.nx ⟨st4, (F2, [], .non, x1), W, ⟨hI, hr, Nat.le_trans (by unfold mes; show 0 + 6 * 0 ≤ 0 + 6 * (1 + 0); lia) hm, hsF⟩, by show 0 < lvM (.top (P.items.drop a)); rw [hlm]; decide⟩
    | inner h1 h2 h3 h4 h5 h6 hc =>
      rename_i T vv tx tb tk ts ta its els n nl ne a nj k b e d1 l1 jl aj tg c0 q t fo
      have hsub : ∀ p ∈ T0, p ∈ T := fun p hp => h1.hT p (mR _ hp)
      cases es1 with
      | cons j es1 =>
        obtain ⟨p, y, rfl, hpl, hp5, hcom⟩ := h1.pop
        obtain ⟨pl, em, t0, t1, t2, rfl, hT, hem⟩ := hpl
        refine n_popI Y1 O1 P hp5 (h1.hT _ hT) fun v fr' => hTT.rt ⟨.r 25, _, WP.fr4, Weak.refl rfl, ExtP.refl _ _, rfl, fun q hq => (hfrm q hq).trans (by revert q; exact all_cons rfl (all_cons rfl (all_cons rfl (all_cons rfl all_nil)))), ?_⟩
        show K _ ⟨_, _, _, _, _, st.ce, _⟩
        rw [e2]
        exact k1 F2 es1 _ x1 _ v _ (.pl j) (WP.I.inner (fo := frm st) hcom h2 h3 h4 h5 h6 trivial) hsF ⟨_, t0, rfl, pl, em, t0, t1, t2, rfl, hT, hem⟩ (hr.trans runA_pop) (Nat.lt_of_lt_of_le (by unfold mes; rw [List.length_cons]; lia) hm)
      | nil =>
        obtain rfl := h1.nil
        cases k with
        | zero =>
          refine n_dropI Y1 O1 P fun fr' hs => ?_
          obtain ⟨st4, W, hI⟩ := WP.w_dropI hs h1 h2 hc
          have hb : b = false := by
            cases b with
            | false => rfl
            | true => exact absurd (h6 rfl) (by decide)
          subst hb
          refine hTT.nx ⟨st4, (F2, [], .top (P.items.drop a), x1), W, ⟨hI, hr.trans runA_drop, Nat.le_trans ?_ hm, hsF⟩, ?_⟩
          · unfold mes
            show 0 + 6 * (1 + cost _) ≤ 0 + 6 * (2 + cost _ + 0 - 0)
            lia
          · show 1 + cost _ < 2 + cost _ + 0 - 0
            lia
        | succ k =>
          have hk0 : ((k + 1 : Nat) : Int) ≠ 0 := by lia
          cases b with
          | false =>
            refine n_takeAI Y1 O1 P h3 hk0 hF sF h1.h20 m5 h1.hx hy (fun lo xs tl fr' tx' tb' hl hA hn hle hs => ?_) (fun hlt' news hcov hg hd => r_next r hr hsub h1.h20 h1.hi hc (runA_arrI_no hlt') hcov hg hd)
            have hx' : 0 ≤ x1 + (xs.length : Int) ∧ x1 + (xs.length : Int) ≤ 100 := by have := h1.hx; lia
            obtain ⟨st4, W, hI⟩ := WP.w_takeAI (fo := fo) (tx' := tx') (tb' := tb') (lo := lo) hs h1 h2 h3 h4 h5 (by lia) hl m5 hA hn hx' hc
            refine hTT.nx ⟨st4, (tl ++ F2, List.range' 0 P.many, .inner (P.items.drop a) true (k + 1), _), W, ⟨hI, hr.trans ?_, Nat.le_trans ?_ hm, fun q hq => mR _ (hsF q hq)⟩, ?_⟩
            · rw [hl]; exact runA_arrI_ok (by lia)
            · unfold mes
              rw [List.length_range']
              show _ + 6 * (2 + cost _ + 2 * (k + 1) - 1) ≤ 0 + 6 * (2 + cost _ + 2 * (k + 1) - 0)
              lia
            · show 2 + cost _ + 2 * (k + 1) - 1 < 2 + cost _ + 2 * (k + 1) - 0
              lia
          | true =>
            refine n_round Y1 O1 P h3 hk0 h4 (by lia) hF sF hO sO h1.h20 h1.hx hy (fun c1 fr' tx' tb' tk' t1 t2 hle hs => ?_) (fun hlt' news hcov hg hd => r_next r hr hsub h1.h20 h1.hi hc (runA_rnd_no hlt') hcov hg hd)
            have hx' : 0 ≤ x1 + 1 ∧ x1 + 1 ≤ 100 := by have := h1.hx; lia
            obtain ⟨st4, W, hI⟩ := WP.w_round (fo := fo) (tx' := tx') (tb' := tb') (tk' := tk') (c1 := c1) (t1 := t1) (t2 := t2) hs h1 h2 h3 (by lia) hx' (show ((k + 1 : Nat) : Int) - 1 = k by lia) hc
            refine hTT.nx ⟨st4, (F2, [], .inner (P.items.drop a) false k, _), W, ⟨hI, hr.trans (runA_rnd_ok hle), Nat.le_trans ?_ hm, hsF⟩, ?_⟩
            · unfold mes
              show 0 + 6 * (2 + cost _ + 2 * k - 0) ≤ 0 + 6 * (2 + cost _ + 2 * (k + 1) - 1)
              lia
            · show 2 + cost _ + 2 * k - 0 < 2 + cost _ + 2 * (k + 1) - 1
              lia
end
end
section
theorem CTc.go {G : GR} (HG : GrF G.K) {D U : Nat} {f : Addr} {vs : List Value} {sub : List (Addr × Obj)} {mu : List Addr} {post : Value → List (Addr × Obj) → Prop} {rais : Int → List (Addr × Obj) → Prop} {d : FD}
    (n : Nat) (ρ : List Addr) (ob : List RO) (tl : List (Addr × Obj)) (mui : List Nat) (rvs : List RV) (hf : FNS.lookup f = some d) (hd : d.ok = true) (hroom : Nat.ble D 900 = true)
    (hb : ∀ name qual doc pm an cdv ct, bindArgs (fnOf name qual d.params d.body d.scope .none .none doc pm an cdv ct) ⟨vs, []⟩ = pure ((d.params.args.map (·.arg)).zip vs)) (hv : rvs.map (RV.den ρ) = vs)
    (hs : ∀ q, q ∈ led (mkst ρ ob tl mui) ↔ q ∈ sub) (hl : ρ.length = ob.length) (hD : Dis (mkst ρ ob tl mui))
    (VC : ∀ (c : XC) (frames : List Env) (base : Heap), Uses G c frames base (D + 1) (U + 3) (ROwes sub mu rais) → c.Ok ⟨d.scope, GL, FS, TAB, ME, false⟩ → exS ⟨d.scope, GL, FS, TAB, ME, false⟩ c n d.body ⟨ρ, bindRV d.params rvs, ob, tl, mui, [], fun _ => none⟩ (EndX ⟨ρ, bindRV d.params rvs, ob, tl, mui, [], fun _ => none⟩ mu post)) : CTc G D U f vs sub mu post rais := by
  obtain ⟨name, qual, doc, pm, an, cdv, ct, oc, od, osl, ho, hcd⟩ := HG.fnAt hf
  unfold FD.ok at hd
  simp only [Bool.and_eq_true, Bool.not_eq_true', beq_iff_eq, List.all_eq_true, bne_iff_ne] at hd
  obtain ⟨hco, hgen, hk, hcell, hloc⟩ := hd
  refine CTc.ex HG n ⟨ρ, bindRV d.params rvs, ob, tl, mui, [], fun _ => none⟩ ho hcd (Nat.lt_of_le_of_lt (Nat.le_of_ble_eq_true hroom) (by decide)) (fun s => BindsTo.of_eq (hb ..)) (fun y hy => ?_) hco hgen hk hcell ?_ rfl hs hl rfl hD VC
  · obtain ⟨a, ha, e⟩ := mM (List.of_mem_zip (a := y.1) (b := y.2) hy).1
    rw [← e]; exact hloc a ha
  · rw [← hv]; exact zip_rev _ _ _
section
variable {G : GR} (HG : GrF G.K)
include HG
theorem i_level (il tg sv : Value) (k : Int) (tk : Tok) (x dx : Addr) (hne : x ≠ dx) : CTc G 800 2500 463 (.ref x :: [il, tg, sv, .int k tk]) [(x, instObj 466 dx), (dx, dictOf [] 0)] [dx] (fun v out => v = .none ∧ ∃ q t ta, out = [(dx, levD q t il tg 0 ta sv k tk)]) never := by
  refine CTc.go HG 40 [x, dx] [.inst 466 1, .dict [] 0] [] [1] [.r 0, .v il, .v tg, .v sv, .v (.int k tk)] rfl rfl rfl (fun _ _ _ _ _ _ _ => rfl) rfl (fun _ => Iff.rfl) rfl (Dis.of ⟨⟨⟨hne, trivial, trivial⟩, all_nil⟩, trivial⟩) ?_
  intro c frames base Y O
  refine exS_fin fun KK hKK => ?_
  intro q2 t3 t4 q3 t5 q4 t6 q5 t7 q6 t8
  subst hKK
  refine EndX.out [1] [1] [] rfl rfl (fun _ h => h) rfl rfl rfl rfl rfl rfl fun D => ?_
  exact ⟨rfl, five q2 q3 q4 q5 q6, five t3 t5 t6 t7 t8, t4, rfl⟩
omit HG in
theorem x_level {c : XC} {frames : List Env} {base : Heap} {D U : Nat} {R : Int → List (Addr × Obj) → Prop} {st : XS} {K : RV → XS → Prop} (Y : Uses G c frames base D U R) {il tg : RV} {sv : Value} {k : Int} {tk : Tok} (hw : st.wf = true) (h1 : il.wf st.ob.length = true) (h2 : tg.wf st.ob.length = true) (hD : Nat.ble (D + 1) 800 = true) (hU : Nat.ble (U + 4) 2500 = true)
    (kk : ∀ x dx q t ta, K (.r (st.ob.length + 1)) ((st.add dx (levE q t il tg 0 ta sv k tk)).add x (.inst 466 st.ob.length))) : DoC c (.ref 466) [il, tg, .v sv, .v (.int k tk)] st K := by
  obtain ⟨m1, m2, m3⟩ := Y.HG.mkAt (C := 466) rfl
  refine ⟨fun Q s z S hq => ?_⟩
  have g : ∀ {v : RV} {dx : Addr}, v.wf st.ob.length = true → v.den (st.ρ ++ [dx]) = v.den st.ρ := fun h => RV.den_grow (Nat.le_of_eq S.len.symm) _ _ h
  refine (Do.make Y m1 m2 m3 (fun x dx hne => i_level Y.HG (il.den st.ρ) (tg.den st.ρ) sv k tk x dx hne) hD hU hw (fun x dx v out hp => ?_) (rvs := [il, tg, .v sv, .v (.int k tk)])).run Q s z S hq
  obtain ⟨hv, q, t, ta, rfl⟩ := hp
  refine ⟨hv, levE q t il tg 0 ta sv k tk, ?_, ?_, kk x dx q t ta⟩
  · have : (levE q t il tg 0 ta sv k tk).den (st.ρ ++ [dx]) = levD q t (il.den st.ρ) (tg.den st.ρ) 0 ta sv k tk := by
      show dictOf _ 5 = dictOf _ 5
      simp only [List.map_cons, List.map_nil, entry, g h1, g h2]
      rfl
    rw [this]; exact mS
  · refine XS.wf_add hw ?_
    have up : ∀ {v : RV}, v.wf st.ob.length = true → v.wf (st.ob.length + 1) = true := fun h => RV.wf_up (Nat.le_succ _) h
    exact Bool.and_eq_true_iff.mpr ⟨up h1, Bool.and_eq_true_iff.mpr ⟨rfl, Bool.and_eq_true_iff.mpr ⟨up h2, rfl⟩⟩⟩
end
noncomputable def posJ : List Nat → Nat → Nat
  | [], _ => 0
  | j :: r, i => match Nat.beq j i with
    | true => 0
    | false => posJ r i + 1
noncomputable def hasJ : List Nat → Nat → Bool
  | [], _ => false
  | j :: r, i => match Nat.beq j i with
    | true => true
    | false => hasJ r i
theorem posJ_at : ∀ {js : List Nat} {i : Nat}, hasJ js i = true → js[posJ js i]? = some i
  | [], _, h => by exact ft_no h
  | j :: r, i, h => by
    unfold hasJ at h
    unfold posJ
    cases q : Nat.beq j i with
    | true => rw [Nat.eq_of_beq_eq_true q]; rfl
    | false =>
      rw [q] at h
      show (j :: r)[posJ r i + 1]? = _
      rw [List.getElem?_cons_succ]
      exact posJ_at h
noncomputable def RV.ren (js : List Nat) : RV → RV
  | .r i => .r (posJ js i)
  | .v x => .v x
noncomputable def RV.inJ (js : List Nat) : RV → Bool
  | .r i => hasJ js i
  | .v _ => true
noncomputable def RO.ren (js : List Nat) : RO → RO
  | .inst C d => .inst C (posJ js d)
  | .dict es n => .dict (es.map fun e => (e.1, e.2.1, e.2.2.1, e.2.2.2.ren js)) n
  | .tup vs => .tup (vs.map (RV.ren js))
  | .lst vs n => .lst vs n
  | .raw o => .raw o
noncomputable def RO.inJ (js : List Nat) : RO → Bool
  | .inst _ d => hasJ js d
  | .dict es _ => es.all fun e => e.2.2.2.inJ js
  | .tup vs => vs.all (RV.inJ js)
  | _ => true
theorem ren_at {ρ : List Addr} {js : List Nat} {i : Nat} (h : hasJ js i = true) : (js.map fun j => ρ.getD j 0).getD (posJ js i) 0 = ρ.getD i 0 := by
  have := posJ_at h
  rw [List.getD_eq_getElem?_getD, List.getElem?_map, this]; rfl
theorem RV.ren_den {ρ : List Addr} {js : List Nat} : ∀ {v : RV}, v.inJ js = true → (v.ren js).den (js.map fun j => ρ.getD j 0) = v.den ρ
  | .r _, h => congrArg Value.ref (ren_at h)
  | .v _, _ => rfl
theorem RO.ren_den {ρ : List Addr} {js : List Nat} : ∀ {o : RO}, o.inJ js = true → (o.ren js).den (js.map fun j => ρ.getD j 0) = o.den ρ
  | .inst C d, h => congrArg (instObj C) (ren_at h)
  | .dict es n, h => by
    show dictOf _ n = dictOf _ n
    rw [List.map_map]
    congr 1
    refine List.map_congr_left fun e he => ?_
    show DictEntry.mk _ _ _ = DictEntry.mk _ _ _
    rw [RV.ren_den (aT h e he)]
  | .tup vs, h => by
    show Obj.mk _ _ (.seq _ _) _ = Obj.mk _ _ (.seq _ _) _
    rw [List.map_map]
    congr 3
    exact List.map_congr_left fun v hv => RV.ren_den (aT h v hv)
  | .lst _ _, _ => rfl
  | .raw _, _ => rfl
theorem Weak.selR {st st3 : XS} (js mv : List Nat) (hl : st.ρ.length = st.ob.length) (h1 : st3.ρ = js.map fun j => st.ρ.getD j 0) (h2 : st3.ob = js.map fun j => (st.ob.getD j (.raw default)).ren js) (hin : js.all (fun j => (st.ob.getD j (.raw default)).inJ js) = true) (hj : js.all (fun j => Nat.blt j st.ob.length) = true) (hn : js.Nodup)
    (h3 : st3.ce = st.ce) (hce : st.ce.all (fun e => e.v.isNone) = true) (h4 : st3.fo = frm st) (hf : ∀ p ∈ st3.fr, frm st p.1 = some (p.2.den st3.ρ)) (ht : ∀ p ∈ st3.tl, p ∈ st.tl ∨ ∃ j ∈ mv, j < st.ob.length ∧ p = (st.ρ.getD j 0, (st.ob.getD j (.raw default)).den st.ρ))
    (hm : st3.mu.all (fun i => match js[i]? with
      | some j => st.mu.contains j && !mv.contains j
      | none => false) = true) : Weak st st3 :=
  Weak.sel js mv hl h1 (by
    rw [h2, h1, List.map_map]
    exact List.map_congr_left fun j hj' => RO.ren_den (aT hin j hj')) hj hn h3 hce h4 hf ht hm
end
section
theorem CT.goP {G : GR} (HG : GrF G.K) {D U : Nat} {f : Addr} {vs : List Value} {sub : List (Addr × Obj)} {mu : List Addr} {post : Value → List (Addr × Obj) → Prop} {rais : Int → List (Addr × Obj) → Prop} {d : FD}
    (n : Nat) (ρ : List Addr) (ob : List RO) (tl : List (Addr × Obj)) (mui : List Nat) (rvs : List RV) (hf : FNS.lookup f = some d) (hd : d.ok = true) (hroom : Nat.ble D 900 = true)
    (hb : ∀ name qual doc pm an cdv ct, bindArgs (fnOf name qual d.params d.body d.scope .none .none doc pm an cdv ct) ⟨vs, []⟩ = pure ((d.params.args.map (·.arg)).zip vs)) (hv : rvs.map (RV.den ρ) = vs)
    (hs : ∀ q, q ∈ led (mkst ρ ob tl mui) ↔ q ∈ sub) (hl : ρ.length = ob.length) (hD : Dis (mkst ρ ob tl mui))
    (VC : ∀ (c : XC) (frames : List Env) (base : Heap), Uses G c frames base (D + 1) (U + 3) (ROwes sub mu rais) → c.Ok ⟨d.scope, GL, FS, TAB, ME, false⟩ → c.pin = 0 → exS ⟨d.scope, GL, FS, TAB, ME, false⟩ c n d.body ⟨ρ, bindRV d.params rvs, ob, tl, mui, [], fun _ => none⟩ (EndX ⟨ρ, bindRV d.params rvs, ob, tl, mui, [], fun _ => none⟩ mu post)) : CT G D U f vs sub mu post rais :=
  CT.goK HG n ρ ob tl mui rvs hf hd hroom hb hv hs hl hD fun _ frames _ base _ _ _ _ _ _ _ _ _ _ _ Y O => VC _ frames base Y O rfl
theorem DoCR.weak {c : XC} {f : Value} {vs : List RV} {st st2 : XS} {K : RV → XS → Prop} (W : Weak st st2) (X : ExtP c.pin st st2) (ws : List Value) (h1 : vs.map (RV.den st.ρ) = ws) (h2 : vs.map (RV.den st2.ρ) = ws) (H : DoCR c f vs st2 K) : DoCR c f vs st K :=
  ⟨fun Q s z S hq => by
    rw [h1, ← h2]
    exact H.run Q s z (W.sat S) fun v st' h' tk' hk S' p' => hq v st' h' tk' hk S' (X.trans p')⟩
theorem DoCR.flat {c : XC} {f : Value} {vs : List RV} {st st2 : XS} {K : RV → XS → Prop} (h : st = st2) (H : DoCR c f vs st2 K) : DoCR c f vs st K := h ▸ H
theorem DoCR.sat {c : XC} {f : Value} {vs : List RV} {st : XS} {K : RV → XS → Prop} (H : st.ρ.length = st.ob.length → Dis st → DoCR c f vs st K) : DoCR c f vs st K := ⟨fun Q s z S hq => (H S.len S.D).run Q s z S hq⟩
theorem ExtP.zero {c : XC} {st st' : XS} (h0 : c.pin = 0) (hc : st'.ce = st.ce) : ExtP c.pin st st' := ⟨fun i a hi _ => absurd (h0 ▸ hi) (Nat.not_lt_zero _), by rw [hc]⟩
theorem led_keep {st st' : XS} (mui : List Nat) (hρ : st'.ρ = st.ρ) (hk : keepL mui 0 st.ob = keepL mui 0 (st'.ob.take st.ob.length)) (ht : ∀ p ∈ st.tlc, p ∈ st'.tlc) : ∀ q ∈ led st, (∃ j, j ∈ mui ∧ st.ρ[j]? = some q.1) ∨ q ∈ led st' := fun q hq => by
  rcases led_at hq with ⟨j, o, h1, h2, h3⟩ | h
  · cases hj : mui.contains j with
    | true => exact .inl ⟨j, by simpa using hj, h1⟩
    | false =>
      have := led_of (st := st') (hρ ▸ h1) (keep_is hk h2 hj)
      rw [hρ, ← h3] at this
      exact .inr this
  · exact .inr (mR _ (ht q h))
namespace WP
variable (P : WP)
inductive J (T0 : List (Addr × Obj)) (its0 : List Value) (r0 : Except Int (List El × Int)) (o : Option (Addr × RO × El)) (m : Nat) (st : XS) : Prop
  | mk (F : List (Addr × Obj)) (es : List Nat) (lv : Lv) (x : Int) (fs : List El) (fv : List Value) (nf : Nat) (st' : XS) (hI : P.I T0 its0 fr4 fv nf (fun _ => True) F es lv x st') (hF : FoundAt (F ++ T0) fs fv) (hl : fs.length + m ≤ 200) (h : match o with
    | none => m = 0 ∧ es = [] ∧ lv = .non ∧ r0 = .ok (fs, x) ∧ st = st'.put (Str.ofString "item") (.v .none)
    | some (p, o, el) => m = 1 + mes es lv ∧ ElemV (F ++ T0) el o ∧ r0 = pres (fs ++ [el]) (runA P.y (stActs P.many es lv) x) ∧ st = (st'.add p o).put (Str.ofString "item") (.r st'.ob.length))
theorem J.ce {T0 : List (Addr × Obj)} {its0 : List Value} {r0 : Except Int (List El × Int)} {o : Option (Addr × RO × El)} {m : Nat} {st : XS} (h : P.J T0 its0 r0 o m st) : st.ce = [] := by
  obtain ⟨F, es, lv, x, fs, fv, nf, st', hI, _, _, h⟩ := h
  cases o with
  | none => rw [h.2.2.2.2]; exact hI.den.2.1
  | some o => obtain ⟨p, o, el⟩ := o; rw [h.2.2.2]; exact hI.den.2.1
end WP
noncomputable abbrev xt6 : XT := ⟨fd_526.scope, GL, FS, TAB, ME, false⟩
section
variable {G : GR} {c : XC} {frames : List Env} {base : Heap} {R : Int → List (Addr × Obj) → Prop} {K : RF → XS → Prop} (Y : Uses G c frames base 401 903 R) (O : c.Ok xt6)
include Y O
set_option tactic.hygienic true in
theorem w_loop (P : WP) {T0 : List (Addr × Obj)} {its0 : List Value} (hpin : c.pin = 0) (hP : P.Ok G.w T0) {r0 : Except Int (List El × Int)} {o : Option (Addr × RO × El)} {m : Nat} {st : XS} (h : P.J T0 its0 r0 o m st)
    (kend : ∀ F x fs fv nf st', P.I T0 its0 WP.fr4 fv nf (fun _ => True) F [] .non x st' → FoundAt (F ++ T0) fs fv → r0 = .ok (fs, x) → K (.ret (.r 22)) (st'.put (Str.ofString "item") (.v .none)))
    (r : ∀ k news, r0 = .error k → (∃ tx, (P.a 1, P.runO k tx) ∈ news) → (∃ (x1 : Int) (tx1 : Tok) (its : List Value) (n : Nat), its.length = 20 ∧ (∀ i : Nat, i ≠ 0 → its[i]? = its0[i]?) ∧ ∀ q ∈ led (P.st0 [] T0 x1 tx1 its n), q.1 = P.a 1 ∨ q ∈ news) → R k news) : exS xt6 c 37 (fd_526.body.drop 3) st K := by
  refine DoF.while O rfl (ι := Option (Addr × RO × El) × Nat) (fun i s => P.J T0 its0 r0 i.1 i.2 s) (fun i => i.2) 30 (fun i s hi => ExtP.zero hpin (by rw [hi.ce, h.ce])) (o, m) h ?_
  rintro ⟨o1, m1⟩ st1 ⟨F, es, lv, x, fs, fv, nf, st', hI, hF, hm, hc⟩ TT hTT
  dsimp only at hm hc ⊢
  cases o1 with
  | none =>
    obtain ⟨rfl, rfl, rfl, hr, rfl⟩ := hc
    have key := kend F x fs fv nf st' hI hF hr
    generalize hlv : Lv.non = lv at hI
    cases hI with
    | base lb h1 h2 hc => exact hTT.bk key
    | inner h1 h2 h3 h4 h5 h6 hc => cases hlv
  | some o1 =>
    obtain ⟨p, o1, el⟩ := o1
    obtain ⟨rfl, hE, hr, rfl⟩ := hc
    obtain ⟨vs, rfl, hE'⟩ : ∃ vs, o1 = .tup vs ∧ ∀ (T' : List (Addr × Obj)), (∀ q ∈ F ++ T0, q ∈ T') → (p, tupO (vs.map (RV.den [])).toArray) ∈ T' → (∀ ρ, vs.map (RV.den ρ) = vs.map (RV.den [])) ∧ ElemIs T' el (.ref p) := by
      cases el with
      | pl k =>
        obtain ⟨y, t, rfl, hy⟩ := hE
        exact ⟨_, rfl, fun T' hs hp => ⟨fun _ => rfl, p, y, t, rfl, hp, hy.mono hs⟩⟩
      | con a =>
        obtain ⟨t, rfl⟩ := hE
        exact ⟨_, rfl, fun T' hs hp => ⟨fun _ => rfl, p, t, rfl, hp⟩⟩
    have hfl : fv.length ≤ 1000 := by rw [hF.len]; lia
    have tupden : ∀ ρ, (RO.tup vs).den ρ = tupO (vs.map (RV.den [])).toArray := fun ρ => by
      show Obj.mk _ _ (.seq _ _) _ = _
      rw [(hE' ((p, tupO (vs.map (RV.den [])).toArray) :: (F ++ T0)) (fun q hq => mC _ hq) mS).1 ρ]
    have com : ∀ {T : List (Addr × Obj)} {its els : List Value}, P.Com T0 its0 F T its els es x → P.Fresh T0 p → P.Com T0 its0 ((p, tupO (vs.map (RV.den [])).toArray) :: F) ((p, tupO (vs.map (RV.den [])).toArray) :: T) its els es x := fun h hp =>
      ⟨fun q hq => (mK hq).elim (fun e => e ▸ mS) fun hq => mC _ (h.hT q hq), all_cons hp h.hF, h.hE.mono fun q hq => mC _ hq, h.h5, h.h20, h.hi, h.hx⟩
    have hF2 : FoundAt (((p, tupO (vs.map (RV.den [])).toArray) :: F) ++ T0) (fs ++ [el]) (fv ++ [.ref p]) := (hF.mono fun q hq => mC _ hq).app ⟨_, [], rfl, (hE' _ (fun q hq => mC _ hq) mS).2, rfl⟩
    have hlen : (fs ++ [el]).length = fs.length + 1 := by rw [List.length_append]; rfl
    have mono : ∀ {F' : List (Addr × Obj)}, (∀ q ∈ (p, tupO (vs.map (RV.den [])).toArray) :: F, q ∈ F') → ∀ q ∈ ((p, tupO (vs.map (RV.den [])).toArray) :: F) ++ T0, q ∈ F' ++ T0 := fun h q hq => (mA hq).elim (fun hq => mL _ (h q hq)) fun hq => mR _ hq
    -- what next gives, taken up
    have go : ∀ {st2 : XS}, P.I T0 its0 WP.fr4 (fv ++ [.ref p]) (nf + 1) (fun _ => True) ((p, tupO (vs.map (RV.den [])).toArray) :: F) es lv x st2 → DoCR c (.ref 505) [.r 17] st2 fun v st1 => exStore xt6 c (Str.ofString "item") v st1 fun _ st2 => TT .next st2 := fun hI => by
      refine u_next Y P (by rw [hpin]; decide) hP hI (all_cons rfl (all_cons rfl (all_cons rfl (all_cons rfl all_nil)))) (fun F' x' st' hI' hs' hr' => ?_) (fun F' es' lv' x' st' p' o' el' hI' hs' hE' hr' hm' => ?_) fun k news hn => ?_
      · exact hTT.nx ⟨_, (none, 0), Weak.refl hI'.den.2.2.2.2.1, ⟨F', [], .non, x', fs ++ [el], _, _, st', hI', hF2.mono (mono hs'), by lia, rfl, rfl, rfl, by rw [hr, hr']; show Except.ok (_ ++ [], _) = _; rw [List.append_nil], rfl⟩, by show 0 < 1 + mes es lv; lia⟩
      · refine hTT.nx ⟨_, (some (p', o', el'), 1 + mes es' lv'), Weak.refl ?_, ⟨F', es', lv', x', fs ++ [el], _, _, st', hI', hF2.mono (mono hs'), by dsimp only; lia, rfl, hE', by rw [hr, hr', pre1_pres, pres_pres], rfl⟩, by show 1 + mes es' lv' < 1 + mes es lv; lia⟩
        show (st'.ρ ++ [p']).length = (st'.ob ++ [o']).length
        rw [List.length_append, List.length_append, hI'.den.2.2.2.2.1]; rfl
      · exact r k news (by rw [hr, hn.run]; rfl) hn.rd hn.grd
    cases hI with
    | base lb h1 h2 hc =>
      rename_i T tx its els n nl ne a e ta fo
      refine x_append (i := 22) rfl rfl hfl ?_
      refine DoCR.sat fun hl D => ?_
      have hp : P.Fresh T0 p := by
        obtain ⟨d1, d2⟩ := D 23 p (List.Mem.head _) rfl
        refine ⟨fun a ha => ?_, NeAll.of fun q hq => d2 q (h1.hT q (mR _ hq))⟩
        obtain ⟨i, hi⟩ := List.mem_iff_getElem?.mp ha
        have hi16 : i < 16 := (gS hi).1
        exact d1 i a (pre_at (l := P.gr16) (as := [P.o.wd, P.o.ww, P.o.lv, e, P.o.d0, P.o.l0, P.o.fd, p]) rfl hi) (by lia)
      refine DoCR.weak (st2 := P.stB WP.fr4 _ ((p, tupO (vs.map (RV.den [])).toArray) :: T) x tx its n e (if lb then [.ref P.o.l0] else []) nl els ne a ta (fv ++ [.ref p]) (nf + 1)) (Weak.of 23 [23] rfl rfl rfl rfl rfl rfl rfl (all_cons rfl (all_cons rfl (all_cons rfl (all_cons rfl all_nil)))) (all_cons (.inr ⟨23, List.Mem.head _, Nat.le_of_ble_eq_true rfl, congrArg (Prod.mk p) (tupden _).symm⟩) fun q hq => .inl hq) rfl) (ExtP.zero hpin rfl) [.ref P.o.ww] rfl rfl ?_
      exact go (.base lb (com h1 hp) h2 trivial)
    | inner h1 h2 h3 h4 h5 h6 hc =>
      rename_i T vv tx tb tk ts ta its els n nl ne a nj k b e d1 l1 jl aj tg c0 q t fo
      refine x_append (i := 22) rfl rfl hfl ?_
      refine DoCR.sat fun hl D => ?_
      have hp : P.Fresh T0 p := by
        obtain ⟨g1, g2⟩ := D 25 p (List.Mem.head _) rfl
        refine ⟨fun a ha => ?_, NeAll.of fun q hq => g2 q (h1.hT q (mR _ hq))⟩
        obtain ⟨i, hi⟩ := List.mem_iff_getElem?.mp ha
        have hi16 : i < 16 := (gS hi).1
        exact g1 i a (pre_at (l := P.gr16) (as := [P.o.wd, P.o.ww, P.o.lv, e, P.o.d0, P.o.l0, P.o.fd, d1, l1, p]) rfl hi) (by lia)
      refine DoCR.weak (st2 := P.stI WP.fr4 _ ((p, tupO (vs.map (RV.den [])).toArray) :: T) x tx its n e nl els ne a ta (fv ++ [.ref p]) (nf + 1) d1 l1 jl tg q t (if b then 1 else 0) tb ts k tk) (Weak.of 25 [25] rfl rfl rfl rfl rfl rfl rfl (all_cons rfl (all_cons rfl (all_cons rfl (all_cons rfl all_nil)))) (all_cons (.inr ⟨25, List.Mem.head _, Nat.le_of_ble_eq_true rfl, congrArg (Prod.mk p) (tupden _).symm⟩) fun q hq => .inl hq) rfl) (ExtP.zero hpin rfl) [.ref P.o.ww] rfl rfl ?_
      exact go (.inner (com h1 hp) h2 (h3.mono fun q hq => mC _ hq) h4 h5 h6 trivial)
end
end
section
theorem cost_le : ∀ {items : List (Itm × Addr)}, (∀ it ∈ items, ∀ n, it.1 = .ido n → n ≤ 3) → cost items ≤ 8 * items.length
  | [], _ => Nat.zero_le _
  | (.ido n, a) :: r, h => by
    have h1 := h _ mS n rfl
    have h2 := cost_le (items := r) fun it hi => h it (mC _ hi)
    show 2 + 2 * n + cost r ≤ 8 * (r.length + 1)
    lia
  | (.arr, a) :: r, h => by
    have h2 := cost_le (items := r) fun it hi => h it (mC _ hi)
    show 1 + cost r ≤ 8 * (r.length + 1)
    lia
  | (.con, a) :: r, h => by
    have h2 := cost_le (items := r) fun it hi => h it (mC _ hi)
    show 1 + cost r ≤ 8 * (r.length + 1)
    lia
theorem items_cost {T : List (Addr × Obj)} {items : List (Itm × Addr)} {xs : List Value} (h : ItemsAt T items xs) (h3 : xs.length ≤ 3) : cost items ≤ 30 := by
  have hl := h.1
  have := cost_le (items := items) fun it hi n e => by
    obtain ⟨i, hi⟩ := List.getElem?_of_mem hi
    have hil : i < items.length := by
      rcases Nat.lt_or_ge i items.length with h | h
      · exact h
      · rw [List.getElem?_eq_none h] at hi; cases hi
    have := h.2 i it xs[i] hi (List.getElem?_eq_getElem (by lia))
    obtain ⟨k, a⟩ := it
    cases e
    exact this.2.1
  lia
inductive WalkPost (a1 a6 : Addr) (rO : Int → Tok → Obj) (y : Int) (acts : List Act) (T0 : List (Addr × Obj)) (its0 : List Value) (x0 : Int) (r : Value) (out : List (Addr × Obj)) : Prop
  | mk (fs : List El) (fd : Addr) (fv : List Value) (nf : Nat) (x' : Int) (tx' : Tok) (its : List Value) (n' : Nat) (T1 : List (Addr × Obj)) (hr : r = .ref fd) (ho : out = (a1, rO x' tx') :: (a6, listOf its.toArray n') :: (fd, listOf fv.toArray nf) :: T1) (hF : FoundAt (T1 ++ T0) fs fv) (hrun : runA y acts x0 = .ok (fs, x')) (hx : 0 ≤ x' ∧ x' ≤ 100) (h20 : its.length = 20) (hi : ∀ (i : Nat), i ≠ 0 → its[i]? = its0[i]?) (hne : ∀ p ∈ (fd, listOf fv.toArray nf) :: T1, p.1 ≠ a1 ∧ p.1 ≠ a6)
noncomputable abbrev walkPost (P : WP) := WalkPost (P.a 1) (P.a 6) P.runO P.y (itemsActs P.many P.items)
inductive WalkRais (a1 a6 : Addr) (rO : Int → Tok → Obj) (y : Int) (acts : List Act) (its0 : List Value) (x0 : Int) (k : Int) (out : List (Addr × Obj)) : Prop
  | mk (hrun : runA y acts x0 = .error k) (tx' : Tok) (its : List Value) (n' : Nat) (ho : out = [(a1, rO k tx'), (a6, listOf its.toArray n')]) (h20 : its.length = 20) (hi : ∀ (i : Nat), i ≠ 0 → its[i]? = its0[i]?)
noncomputable abbrev walkRais (P : WP) := WalkRais (P.a 1) (P.a 6) P.runO P.y (itemsActs P.many P.items)
section
variable (P : WP) (T0 : List (Addr × Obj)) (its0 : List Value) (n0 : Nat) (x0 : Int) (tx0 : Tok)
theorem walk_keep (x1 : Int) (tx1 : Tok) (its : List Value) (n : Nat) : ∀ q ∈ led (P.st0 [] T0 x0 tx0 its0 n0), q.1 ∈ [P.a 1, P.a 6] ∨ q ∈ led (P.st0 [] T0 x1 tx1 its n) := fun q hq => by
  rcases led_keep (st := P.st0 [] T0 x0 tx0 its0 n0) (st' := P.st0 [] T0 x1 tx1 its n) [1, 6] rfl rfl (fun _ h => h) q hq with ⟨j, hj, e⟩ | h
  · refine .inl ?_
    rcases mK hj with rfl | hj
    · have e : P.a 1 = q.1 := Option.some.inj e
      rw [← e]; exact List.Mem.head _
    · cases mG hj
      have e : P.a 6 = q.1 := Option.some.inj e
      rw [← e]; exact List.Mem.tail _ (List.Mem.head _)
  · exact .inr h
theorem walk_owes (n61 : P.a 6 ≠ P.a 1) (k : Int) (news : List (Addr × Obj)) (hk : runA P.y (itemsActs P.many P.items) x0 = .error k) (h1 : ∃ tx, (P.a 1, P.runO k tx) ∈ news) (h2 : ∃ (x1 : Int) (tx1 : Tok) (its : List Value) (n : Nat), its.length = 20 ∧ (∀ i : Nat, i ≠ 0 → its[i]? = its0[i]?) ∧ ∀ q ∈ led (P.st0 [] T0 x1 tx1 its n), q.1 = P.a 1 ∨ q ∈ news) :
    ROwes (led (P.st0 [] T0 x0 tx0 its0 n0)) [P.a 1, P.a 6] (walkRais P its0 x0) k news := by
  obtain ⟨tx, hd⟩ := h1
  obtain ⟨x1, tx1, its, n, h20, hi, hg⟩ := h2
  have h6 : (P.a 6, listOf its.toArray n) ∈ news := (hg _ (mem_led (st := P.st0 [] T0 x1 tx1 its n) (i := 6) rfl rfl)).resolve_left n61
  refine ⟨[(P.a 1, P.runO k tx), (P.a 6, listOf its.toArray n)], fun q hq => ?_, fun q hq => ?_, all_cons ⟨hd, .inl (List.Mem.head _)⟩ (all_cons ⟨h6, .inl (List.Mem.tail _ (List.Mem.head _))⟩ all_nil), hk, tx, its, n, rfl, h20, hi⟩
  · rcases walk_keep P T0 its0 n0 x0 tx0 x1 tx1 its n q hq with h | h
    · exact .inl h
    · rcases hg q h with h | h
      · rw [h]; exact .inl (List.Mem.head _)
      · exact .inr h
  · have : q.1 ∈ (led (P.st0 [] T0 x1 tx1 its n)).map (·.1) := by
      rcases led_at hq with ⟨j, o, h1, _, _⟩ | h
      · exact led_adr (st := P.st0 [] T0 x1 tx1 its n) rfl h1
      · exact List.mem_map_of_mem (mR _ h)
    obtain ⟨q', hq', e⟩ := mM this
    rw [← e]
    rcases hg q' hq' with h | h
    · rw [h]; exact List.mem_map.mpr ⟨_, hd, rfl⟩
    · exact List.mem_map_of_mem h
set_option tactic.hygienic true in
theorem walk_end {F : List (Addr × Obj)} {x : Int} {fs : List El} {fv : List Value} {nf : Nat} {st' : XS} {fr : List (Str × RV)} (hI : P.I T0 its0 WP.fr4 fv nf (fun _ => True) F [] .non x st') (hF : FoundAt (F ++ T0) fs fv) (hr : runA P.y (itemsActs P.many P.items) x0 = .ok (fs, x)) :
    EndX (P.st0 fr T0 x0 tx0 its0 n0) [P.a 1, P.a 6] (walkPost P T0 its0 x0) (.ret (.r 22)) (st'.put (Str.ofString "item") (.v .none)) := by
  generalize hlv : Lv.non = lv at hI
  cases hI with
  | inner h1 h2 h3 h4 h5 h6 hc => cases hlv
  | base lb h1 h2 hc =>
    rename_i T tx its els n nl ne a e ta fo
    have hsub : ∀ p ∈ T0, p ∈ T := fun p hp => h1.hT p (mR _ hp)
    refine ⟨fun D => ?_⟩
    have sub1 : ∀ q ∈ led (P.st0 [] T0 x tx its n), q ∈ led ((P.stB WP.fr4 fo T x tx its n e (if lb then [.ref P.o.l0] else []) nl els ne a ta fv nf).put (Str.ofString "item") (.v .none)) := led_sub [P.o.wd, P.o.ww, P.o.lv, e, P.o.d0, P.o.l0, P.o.fd] _ rfl rfl hsub rfl rfl
    have fd22 : ∀ q ∈ led (P.st0 fr T0 x0 tx0 its0 n0), q.1 ≠ P.o.fd := fun q hq => by
      obtain ⟨d1, d2⟩ := D 22 P.o.fd (List.Mem.tail _ (List.Mem.tail _ (List.Mem.tail _ (List.Mem.tail _ (List.Mem.tail _ (List.Mem.tail _ (List.Mem.head _))))))) rfl
      rcases led_at hq with ⟨j, o, g1, g2, _⟩ | h
      · have hj : j < 16 := (gS g1).1
        exact d1 j q.1 (pre_at (l := P.gr16) (as := [P.o.wd, P.o.ww, P.o.lv, e, P.o.d0, P.o.l0, P.o.fd]) rfl g1) (by lia)
      · exact d2 q (hsub q h)
    have frF : ∀ p ∈ F, ∀ q ∈ led (P.st0 fr T0 x0 tx0 its0 n0), q.1 ≠ p.1 := fun p hp q hq => by
      obtain ⟨f1, f2⟩ := h1.hF p hp
      rcases led_at hq with ⟨j, o, g1, _, _⟩ | h
      · exact f1 q.1 (List.mem_of_getElem? g1)
      · exact f2.all q h
    refine ⟨(P.a 1, P.runO x tx) :: (P.a 6, listOf its.toArray n) :: (P.o.fd, listOf fv.toArray nf) :: F, fun q hq => ?_, all_cons ⟨sub1 _ (mem_led (st := P.st0 [] T0 x tx its n) (i := 1) rfl rfl), .inl (List.Mem.head _)⟩ (all_cons ⟨sub1 _ (mem_led (st := P.st0 [] T0 x tx its n) (i := 6) rfl rfl), .inl (List.Mem.tail _ (List.Mem.head _))⟩ (all_cons ⟨mem_led (st := (P.stB WP.fr4 fo T x tx its n e (if lb then [.ref P.o.l0] else []) nl els ne a ta fv nf).put (Str.ofString "item") (.v .none)) (i := 22) rfl rfl, .inr fd22⟩ fun q hq => ⟨tl_mem (h1.hT q (mL _ hq)), .inr (frF q hq)⟩)),
      fs, P.o.fd, fv, nf, x, tx, its, n, F, rfl, rfl, hF, hr, h1.hx, h1.h20, h1.hi, all_cons ⟨fun e => fd22 _ (mem_led (st := P.st0 fr T0 x0 tx0 its0 n0) (i := 1) rfl rfl) e.symm, fun e => fd22 _ (mem_led (st := P.st0 fr T0 x0 tx0 its0 n0) (i := 6) rfl rfl) e.symm⟩ fun p hp => ⟨fun e => frF p hp _ (mem_led (st := P.st0 fr T0 x0 tx0 its0 n0) (i := 1) rfl rfl) e.symm, fun e => frF p hp _ (mem_led (st := P.st0 fr T0 x0 tx0 its0 n0) (i := 6) rfl rfl) e.symm⟩⟩
    exact (walk_keep P T0 its0 n0 x0 tx0 x tx its n q hq).imp id (sub1 q)
end
section
variable {G : GR} (HG : GrF G.K) (P : WP)
include HG
set_option tactic.hygienic true in
theorem c_walked (T0 : List (Addr × Obj)) (its0 : List Value) (n0 : Nat) (x0 : Int) (tx0 : Tok) (hP : P.Ok G.w T0) (h20 : its0.length = 20) (hx : 0 ≤ x0 ∧ x0 ≤ 100) (hn1 : ∀ (j : Nat) (b : Addr), P.gr16[j]? = some b → j ≠ 1 → b ≠ P.a 1) (hn2 : ∀ (j : Nat) (b : Addr), P.gr16[j]? = some b → j ≠ 6 → b ≠ P.a 6) (hn3 : NeAll (P.a 1) T0) (hn4 : NeAll (P.a 6) T0) :
    CT G 400 900 526 [.ref (P.a 0), .ref (P.a 15)] (led (P.st0 [] T0 x0 tx0 its0 n0)) [P.a 1, P.a 6]
      (walkPost P T0 its0 x0) (walkRais P its0 x0) := by
  refine CT.goP HG 40 P.gr16 (P.grd x0 tx0 its0 n0) T0 [1, 6] [.r 0, .r 15] rfl rfl rfl (fun _ _ _ _ _ _ _ => rfl) rfl (fun _ => Iff.rfl) rfl ?_ ?_
  · intro i a hi ha
    rcases mK hi with rfl | hi
    · cases ha; exact ⟨hn1, hn3.all⟩
    · cases mG hi
      cases ha; exact ⟨hn2, hn4.all⟩
  intro c frames base Y O hpin
  refine DoC.cls Y 40 rfl rfl rfl rfl rfl rfl (fun _ _ _ _ _ _ _ _ _ => rfl) fun ww wd c1 F1 B1 Y1 O1 hp => ?_
  intro q1 t1 t2
  refine x_level Y1 rfl rfl rfl rfl rfl fun l0 d0 q' t' ta => ?_
  intro lv q7 t9 el q8 t10 fd
  refine DoCR.flat (st2 := ⟨P.gr16 ++ [wd, ww, d0, l0, lv, el, fd], [(Str.ofString "found", .r 22), (Str.ofString "walk", .r 17), (Str.ofString "items", .r 15), (Str.ofString "run", .r 0)], P.grd x0 tx0 its0 n0 ++ [.dict [(q1, Str.ofString "run", t1, .r 0), (q7, Str.ofString "levels", t9, .r 20), (q8, Str.ofString "elements", t10, .r 21)] 3, .inst 515 16, levE q' t' (.r 15) (.v .none) 0 ta .none 1 t2, .inst 466 18, .lst [.ref l0] 0, .lst [] 0, .lst [] 0], T0, [22, 21, 20, 19, 18, 17, 16, 1, 6], [], fun _ => none⟩) rfl ?_
  refine DoCR.weak (st2 := ⟨P.gr16 ++ [wd, ww, lv, el, d0, l0, fd], WP.fr4, P.grd x0 tx0 its0 n0 ++ [.dict [(q1, Str.ofString "run", t1, .r 0), (q7, Str.ofString "levels", t9, .r 18), (q8, Str.ofString "elements", t10, .r 19)] 3, .inst 515 16, .lst [.ref l0] 0, .lst [] 0, levE q' t' (.r 15) (.v .none) 0 ta .none 1 t2, .inst 466 20, .lst [] 0], T0, [1, 6, 16, 18, 19, 20, 22], [], _⟩)
    (Weak.selR [0, 1, 2, 3, 4, 5, 6, 7, 8, 9, 10, 11, 12, 13, 14, 15, 16, 17, 20, 21, 18, 19, 22] [] rfl rfl rfl rfl rfl (by decide) rfl rfl rfl (all_cons rfl (all_cons rfl (all_cons rfl (all_cons rfl all_nil)))) (fun p hp => .inl hp) rfl) (ExtP.zero hpin rfl) [.ref ww] rfl rfl ?_
  let P' : WP := { P with o := ⟨wd, ww, lv, d0, l0, fd, five q1 q7 q8 q1 q1, q', five t1 t9 t10 t1 t1, fun i => match i with | 5 => t2 | i => t' i⟩ }
  refine DoCR.flat (st2 := P'.stB WP.fr4 _ T0 x0 tx0 its0 n0 el [.ref l0] 0 [] 0 (0 : Nat) ta [] 0) rfl ?_
  have hP' : P'.Ok G.w T0 := ⟨hP.m5, hP.it, hP.l3, hP.y, hP.hE, hP.sE, hP.hF, hP.sF, hP.hO, hP.sO⟩
  have hcost := items_cost hP.it hP.l3
  have hit : (0 : Nat) + (1 + mes [] (.top P.items)) ≤ 200 := by unfold mes; show 0 + (1 + (0 + 6 * (1 + cost P.items))) ≤ 200; lia
  refine u_next Y P' (by rw [hpin]; decide) hP' (WP.I.base (F := []) (es := []) true ⟨fun p hp => hp, all_nil, rfl, Nat.zero_le _, h20, fun _ _ => rfl, hx⟩ (Nat.zero_le _) trivial) (all_cons rfl (all_cons rfl (all_cons rfl (all_cons rfl all_nil)))) (fun F x st' hI hs hr => ?_) (fun F es lv x st' p o el hI hs hE hr hm => ?_) fun k news hn => walk_owes P T0 its0 n0 x0 tx0 (hn1 6 (P.a 6) rfl (by decide)) k news hn.run hn.rd hn.grd
  · exact w_loop Y O P' hpin hP' (r0 := runA P.y (itemsActs P.many P.items) x0) (o := none) (m := 0) ⟨F, [], .non, x, [], [], 0, st', hI, rfl, by decide, rfl, rfl, rfl, hr, rfl⟩ (fun F x fs fv nf st' hI hF hr => walk_end P' T0 its0 n0 x0 tx0 hI hF hr) (fun k news => walk_owes P T0 its0 n0 x0 tx0 (hn1 6 (P.a 6) rfl (by decide)) k news)
  · refine w_loop Y O P' hpin hP' (r0 := runA P.y (itemsActs P.many P.items) x0) (o := some (p, o, el)) (m := 1 + mes es lv) ⟨F, es, lv, x, [], [], 0, st', hI, rfl, ?_, rfl, hE, ?_, rfl⟩ (fun F x fs fv nf st' hI hF hr => walk_end P' T0 its0 n0 x0 tx0 hI hF hr) (fun k news => walk_owes P T0 its0 n0 x0 tx0 (hn1 6 (P.a 6) rfl (by decide)) k news)
    · have hm : mes es lv < mes [] (.top P.items) := hm
      show 0 + (1 + mes es lv) ≤ 200
      lia
    · exact hr.trans (pre1_pres _ _)
end
end
section
theorem upd_zipF {d : Addr} {o : Obj} {f : Obj → Obj} {tl : List (Addr × Obj)} (h4 : ∀ p ∈ tl, p.1 ≠ d) : ∀ {ρ : List Addr} {os : List Obj} {i : Nat}, ρ[i]? = some d → os[i]? = some o → (∀ j b, ρ[j]? = some b → j ≠ i → b ≠ d) → UpdF d o (ρ.zip os ++ tl) fun o' => ρ.zip (os.set i o') ++ tl
  | a :: ρ, x :: os, 0, h1, h2, h3 => by
    cases h1; cases h2
    refine .head fun p hp => ?_
    rcases mA hp with q | q
    · obtain ⟨j, hj⟩ := zip_at q
      exact h3 (j + 1) _ hj (Nat.succ_ne_zero _)
    · exact h4 p q
  | a :: ρ, x :: os, i + 1, h1, h2, h3 => .tail (h3 0 a rfl (Nat.succ_ne_zero _).symm) (upd_zipF (f := f) h4 h1 h2 fun j b hj hne => h3 (j + 1) b hj fun q => hne (Nat.succ.inj q))
  | [], _, _, h1, _, _ => by simp at h1
  | _ :: _, [], _, _, h2, _ => by simp at h2
set_option tactic.hygienic true in
theorem Sat.updF {c : XC} {st : XS} {h : Heap} (S : Sat c st h) {i : Nat} {o : RO} (e : st.ob[i]? = some o) (hi : i ∈ st.mu) : UpdF (st.ρ.getD i 0) (o.den st.ρ) (led st) fun o' => led (st.set i (.raw o')) := by
  obtain ⟨d1, d2⟩ := S.D i _ hi (S.at e)
  have := upd_zipF (f := id) (os := st.ob.map (RO.den st.ρ)) d2 (S.at e) (by rw [List.getElem?_map, e]; rfl) d1
  have e2 : (fun o' => st.ρ.zip ((st.ob.map (RO.den st.ρ)).set i o') ++ st.tlc) = fun o' => led (st.set i (.raw o')) := funext fun o' => by
    show _ = st.ρ.zip ((st.ob.set i (.raw o')).map (RO.den st.ρ)) ++ _
    rw [List.map_set]; rfl
  rw [e2] at this
  exact this
section
variable {c : XC} {xt : XT} (O : c.Ok xt) {st : XS}
section
variable {α : Type} [DecidableEq α] {knd : KeyKind c.prog c.w α} {o : Obj} {kvs : List (α × Value)} {key : α} {kv ov : RV} {a : Addr}
theorem x_dgetI {K : RV → XS → Prop} (rv : RV) (ho : ov.den st.ρ = .ref a) (hm : st.ρ.length = st.ob.length → (a, o) ∈ led st) (hd : o.IsDictOf knd kvs) (hk : knd.is key (kv.den st.ρ) = true) (hl : valueAt kvs key = some (rv.den st.ρ)) (k : K rv st) : Do c (getItem (ov.den st.ρ) (kv.den st.ρ)) st K := by
  refine ⟨fun Q s z S hq => ?_⟩
  rw [ho]
  exact kdt_getItem S.N (hm S.len) hd hk hl (hq rv _ _ _ k S (Ext.refl _))
theorem x_dsetI {K : Unit → XS → Prop} {i : Nat} {v : RV} (e : st.ob[i]? = some (.raw o)) (hi : st.mu.contains i = true) (hd : o.IsDictOf knd kvs) (hk : knd.is key (kv.den st.ρ) = true) (hsz : Nat.ble kvs.length 1000 = true) (k : ∀ o', o'.IsDictOf knd (stored kvs key (v.den st.ρ)) → K () (st.set i (.raw o'))) : DoU c (setItem ((RV.r i).den st.ρ) (kv.den st.ρ) (v.den st.ρ)) st K :=
  ⟨fun _ _ _ S hq => kda_set S.F S.N (S.updF e (by simpa using hi)) hd hk (by rw [PySem.sizeLine_eq]; exact Nat.le_trans (Nat.le_of_ble_eq_true hsz) (by decide)) fun h' o' F' N' hd' => hq () _ h' _ (k o' hd') (S.setTo F' N') ⟨List.prefix_refl _, rfl⟩⟩
end
theorem aug_is {i : Expr} {ov iv new : Value} (h : noSlice i = true) : augStore i ov iv new = (do holding [new, ov, iv] (setItem ov iv new); release [new, ov, iv] []; pure .next) := by cases i <;> first | rfl | cases h
include O
set_option tactic.hygienic true in
theorem DoF.daug (n : Nat) {o i value : Expr} {tp pos : Pos} {op : Operator} {K : RF → XS → Prop} (hsl : noSlice i = true)
    (H : exE xt c n o st fun ov st1 => hold ov st1 (exE xt c n i st1 fun iv st2 => hold iv st2 (Do c (getItem (ov.den st2.ρ) (iv.den st2.ρ)) st2 fun old st3 => hold old st3 (exE xt c n value st3 fun v st4 => exInp c op old v st4 fun r st5 => DoU c (setItem (ov.den st5.ρ) (iv.den st5.ρ) (r.den st5.ρ)) st5 fun _ st6 => K .next st6)))) : DoF c (exec (.AugAssign (.Subscript o i tp) op value pos) c.env) st K := by
  refine ⟨fun Q s z S hq => wpAny_AugAssign_SubscriptAny (exE_ok O n _ _ _ H _ s z S fun ov st1 h1 tk1 H1 S1 p1 => ?_) fun _ _ _ => aug_is hsl⟩
  obtain ⟨w1, H1⟩ := hold_is H1
  refine exE_ok O n _ _ _ H1 _ _ z.to S1 fun iv st2 h2 tk2 H2 S2 p2 => ?_
  obtain ⟨w2, H2⟩ := hold_is H2
  rw [← held S1 w1 p2]
  refine H2.run _ _ z.to S2 fun old st3 h3 tk3 H3 S3 p3 => ?_
  obtain ⟨w3, H3⟩ := hold_is H3
  refine exE_ok O n _ _ _ H3 _ _ z.to S3 fun v st4 h4 tk4 H4 S4 p4 => ?_
  rw [← held S3 w3 p4]
  refine inp_ok H4 _ _ z.to S4 fun r st5 h5 tk5 H5 S5 p5 => ?_
  rw [held S1 w1 p2, ← held S1 w1 (p2.trans (p3.trans (p4.trans p5))), ← held S2 w2 (p3.trans (p4.trans p5))]
  exact H5.run.then z.to S5 (p1.trans (p2.trans (p3.trans (p4.trans p5)))) fun _ st6 h6 tk6 H6 S6 p6 => hq .next st6 h6 tk6 H6 S6 p6.p
end
noncomputable def exPairs (ih : Expr → XS → (RV → XS → Prop) → Prop) : List (Option Expr) → List Expr → XS → (List (RV × RV) → XS → Prop) → Prop
  | some k :: ks, v :: vs, st, K => ih k st fun kv st1 => hold kv st1 (ih v st1 fun vv st2 => hold vv st2 (exPairs ih ks vs st2 fun r st3 => K ((kv, vv) :: r) st3))
  | [], [], st, K => K [] st
  | _, _, _, _ => False
noncomputable def denPs (ρ : List Addr) (ps : List (RV × RV)) : List (Value × Value) := ps.map fun p => (p.1.den ρ, p.2.den ρ)
theorem pairs_ok {c : XC} {ih : Expr → XS → (RV → XS → Prop) → Prop} (IH : ∀ e st K, ih e st K → Ev c (eval e c.env) st K) {pos : Pos} : ∀ {ks : List (Option Expr)} {vs : List Expr} {st : XS} {K : List (RV × RV) → XS → Prop}, exPairs ih ks vs st K → EvG c denPs (evalPairs (pairTrees ks vs c.env pos)) st K
  | [], [], _, _, H => fun _ _ z S hq => pairTrees_nil_walk (hq [] _ _ _ H S (Ext.refl _))
  | some k :: ks, v :: vs, st, K, H => fun Q s z S hq => by
    refine pairTrees_cons_walk (IH _ _ _ H _ s z S fun kv st1 h1 tk1 H1 S1 p1 => ?_)
    obtain ⟨w1, H1⟩ := hold_is H1
    refine IH _ _ _ H1 _ _ z.to S1 fun vv st2 h2 tk2 H2 S2 p2 => ?_
    obtain ⟨w2, H2⟩ := hold_is H2
    refine pairs_ok IH H2 _ _ z.to S2 fun r st3 h3 tk3 H3 S3 p3 => ?_
    have := hq ((kv, vv) :: r) st3 h3 tk3 H3 S3 (p1.trans (p2.trans p3))
    rw [show denPs st3.ρ ((kv, vv) :: r) = (kv.den st3.ρ, vv.den st3.ρ) :: denPs st3.ρ r from rfl, held S1 w1 (p2.trans p3), held S2 w2 p3] at this
    exact this
  | none :: _, _, _, _, H => by cases H
  | some _ :: _, [], _, _, H => by cases H
  | [], _ :: _, _, _, H => by cases H
section
variable {c : XC} {xt : XT} (O : c.Ok xt) {st : XS} {K : RV → XS → Prop}
include O
theorem Do.dictS (n : Nat) {ks : List (Option Expr)} {vs : List Expr} {pos : Pos} (hw : st.wf = true) (hall : ks.all (·.isSome) = true) (hl : ks.length = vs.length) (h0 : ks ≠ []) (hlen : Nat.ble ks.length 15 = true)
    (H : ∀ d o, (d == sysModules) = false → exPairs (exE xt c n) ks vs (st.add d (.raw o)) fun ps st1 => st1.ob[st.ob.length]? = some (.raw o) ∧ st1.mu.contains st.ob.length = true ∧ allStrKeys (denPs st1.ρ ps) = true ∧ ((strPairs (denPs st1.ρ ps)).map (·.1)).Nodup ∧ ∀ o', o'.IsDictOf (strKind c.prog c.w) (strPairs (denPs st1.ρ ps)) → K (.r st.ob.length) (st1.set st.ob.length (.raw o'))) : Do c (eval (.Dict ks vs pos) c.env) st K := by
  refine ⟨fun Q s z S hq => ?_⟩
  obtain ⟨p, loose, mg, mb, T⟩ := O.T
  refine kdn_eval (knd := strKind c.prog c.w) S.F S.N T.nolimit hall hl h0 (Nat.le_of_ble_eq_true hlen) fun d h' o F' N' l lo hd => ?_
  have S1 : Sat c (st.add d (.raw o)) h' := S.add hw F' N' l
  refine pairs_ok (exE_ok O n) (H d o lo) _ { s with heap := h' } z.to S1 fun ps st1 h1 tk1 H1 S2 p2 => ?_
  obtain ⟨e1, e2, e3, e4, k⟩ := H1
  have ed : st1.ρ.getD st.ob.length 0 = d := by
    obtain ⟨as, ha⟩ := p2.pre
    have h9 : st1.ρ = (st.ρ ++ [d]) ++ as := ha.symm
    rw [h9, ← S.len]; simp
  have U := S2.updF e1 (by simpa using e2)
  rw [ed] at U
  refine kdn_made_str (s := { s with heap := h1, toks := tk1 }) S2.F S2.N U hd e3 e4 fun h2 o' F2 N2 hd2 => ?_
  have := hq (.r st.ob.length) _ h2 (tk1 + (denPs st1.ρ ps).length) (k o' hd2) (S2.setTo F2 N2) (Ext.add.trans (p2.trans ⟨List.prefix_refl _, rfl⟩))
  rw [show RV.den (st1.set st.ob.length (.raw o')).ρ (.r st.ob.length) = .ref d from congrArg Value.ref ed] at this
  exact this
theorem Do.dictI (n : Nat) {ks : List (Option Expr)} {vs : List Expr} {pos : Pos} (hw : st.wf = true) (hall : ks.all (·.isSome) = true) (hl : ks.length = vs.length) (h0 : ks ≠ []) (hlen : Nat.ble ks.length 15 = true)
    (H : ∀ d o, (d == sysModules) = false → exPairs (exE xt c n) ks vs (st.add d (.raw o)) fun ps st1 => st1.ob[st.ob.length]? = some (.raw o) ∧ st1.mu.contains st.ob.length = true ∧ allIntKeys (denPs st1.ρ ps) = true ∧ ((intKeyPairs (denPs st1.ρ ps)).map (·.1)).Nodup ∧ ∀ o', o'.IsDictOf (intKind c.prog c.w) (intKeyPairs (denPs st1.ρ ps)) → K (.r st.ob.length) (st1.set st.ob.length (.raw o'))) : Do c (eval (.Dict ks vs pos) c.env) st K := by
  refine ⟨fun Q s z S hq => ?_⟩
  obtain ⟨p, loose, mg, mb, T⟩ := O.T
  refine kdn_eval (knd := intKind c.prog c.w) S.F S.N T.nolimit hall hl h0 (Nat.le_of_ble_eq_true hlen) fun d h' o F' N' l lo hd => ?_
  have S1 : Sat c (st.add d (.raw o)) h' := S.add hw F' N' l
  refine pairs_ok (exE_ok O n) (H d o lo) _ { s with heap := h' } z.to S1 fun ps st1 h1 tk1 H1 S2 p2 => ?_
  obtain ⟨e1, e2, e3, e4, k⟩ := H1
  have ed : st1.ρ.getD st.ob.length 0 = d := by
    obtain ⟨as, ha⟩ := p2.pre
    have h9 : st1.ρ = (st.ρ ++ [d]) ++ as := ha.symm
    rw [h9, ← S.len]; simp
  have U := S2.updF e1 (by simpa using e2)
  rw [ed] at U
  refine kdn_made_int (s := { s with heap := h1, toks := tk1 }) S2.F S2.N U hd e3 e4 fun h2 o' F2 N2 hd2 => ?_
  have := hq (.r st.ob.length) _ h2 (tk1 + (denPs st1.ρ ps).length) (k o' hd2) (S2.setTo F2 N2) (Ext.add.trans (p2.trans ⟨List.prefix_refl _, rfl⟩))
  rw [show RV.den (st1.set st.ob.length (.raw o')).ρ (.r st.ob.length) = .ref d from congrArg Value.ref ed] at this
  exact this
end
theorem bstores_ok {c : XC} {xt : XT} (O : c.Ok xt) : ∀ (names : List Str) (vs : List RV) (st : XS) (K : Unit → XS → Prop) (ρ : List Addr), names.length = vs.length → (∀ v ∈ vs, v.wf ρ.length = true) → ρ <+: st.ρ → exStores xt c names vs st K →
    EvU c (assignInOrder (names.map fun n => bindName c.env n) (vs.map (RV.den ρ))) st K
  | [], [], st, K, _, _, _, _, H => fun Q s z S hq => assignInOrder_nil (hq () _ _ _ H S (Ext.refl _))
  | x :: xs, v :: vs, st, K, ρ, hl, hv, hr, H => fun Q s z S hq => by
    unfold exStores at H
    have e : v.den ρ = v.den st.ρ := by
      obtain ⟨r, hr⟩ := hr
      rw [← hr]
      exact (RV.den_grow (Nat.le_refl _) r v (hv v mS)).symm
    refine assignInOrder_cons (bindName_ ?_)
    rw [e]
    exact store_ok O H _ s z S fun _ st1 h1 tk1 H1 S1 p1 => (bstores_ok O xs vs st1 K ρ (Nat.succ.inj hl) (fun u hu => hv u (mC _ hu)) (hr.trans p1.pre) H1).then z.to S1 p1 hq
  | [], _ :: _, _, _, _, hl, _, _, _ => by cases hl
  | _ :: _, [], _, _, _, hl, _, _, _ => by cases hl
theorem swapped_of {ts : List Expr} {v : Expr} {env env' : Env} (h : env.scope = env'.scope) : swappedStores ts v env = swappedStores ts v env' := by
  unfold swappedStores Env.kindOf Env.blockKind
  rw [h]
set_option tactic.hygienic true in
theorem DoF.swap {c : XC} {xt : XT} (O : c.Ok xt) (n : Nat) {elts : List Expr} {kk : Nat} {tpos pos : Pos} {value : Expr} {names : List Str} {st : XS} {K : RF → XS → Prop} (hc : noComp value = true) (hw : swappedStores [.Tuple elts kk tpos] value { scope := xt.cs, locals := 0, globals := 0, cells := [] } = pure (some names))
    (H : exE xt c n value st fun v st1 => match tupRV v st1 with
      | some vs => (match Nat.beq names.length vs.length && vs.all (RV.wf st1.ob.length) with
        | true => exStores xt c names.reverse vs.reverse st1 fun _ st2 => K .next st2
        | false => False)
      | none => False) : DoF c (exec (.Assign [.Tuple elts kk tpos] value pos) c.env) st K := by
  refine ⟨fun Q s z S hq => Assign_Tuple_swapped (exE_ok O n _ _ _ H _ s z S fun v st1 h1 tk1 H1 S1 p1 => ?_) (sole_no hc) ((swapped_of O.cs).trans hw)⟩
  split at H1
  · rename_i vs hv
    obtain ⟨i, rfl, e1⟩ := tupRV_is hv
    split at H1
    · rename_i hb
      obtain ⟨hlen, hwf⟩ := bA hb
      have hlen : names.length = vs.length := Nat.eq_of_beq_eq_true hlen
      refine unpackItemsN_ (s := { s with heap := h1, toks := tk1 }) S1.F S1.N (S1.N.isTup (S1.mem e1)) O.hh (by rw [hlen]; simp) fun h2 F2 N2 => ?_
      have hv : ∀ v ∈ vs.reverse, v.wf st1.ρ.length = true := fun v hv' => by rw [S1.len]; exact aT hwf v (List.mem_reverse.mp hv')
      have := bstores_ok O names.reverse vs.reverse st1 _ st1.ρ (by rw [List.length_reverse, List.length_reverse, hlen]) hv (List.prefix_refl _) H1 (fun _ => Q .next) { s with heap := h2, toks := tk1 } z.to ⟨F2, N2, S1.len, S1.D, S1.CE⟩ fun _ st2 h3 tk3 H3 S3 p3 => hq .next st2 h3 tk3 H3 S3 (p1.trans p3).p
      rw [List.map_reverse] at this
      rw [List.map_reverse] at this
      rw [List.map_reverse]
      exact this
    · cases H1
  · cases H1
theorem DoC.sat {c : XC} {f : Value} {vs : List RV} {st : XS} {K : RV → XS → Prop} (H : st.ρ.length = st.ob.length → Dis st → DoC c f vs st K) : DoC c f vs st K := ⟨fun Q s z S hq => (H S.len S.D).run Q s z S hq⟩
theorem Uses.never {G : GR} {c : XC} {frames : List Env} {base : Heap} {D U : Nat} {R : Int → List (Addr × Obj) → Prop} (Y : Uses G c frames base D U R) : Uses G { c with E := fun _ _ => False } frames base D U (fun _ _ => False) :=
  ⟨Y.HG, Y.prog, Y.hw, Y.hK, Y.X, Y.B, Y.Ok, Y.hA, Y.fr, Y.ff, Y.kf, Y.hd, Y.hu, fun _ _ _ _ _ _ _ _ h => h.elim⟩
theorem XC.Ok.never {c : XC} {xt : XT} (O : c.Ok xt) : XC.Ok { c with E := fun _ _ => False } xt :=
  ⟨O.cs, O.gg, O.gb, O.lo, O.hh, fun _ => PassesOwn.never, O.kf, O.X, O.T, O.gl, O.fs, O.me, O.cls, O.ca⟩
set_option tactic.hygienic true in
theorem DoF.try0 {G : GR} {c : XC} {xt : XT} {frames : List Env} {base : Heap} {D U : Nat} {R : Int → List (Addr × Obj) → Prop} (Y : Uses G c frames base D U R) (O : c.Ok xt) (n : Nat) {body : List Stmt} {h0 : ExceptHandler} {hs : List ExceptHandler} {pos : Pos} {st : XS} {K : RF → XS → Prop}
    (H : ∀ c', Uses G c' frames base D U (fun _ _ => False) → c'.Ok xt → c'.pin = c.pin → exS xt c' n body st K) : DoF c (exec (.Try body (h0 :: hs) [] [] pos) c.env) st K := by
  refine ⟨fun Q s z S hq => wpAny_Try_except ?_⟩
  refine wpAny_mono (exS_ok O.never n body st K (H _ Y.never O.never rfl) (fun f s' => match f with
    | .next => wpAny (model c.prog c.w) c.A (execs [] c.env) Q c.E s'
    | f => Q f s') s ⟨z.gens, z.drawn, z.os⟩ ⟨S.F, S.N, S.len, S.D, ⟨S.CE.cl, S.CE.nm, S.CE.ap, S.CE.nd⟩⟩ fun f st' h' tk' hk S' p' => ?_) (fun _ _ h => h) fun _ _ h => h.elim
  have S2 : Sat c st' h' := ⟨S'.F, S'.N, S'.len, S'.D, ⟨S'.CE.cl, S'.CE.nm, S'.CE.ap, S'.CE.nd⟩⟩
  cases f with
  | next => exact wpAny_execs_nil (hq .next st' h' tk' hk S2 p')
  | brk => exact hq .brk st' h' tk' hk S2 p'
  | cont => exact hq .cont st' h' tk' hk S2 p'
  | ret v => exact hq (.ret v) st' h' tk' hk S2 p'
end
section
abbrev JarIs (w : World) (jo : Obj) (a : Int) (ta : Tok) (of : Addr) : Prop := jo.IsDictOf (strKind PG w) [(Str.ofString "at", .int a ta), (Str.ofString "of", .ref of)]
section
variable {G : GR} (HG : GrF G.K)
include HG
theorem c_pick (ja of : Addr) (jo : Obj) (a m : Int) (ta tm : Tok) (xs : List Value) (no : Nat) (hj : JarIs G.w jo a ta of) (ha : 0 ≤ a ∧ a ≤ 60) (hm : 1 ≤ m ∧ m ≤ 24) (h30 : xs.length ≤ 30) (hxs : ∀ (i : Nat) v, xs[i]? = some v → ∃ z t, v = .int z t) (hne : of ≠ ja) :
    CT G 700 2000 721 [.ref ja, .int m tm] [(ja, jo), (of, listOf xs.toArray no)] [ja]
      (fun r out => ∃ v tv jo' t', r = .int v tv ∧ (0 ≤ v ∧ v < m) ∧ out = [(ja, jo')] ∧ JarIs G.w jo' (a + 1) t' of) never := by
  refine CT.go HG 40 [ja, of] [.raw jo, .lst xs no] [] [0] [.r 0, .v (.int m tm)] rfl rfl rfl (fun _ _ _ _ _ _ _ => rfl) rfl (fun _ => Iff.rfl) rfl (Dis.of ⟨⟨⟨trivial, hne, trivial⟩, all_nil⟩, trivial⟩) ?_
  intro c frames base Y O
  refine exS_fin fun KK hKK => ?_
  have hj' : jo.IsDictOf (strKind c.prog c.w) [(Str.ofString "at", .int a ta), (Str.ofString "of", .ref of)] := by rw [Y.prog, Y.hw]; exact hj
  refine DoF.daug O 40 rfl ?_
  intro t1
  refine x_dgetI (a := ja) (.v (.int a ta)) rfl (fun _ => List.Mem.head _) hj' (strKind_is _ _ _ _) rfl ?_
  intro t2 t3
  refine x_dsetI rfl rfl hj' (strKind_is _ _ _ _) rfl fun jo' hj2 => ?_
  have hj3 : jo'.IsDictOf (strKind c.prog c.w) [(Str.ofString "at", .int (a + 1) t3), (Str.ofString "of", .ref of)] := hj2
  have hjo : JarIs G.w jo' (a + 1) t3 of := by rw [Y.prog, Y.hw] at hj3; exact hj3
  intro t4
  refine x_ditem (a := ja) (o := jo') (.v (.int (a + 1) t3)) rfl (fun _ => List.Mem.head _) hj3 (strKind_is _ _ _ _) rfl rfl ?_
  intro t5
  refine x_ditem (a := ja) (o := jo') (.r 1) rfl (fun _ => List.Mem.head _) hj3 (strKind_is _ _ _ _) rfl rfl ?_
  refine x_len rfl (by lia) fun t6 => ?_
  refine ifc (fun hb => ?_) (fun hb => ?_)
  · have hb : a + 1 ≤ ((xs.length : Nat) : Int) := of_decide_eq_true hb
    obtain ⟨v, hv⟩ : ∃ v, xs[a.toNat]? = some v := ⟨xs[a.toNat]'(by lia), List.getElem?_eq_getElem (by lia)⟩
    obtain ⟨z, t, rfl⟩ := hxs _ _ hv
    intro t7
    refine x_ditem (a := ja) (o := jo') (.r 1) rfl (fun _ => List.Mem.head _) hj3 (strKind_is _ _ _ _) rfl rfl ?_
    intro t8
    refine x_ditem (a := ja) (o := jo') (.v (.int (a + 1) t3)) rfl (fun _ => List.Mem.head _) hj3 (strKind_is _ _ _ _) rfl rfl ?_
    intro t9 t10
    refine x_item (.v (.int z t)) rfl (by lia) hv (by lia) rfl ?_
    refine x_mod (by lia) fun t11 => ?_
    subst hKK
    refine EndX.out [0] [0] [] rfl rfl (fun _ h => h) rfl rfl rfl rfl rfl rfl fun D => ?_
    exact ⟨_, _, jo', t3, rfl, ⟨Int.fmod_nonneg_of_pos _ (by lia), Int.fmod_lt_of_pos _ (by lia)⟩, rfl, hjo⟩
  · intro t7 t8
    refine x_ditem (a := ja) (o := jo') (.v (.int (a + 1) t3)) rfl (fun _ => List.Mem.head _) hj3 (strKind_is _ _ _ _) rfl rfl ?_
    refine x_mul (IntMulOk.of_left (by decide)) fun t9 => ?_
    intro t10
    refine x_ditem (a := ja) (o := jo') (.v (.int (a + 1) t3)) rfl (fun _ => List.Mem.head _) hj3 (strKind_is _ _ _ _) rfl rfl ?_
    intro t11
    refine x_fdiv (by decide) ?_ fun t12 => ?_
    · exact PyProof.noPylong_small (by decide)
    intro t13
    refine x_mod (by lia) fun t14 => ?_
    subst hKK
    refine EndX.out [0] [0] [] rfl rfl (fun _ h => h) rfl rfl rfl rfl rfl rfl fun D => ?_
    exact ⟨_, _, jo', t3, rfl, ⟨Int.fmod_nonneg_of_pos _ (by lia), Int.fmod_lt_of_pos _ (by lia)⟩, rfl, hjo⟩
omit HG in
theorem u_pick {c : XC} {frames : List Env} {base : Heap} {D U : Nat} {R : Int → List (Addr × Obj) → Prop} {st : XS} {K : RV → XS → Prop} (Y : Uses G c frames base D U R) {i j : Nat} {of : Addr} {jo : Obj} {a m : Int} {ta tm : Tok} {xs : List Value} {no : Nat} (hw : st.wf = true) (e1 : st.ob[i]? = some (.raw jo)) (hi : st.mu.contains i = true) (hj : JarIs G.w jo a ta of) (e2 : st.ob[j]? = some (.lst xs no)) (hof : st.ρ.getD j 0 = of) (hij : Nat.beq j i = false)
    (ha : 0 ≤ a ∧ a ≤ 60) (hm : 1 ≤ m ∧ m ≤ 24) (h30 : xs.length ≤ 30) (hxs : ∀ (i : Nat) v, xs[i]? = some v → ∃ z t, v = .int z t) (hD : Nat.ble D 700 = true) (hU : Nat.ble U 2000 = true)
    (kk : ∀ v tv jo' t', 0 ≤ v ∧ v < m → JarIs G.w jo' (a + 1) t' of → K (.v (.int v tv)) (st.set i (.raw jo'))) : DoC c (.ref 721) [.r i, .v (.int m tm)] st K := by
  have hlt : i < st.ob.length := (gS e1).1
  have at_ : ∀ m o, st.ρ.length = st.ob.length → st.ob[m]? = some o → st.ρ[m]? = some (st.ρ.getD m 0) := fun m o hlen e => getD_at (hlen ▸ (gS e).1)
  subst hof
  refine Do.use Y (fun hlen hne => c_pick Y.HG (st.ρ.getD i 0) (st.ρ.getD j 0) jo a m ta tm xs no hj ha hm h30 hxs (dis_at hne i j hi (at_ _ _ hlen e1) (at_ _ _ hlen e2) hij)) [i] hD hU (fun hl => all_cons (mem_led hl e1) (all_cons (mem_led hl e2) all_nil)) rfl (by simp only [List.all_cons, List.all_nil, hi, Bool.true_and, Bool.and_true]; exact Nat.ble_eq_true_of_le hlt) ?_ (fun _ _ _ h => h.elim) rfl
  rintro r out ⟨v, tv, jo', t', rfl, hv, rfl, hj'⟩ hn D hl A
  exact ⟨.v (.int v tv), _, rfl, Next.set1 hl hw D A hlt mS, kk v tv jo' t' hv hj'⟩
end
end
section
theorem exS_go {xt : XT} {c : XC} {n : Nat} {l : List Stmt} {st : XS} {K : RF → XS → Prop} (h : ∀ KK : RF → XS → Prop, (∀ v s, K v s → KK v s) → exS xt c n l st KK) : exS xt c n l st K := h K fun _ _ h => h
theorem ar_small {n : Nat} (h : n ≤ 3) : Builtin.Range.small 0 (n : Int) 1 = true := small_one (by decide) (by decide) (by lia) (by lia)
theorem ar_range (n : Nat) : Builtin.Range.rangeSize 0 (n : Int) 1 = (n : Int) := (rangeSize_nat 0 _).trans (by lia)
theorem ar_k {n : Nat} (h : n ≤ 3) : n ≤ 1000 := Nat.le_trans h (by decide)
theorem ar_k5 {a b : Nat} (e : a = b) (h : b ≤ 5) : a ≤ 1000 := by lia
theorem ar_sub {j m : Nat} (h : j < m) : m - j = (m - j - 1) + 1 := by lia
theorem ar_one {a b : Nat} (h : b ≤ a) (h2 : a ≤ b) : a = b := Nat.le_antisymm h2 h
theorem ar_fit {a b i j m p fs : Nat} (e : a = fs) (hf : fs ≤ 20 * i + 5 * j) (hi : i < 3) (hj : j < m) (hm : m ≤ 3) (eb : b = p) (hp : p ≤ 5) : a + b ≤ 1000 := by lia
theorem ar_fit1 {a i fs : Nat} (e : a = fs) (hf : fs ≤ 20 * i) (hi : i < 3) : a ≤ 1000 := by lia
theorem ar_new {fs i j q : Nat} (hf : fs ≤ 20 * i + 5 * j) (hp : q ≤ 5) : fs + q ≤ 20 * i + 5 * (j + 1) := by lia
theorem ar_x1 {x : Int} {n : Nat} (h : 0 ≤ x) : 0 ≤ x + (n : Int) + 1 := by lia
theorem ar_end {fs i m : Nat} (h : fs ≤ 20 * i + 5 * m) (hm : m ≤ 3) : fs ≤ 20 * (i + 1) := by lia
theorem ar_x {x : Int} {n : Nat} (h : 0 ≤ x) : 0 ≤ x + (n : Int) := by lia
def RoundIs (it : Itm × Addr) (v : Value) : Prop := match it.1 with
  | .arr => ∃ t, v = .int 1 t
  | .con => v = .none
  | .ido n => ∃ t, v = .int n t
def RoundsAt (its : List (Itm × Addr)) (vs : List Value) : Prop := vs.length = its.length ∧ ∀ (i : Nat) it v, its[i]? = some it → vs[i]? = some v → RoundIs it v
theorem ItemsAt.snoc {T : List (Addr × Obj)} {its : List (Itm × Addr)} {vs : List Value} {it : Itm × Addr} {v : Value} (h : ItemsAt T its vs) (hi : ItemIs T it v) : ItemsAt T (its ++ [it]) (vs ++ [v]) := by
  refine ⟨by rw [List.length_append, List.length_append, h.1]; rfl, fun i it' v' h1 h2 => ?_⟩
  rcases Nat.lt_or_ge i its.length with hl | hl
  · rw [List.getElem?_append_left hl] at h1
    rw [List.getElem?_append_left (by rw [h.1]; exact hl)] at h2
    exact h.2 i it' v' h1 h2
  · have e : i = its.length := by
      rcases Nat.lt_or_ge its.length i with hg | hg
      · rw [List.getElem?_eq_none (by rw [List.length_append]; exact hg)] at h1; cases h1
      · lia
    subst e
    rw [List.getElem?_concat_length] at h1
    rw [← h.1, List.getElem?_concat_length] at h2
    rw [← Option.some.inj h1, ← Option.some.inj h2]; exact hi
theorem RoundsAt.snoc {its : List (Itm × Addr)} {vs : List Value} {it : Itm × Addr} {v : Value} (h : RoundsAt its vs) (hi : RoundIs it v) : RoundsAt (its ++ [it]) (vs ++ [v]) := by
  refine ⟨by rw [List.length_append, List.length_append, h.1]; rfl, fun i it' v' h1 h2 => ?_⟩
  rcases Nat.lt_or_ge i its.length with hl | hl
  · rw [List.getElem?_append_left hl] at h1
    rw [List.getElem?_append_left (by rw [h.1]; exact hl)] at h2
    exact h.2 i it' v' h1 h2
  · have e : i = its.length := by
      rcases Nat.lt_or_ge its.length i with hg | hg
      · rw [List.getElem?_eq_none (by rw [List.length_append]; exact hg)] at h1; cases h1
      · lia
    subst e
    rw [List.getElem?_concat_length] at h1
    rw [← h.1, List.getElem?_concat_length] at h2
    rw [← Option.some.inj h1, ← Option.some.inj h2]; exact hi
theorem ItemIs.of_arr {T : List (Addr × Obj)} {D : Addr} {a b c : Tok} (h : (D, tupO #[.str (Str.ofString "array") a, .int 0 b, .str (Str.ofString "A") c]) ∈ T) : ItemIs T (.arr, D) (.ref D) := ⟨rfl, a, b, c, h⟩
theorem ItemIs.of_con {T : List (Addr × Obj)} {D : Addr} {a b c : Tok} (h : (D, tupO #[.str (Str.ofString "const") a, .int 0 b, .int 7 c]) ∈ T) : ItemIs T (.con, D) (.ref D) := ⟨rfl, a, b, c, h⟩
theorem RoundIs.of_arr {D : Addr} {t : Tok} : RoundIs (.arr, D) (.int 1 t) := ⟨t, rfl⟩
theorem RoundIs.of_con {D : Addr} : RoundIs (.con, D) .none := rfl
theorem RoundIs.of_ido {D : Addr} {n : Nat} {t : Tok} : RoundIs (.ido n, D) (.int n t) := ⟨t, rfl⟩
theorem ItemIs.of_ido {T : List (Addr × Obj)} {n : Nat} {D jl aj tg f1 f2 f3 : Addr} {nj : Nat} {a0 a1 a2 a3 a4 a5 a6 a7 a8 a9 b0 b1 b2 b3 b4 b5 : Tok} (hn : n ≤ 3)
    (h1 : (D, tupO #[.str (Str.ofString "ido") a0, .ref jl, .ref tg, .ref f1, .ref f2, .ref f3]) ∈ T) (h2 : (jl, listOf #[Value.ref aj] nj) ∈ T)
    (h3 : (aj, tupO #[.str (Str.ofString "array") a1, .int 0 a2, .str (Str.ofString "A") a3]) ∈ T) (h4 : (tg, tupO #[.str (Str.ofString "var") a4, .int 0 a5, .str (Str.ofString "I") a6]) ∈ T)
    (h5 : (f1, tupO #[.str (Str.ofString "const") a7, .int 0 a8, .int 1 a9]) ∈ T) (h6 : (f2, tupO #[.str (Str.ofString "const") b0, .int 0 b1, .int n b2]) ∈ T) (h7 : (f3, tupO #[.str (Str.ofString "const") b3, .int 0 b4, .int 1 b5]) ∈ T) :
    ItemIs T (.ido n, D) (.ref D) :=
  ⟨rfl, hn, jl, nj, aj, tg, f1, f2, f3, fun i => match i with | 0 => a0 | 1 => a1 | 2 => a2 | 3 => a3 | 4 => a4 | 5 => a5 | 6 => a6 | 7 => a7 | 8 => a8 | 9 => a9 | 10 => b0 | 11 => b1 | 12 => b2 | 13 => b3 | 14 => b4 | _ => b5, h1, h2, h3, h4, h5, h6, h7⟩
noncomputable abbrev xtI : XT := ⟨fd_728.scope, GL, FS, TAB, ME, false⟩
inductive ItJ (w : World) (ja of il rl : Addr) (xs : List Value) (no : Nat) (i : Nat) : XS → Prop
  | ex jo a ta ivs rvs items ni nr T fo (h0 : JarIs w jo a ta of) (h1 : (0 ≤ a ∧ a ≤ 11 + 2 * (i : Int))) (h2 : ItemsAt T items ivs) (h3 : RoundsAt items rvs) (h4 : items.length = i) : ItJ w ja of il rl xs no i ⟨[ja, of, il, rl], [(Str.ofString "items", .r 2), (Str.ofString "rounds", .r 3), (Str.ofString "jar", .r 0)], [.raw jo, .lst xs no, .lst ivs ni, .lst rvs nr], T, [0, 1, 2, 3], [], fo⟩
inductive itemsPost (ja : Addr) : Value → List (Addr × Obj) → Prop
  | ok (rt il rl : Addr) (jo' : Obj) (ivs rvs : List Value) (items : List (Itm × Addr)) (ni nr : Nat) (tl : List (Addr × Obj)) (hit : ItemsAt tl items ivs) (hro : RoundsAt items rvs) (h3 : ivs.length ≤ 3) (hne : ∀ q ∈ (rt, tupO #[.ref il, .ref rl]) :: (il, listOf ivs.toArray ni) :: (rl, listOf rvs.toArray nr) :: tl, q.1 ≠ ja) : itemsPost ja (.ref rt) ((ja, jo') :: (rt, tupO #[.ref il, .ref rl]) :: (il, listOf ivs.toArray ni) :: (rl, listOf rvs.toArray nr) :: tl)
section
variable {G : GR} (HG : GrF G.K)
include HG
set_option tactic.hygienic true in
theorem c_items (ja of : Addr) (jo : Obj) (a : Int) (ta : Tok) (xs : List Value) (no : Nat) (hj : JarIs G.w jo a ta of) (ha : 0 ≤ a ∧ a ≤ 10) (h30 : xs.length ≤ 30) (hxs : ∀ (i : Nat) v, xs[i]? = some v → ∃ z t, v = .int z t) (hne : of ≠ ja) :
    CT G 600 1500 728 [.ref ja] [(ja, jo), (of, listOf xs.toArray no)] [ja]
      (itemsPost ja) never := by
  refine CT.goP HG 40 [ja, of] [.raw jo, .lst xs no] [] [0, 1] [.r 0] rfl rfl rfl (fun _ _ _ _ _ _ _ => rfl) rfl (fun _ => Iff.rfl) rfl (Dis.of ⟨⟨⟨trivial, hne, trivial⟩, all_nil⟩, ⟨⟨hne.symm, trivial, trivial⟩, all_nil⟩, trivial⟩) ?_
  intro c frames base Y O hpin
  refine exS_fin fun KK hKK => ?_
  refine DoF.swap O 40 (names := [Str.ofString "items", Str.ofString "rounds"]) rfl rfl ?_
  intro il rl tp t0 t1
  refine u_pick Y (i := 0) (m := 3) (j := 1) rfl rfl rfl hj rfl rfl rfl (by lia) (by decide) h30 hxs rfl rfl fun v tv jo1 tj hv hj1 => ?_
  obtain ⟨nn, rfl⟩ := Int.eq_ofNat_of_zero_le hv.1
  intro t2
  refine x_range rfl fun r t8 t9 => ?_
  refine DoI.range O 40 (ItJ G.w ja of il rl xs no) rfl rfl (1 + nn) (small_one (by decide) (by decide) (by lia) (by lia)) ((rangeSize_nat 0 _).trans (by lia)) (fun i st1 hI => ?_) ⟨_, Weak.go (st3 := ⟨[ja, of, il, rl], [(Str.ofString "items", .r 2), (Str.ofString "rounds", .r 3), (Str.ofString "jar", .r 0)], [.raw jo1, .lst xs no, .lst [] 0, .lst [] 0], [], [0, 1, 2, 3], [], _⟩) 4 [] rfl, ⟨jo1, a + 1, tj, [], [], [], 0, 0, [], _, hj1, by lia, ⟨rfl, fun i it v h => nomatch h⟩, ⟨rfl, fun i it v h => nomatch h⟩, rfl⟩⟩ (fun i tv I oI st1 hi hI TT hTT => ?_) (fun st1 hI => ?_)
  · induction hI; rename_i jo a ta ivs rvs items ni nr T fo _ _ _ _ _
    exact ExtP.zero hpin rfl
  · induction hI; rename_i jo a ta ivs rvs items ni nr T fo hj hab hit hro hlen
    have hl1 := hit.1
    have hl2 := hro.1
    intro t3
    refine u_pick Y (i := 0) (m := 3) (j := 1) rfl rfl rfl hj rfl rfl rfl (by lia) (by decide) h30 hxs rfl rfl fun v tv jo2 tj2 hv hj2 => ?_
    intro t4
    refine ifc (fun hb => ?_) (fun hb => ?_)
    · intro a0 a1 a2 D
      refine x_append (i := 2) rfl rfl (by lia) ?_
      intro a3
      refine x_append (i := 3) rfl rfl (by lia) ?_
      exact hTT.nx ⟨_, Weak.go (st3 := ⟨[ja, of, il, rl], [(Str.ofString "items", .r 2), (Str.ofString "rounds", .r 3), (Str.ofString "jar", .r 0)], [.raw jo2, .lst xs no, .lst (ivs ++ [.ref D]) (ni + 1), .lst (rvs ++ [.int 1 a3]) (nr + 1)], (D, tupO #[.str (Str.ofString "array") a0, .int 0 a1, .str (Str.ofString "A") a2]) :: T, [0, 1, 2, 3], [], _⟩) 4 [4] rfl, ⟨jo2, a + 1, tj2, _, _, items ++ [(Itm.arr, D)], _, _, _, _, hj2, by lia, (hit.mono fun p hp => mC _ (hp)).snoc (.of_arr (List.Mem.head _)), hro.snoc .of_arr, by rw [List.length_append, hlen]; rfl⟩⟩
    · intro t5
      refine ifc (fun hb2 => ?_) (fun hb2 => ?_)
      · intro a0 a1 a2 D
        refine x_append (i := 2) rfl rfl (by lia) ?_
        refine x_append (i := 3) (rv := .v .none) rfl rfl (by lia) ?_
        exact hTT.nx ⟨_, Weak.go (st3 := ⟨[ja, of, il, rl], [(Str.ofString "items", .r 2), (Str.ofString "rounds", .r 3), (Str.ofString "jar", .r 0)], [.raw jo2, .lst xs no, .lst (ivs ++ [.ref D]) (ni + 1), .lst (rvs ++ [.none]) (nr + 1)], (D, tupO #[.str (Str.ofString "const") a0, .int 0 a1, .int 7 a2]) :: T, [0, 1, 2, 3], [], _⟩) 4 [4] rfl, ⟨jo2, a + 1, tj2, _, _, items ++ [(Itm.con, D)], _, _, _, _, hj2, by lia, (hit.mono fun p hp => mC _ (hp)).snoc (.of_con (List.Mem.head _)), hro.snoc .of_con, by rw [List.length_append, hlen]; rfl⟩⟩
      · intro t6
        refine u_pick Y (i := 0) (m := 4) (j := 1) rfl rfl rfl hj2 rfl rfl rfl (by lia) (by decide) h30 hxs rfl rfl fun v3 tv3 jo3 tj3 hv3 hj3 => ?_
        obtain ⟨nv, rfl⟩ := Int.eq_ofNat_of_zero_le hv3.1
        refine x_append (i := 3) rfl rfl (by lia) ?_
        intro a0 a1 a2 a3 A1 A2 a4 a5 a6 A3 a7 a8 a9 A4 b0 b1 b2 b3
        refine x_itemL (.v (.int nv tv3)) rfl rfl ?_
        intro A5 b4 b5 b6 A6 A7
        refine x_append (i := 2) rfl rfl (by lia) ?_
        exact hTT.nx ⟨_, Weak.go (st3 := ⟨[ja, of, il, rl], [(Str.ofString "items", .r 2), (Str.ofString "rounds", .r 3), (Str.ofString "jar", .r 0)], [.raw jo3, .lst xs no, .lst (ivs ++ [.ref A7]) (ni + 1), .lst (rvs ++ [.int nv tv3]) (nr + 1)], (A1, tupO #[.str (Str.ofString "array") a1, .int 0 a2, .str (Str.ofString "A") a3]) :: (A2, listOf [Value.ref A1].toArray 0) :: (A3, tupO #[.str (Str.ofString "var") a4, .int 0 a5, .str (Str.ofString "I") a6]) :: (A4, tupO #[.str (Str.ofString "const") a7, .int 0 a8, .int 1 a9]) :: (A5, tupO #[.str (Str.ofString "const") b0, .int 0 b1, .int nv tv3]) :: (A6, tupO #[.str (Str.ofString "const") b4, .int 0 b5, .int 1 b6]) :: (A7, tupO #[.str (Str.ofString "ido") a0, .ref A2, .ref A3, .ref A4, .ref A5, .ref A6]) :: T, [0, 1, 2, 3], [], _⟩) 4 [4, 5, 6, 7, 8, 9, 10] rfl, ⟨jo3, a + 1 + 1, tj3, _, _, items ++ [(Itm.ido nv, A7)], _, _, _, _, hj3, by lia, (hit.mono fun p hp => mC _ (mC _ (mC _ (mC _ (mC _ (mC _ (mC _ (hp)))))))).snoc (ItemIs.of_ido (by lia) (List.Mem.tail _ (List.Mem.tail _ (List.Mem.tail _ (List.Mem.tail _ (List.Mem.tail _ (List.Mem.tail _ (List.Mem.head _))))))) (List.Mem.tail _ (List.Mem.head _)) (List.Mem.head _) (List.Mem.tail _ (List.Mem.tail _ (List.Mem.head _))) (List.Mem.tail _ (List.Mem.tail _ (List.Mem.tail _ (List.Mem.head _)))) (List.Mem.tail _ (List.Mem.tail _ (List.Mem.tail _ (List.Mem.tail _ (List.Mem.head _))))) (List.Mem.tail _ (List.Mem.tail _ (List.Mem.tail _ (List.Mem.tail _ (List.Mem.tail _ (List.Mem.head _))))))), hro.snoc .of_ido, by rw [List.length_append, hlen]; rfl⟩⟩
  · induction hI; rename_i jo a ta ivs rvs items ni nr T fo hj hab hit hro hlen
    have hl1 := hit.1
    have hl2 := hro.1
    intro rt
    subst hKK
    refine ⟨fun D => ⟨(ja, jo) :: (rt, tupO #[.ref il, .ref rl]) :: (il, listOf ivs.toArray ni) :: (rl, listOf rvs.toArray nr) :: T, all_cons (.inl (List.Mem.head _)) (all_cons (.inr (mem_led (st := XS.add ⟨[ja, of, il, rl], [(Str.ofString "items", .r 2), (Str.ofString "rounds", .r 3), (Str.ofString "jar", .r 0)], [.raw jo, .lst xs no, .lst ivs ni, .lst rvs nr], T, [0, 1, 2, 3], [], fo⟩ rt (.tup [.r 2, .r 3])) (i := 1) rfl rfl)) all_nil), ?_, rt, il, rl, jo, ivs, rvs, items, ni, nr, T, hit, hro, by lia, all_cons (dis_at D 4 0 rfl rfl rfl rfl).symm (all_cons (dis_at D 2 0 rfl rfl rfl rfl).symm (all_cons (dis_at D 3 0 rfl rfl rfl rfl).symm fun q hq => dis_tl D 0 rfl rfl hq))⟩⟩
    refine all_cons ⟨mem_led (st := XS.add ⟨[ja, of, il, rl], [(Str.ofString "items", .r 2), (Str.ofString "rounds", .r 3), (Str.ofString "jar", .r 0)], [.raw jo, .lst xs no, .lst ivs ni, .lst rvs nr], T, [0, 1, 2, 3], [], fo⟩ rt (.tup [.r 2, .r 3])) (i := 0) rfl rfl, .inl (List.Mem.head _)⟩ (all_cons ⟨mem_led (st := XS.add ⟨[ja, of, il, rl], [(Str.ofString "items", .r 2), (Str.ofString "rounds", .r 3), (Str.ofString "jar", .r 0)], [.raw jo, .lst xs no, .lst ivs ni, .lst rvs nr], T, [0, 1, 2, 3], [], fo⟩ rt (.tup [.r 2, .r 3])) (i := 4) rfl rfl, .inr (all_cons (dis_at D 4 0 rfl rfl rfl rfl) (all_cons (dis_at D 4 1 rfl rfl rfl rfl) all_nil))⟩
      (all_cons ⟨mem_led (st := XS.add ⟨[ja, of, il, rl], [(Str.ofString "items", .r 2), (Str.ofString "rounds", .r 3), (Str.ofString "jar", .r 0)], [.raw jo, .lst xs no, .lst ivs ni, .lst rvs nr], T, [0, 1, 2, 3], [], fo⟩ rt (.tup [.r 2, .r 3])) (i := 2) rfl rfl, .inr (all_cons (dis_at D 2 0 rfl rfl rfl rfl) (all_cons (dis_at D 2 1 rfl rfl rfl rfl) all_nil))⟩ (all_cons ⟨mem_led (st := XS.add ⟨[ja, of, il, rl], [(Str.ofString "items", .r 2), (Str.ofString "rounds", .r 3), (Str.ofString "jar", .r 0)], [.raw jo, .lst xs no, .lst ivs ni, .lst rvs nr], T, [0, 1, 2, 3], [], fo⟩ rt (.tup [.r 2, .r 3])) (i := 3) rfl rfl, .inr (all_cons (dis_at D 3 0 rfl rfl rfl rfl) (all_cons (dis_at D 3 1 rfl rfl rfl rfl) all_nil))⟩ fun q hq => ⟨tl_mem hq, .inr (all_cons (dis_tl D 0 rfl rfl hq).symm (all_cons (dis_tl D 1 rfl rfl hq).symm all_nil))⟩)))
end
end
section
section
variable {c : XC} {st : XS} {K : RV → XS → Prop}
theorem x_ladd {i j : Nat} {vs us : List Value} {n m : Nat} (hw : st.wf = true) (e : st.ob[i]? = some (.lst vs n)) (e2 : st.ob[j]? = some (.lst us m)) (hl : vs.length + us.length ≤ 1000) (k : ∀ a, K (.r st.ob.length) (st.add a (.lst (vs ++ us) 0))) : Do c (binaryOp .Add ((RV.r i).den st.ρ) ((RV.r j).den st.ρ)) st K := by
  refine ⟨fun Q s z S hq => kmk_add_lit (its := vs.toArray) (its2 := us.toArray) (zs := vs ++ us) S.F S.N (S.N.isList (S.mem e)) (S.N.isList (S.mem e2)) rfl (fun D h' F' N' l => ?_) (by rw [PySem.sizeLine_eq]; show vs.length + us.length ≤ _; lia)⟩
  have S1 : Sat c (st.add D (.lst (vs ++ us) 0)) h' := S.add hw F' N' l
  have := hq (.r st.ob.length) _ h' s.toks (k D) S1 Ext.add
  have e1 : RV.den (st.add D (.lst (vs ++ us) 0)).ρ (.r st.ob.length) = .ref D := by
    show Value.ref ((st.ρ ++ [D]).getD st.ob.length 0) = _
    rw [← S.len]; simp
  rw [e1] at this
  exact this
end
noncomputable def rItem (many : Nat) : Itm → Nat → List Act
  | _, 0 => []
  | .arr, n + 1 => arrActs many ++ rItem many .arr n
  | .con, _ => []
  | .ido k, n + 1 => arrActs many ++ .step 1 :: rItem many (.ido k) n
theorem rItem_ido (many k : Nat) : ∀ n, rItem many (.ido k) n = rnds many n
  | 0 => rfl
  | n + 1 => by show arrActs many ++ .step 1 :: rItem many (.ido k) n = _; rw [rItem_ido many k n]; rfl
theorem itemActs_arr (many : Nat) (a : Addr) : itemActs many (.arr, a) = rItem many .arr 1 := (List.append_nil _).symm
theorem itemActs_ido (many k : Nat) (a : Addr) : itemActs many (.ido k, a) = rItem many (.ido k) k := (rItem_ido many k k).symm
def DueR (pv : List Value) (led : List (Addr × Obj)) (i : Nat) (v : Value) : Prop := ∃ y p t, pv[i]? = some y ∧ v = .ref p ∧ (p, tupO #[.int 0 t, y, .none]) ∈ led
theorem due_tag (pv : List Value) : CompTag (DueR pv) := ⟨fun _ _ _ _ h ⟨y, p, t, x1, x2, x3⟩ => ⟨y, p, t, x1, x2, h _ x3⟩⟩
theorem FoundAt.of_due {T : List (Addr × Obj)} : ∀ {ys : List Value} {j : Nat}, (∀ (i : Nat) v, ys[i]? = some v → ElemIs T (.pl (j + i)) v) → FoundAt T ((List.range' j ys.length).map .pl) ys
  | [], _, _ => rfl
  | v :: r, j, h => by
    rw [List.length_cons, List.range'_succ, List.map_cons]
    refine ⟨v, r, rfl, h 0 v rfl, FoundAt.of_due (j := j + 1) fun i v' hv => ?_⟩
    have := h (i + 1) v' hv
    rwa [show j + (i + 1) = j + 1 + i by lia] at this
noncomputable abbrev dueX (x : Int) (many : Nat) (k : Nat) : Int := if k = 0 then x else if k = 1 then x + many else x + many + 1
theorem due_err1 {most x : Int} {many : Nat} {r r2 : List Act} (h : most < dueX x many 1) : runA most ((arrActs many ++ r) ++ r2) x = .error (dueX x many 1) := runA_step_no h
theorem due_err2 {most x : Int} {many : Nat} {r r2 : List Act} (h1 : dueX x many 1 ≤ most) (h : most < dueX x many 2) : runA most ((arrActs many ++ .step 1 :: r) ++ r2) x = .error (dueX x many 2) := by
  show runA most (.step many :: ((emits (List.range' 0 many) ++ .step 1 :: r) ++ r2)) x = _
  rw [runA_step_ok h1, List.append_assoc, runA_emits, List.cons_append, runA_step_no h]
  rfl
theorem due_ok1 {most x : Int} {many : Nat} {r r2 : List Act} (h : dueX x many 1 ≤ most) : runA most ((arrActs many ++ r) ++ r2) x = pres ((List.range' 0 many).map .pl) (runA most (r ++ r2) (dueX x many 1)) := by
  show runA most (.step many :: ((emits (List.range' 0 many) ++ r) ++ r2)) x = _
  rw [runA_step_ok h, List.append_assoc, runA_emits]; rfl
theorem due_ok2 {most x : Int} {many : Nat} {r r2 : List Act} (h1 : dueX x many 1 ≤ most) (h : dueX x many 2 ≤ most) : runA most ((arrActs many ++ .step 1 :: r) ++ r2) x = pres ((List.range' 0 many).map .pl) (runA most (r ++ r2) (dueX x many 2)) := by
  rw [due_ok1 h1, List.cons_append]; exact congrArg _ (runA_step_ok h)
structure DP where
  (il rl pls : Addr)
  (ivs rvs pv : List Value)
  (ni nr np many : Nat)
  items : List (Itm × Addr)
  most : Int
  ty : Tok
  T0 : List (Addr × Obj)
  r0 : Except Int (List El × Int)
namespace DP
variable (P : DP)
noncomputable abbrev sub : List (Addr × Obj) := (P.il, listOf P.ivs.toArray P.ni) :: (P.rl, listOf P.rvs.toArray P.nr) :: (P.pls, listOf P.pv.toArray P.np) :: P.T0
noncomputable abbrev fr (x : Int) (tx : Tok) (r : List (Str × RV)) : List (Str × RV) := (Str.ofString "found", .r 3) :: (Str.ofString "gone", .v (.int x tx)) :: (Str.ofString "most", .v (.int P.most P.ty)) :: (Str.ofString "places", .r 2) :: (Str.ofString "rounds", .r 1) :: (Str.ofString "items", .r 0) :: r
noncomputable abbrev ob (fv : List Value) (nf : Nat) (r : List RO) : List RO := .lst P.ivs P.ni :: .lst P.rvs P.nr :: .lst P.pv P.np :: .lst fv nf :: r
structure Com (F T : List (Addr × Obj)) (fs : List El) (fv : List Value) : Prop where
  hT : ∀ p ∈ F ++ P.T0, p ∈ T
  hF : ∀ p ∈ F, ∀ x ∈ P.sub, x.1 ≠ p.1
  hf : FoundAt (F ++ P.T0) fs fv
inductive J0 (fd : Addr) (i : Nat) : XS → Prop
  | ex F T fs fv nf x tx fo (h0 : P.Com F T fs fv) (h1 : P.r0 = pres fs (runA P.most (itemsActs P.many (P.items.drop i)) x)) (h2 : fs.length ≤ 20 * i) (h3 : 0 ≤ x ∧ x ≤ 50) : J0 fd i ⟨[P.il, P.rl, P.pls, fd], P.fr x tx [], P.ob fv nf [], T, [3], [], fo⟩
inductive J1 (fd : Addr) (i : Nat) (ta : Tok) (ce : CE) (k : Itm) (n : Nat) (j : Nat) : XS → Prop
  | ex F T fs fv nf x tx fo (h0 : P.Com F T fs fv) (h1 : P.r0 = pres fs (runA P.most (rItem P.many k (n - j) ++ itemsActs P.many (P.items.drop (i + 1))) x)) (h2 : fs.length ≤ 20 * i + 5 * j) (h3 : 0 ≤ x ∧ x ≤ 50) : J1 fd i ta ce k n j ⟨[P.il, P.rl, P.pls, fd], P.fr x tx [(Str.ofString "at", .v (.int (0 + (i : Int)) ta))], P.ob fv nf [], T, [3], [ce], fo⟩
inductive J2 (fd s1 s2 s3 : Addr) (i : Nat) (ta : Tok) (ce ce2 : CE) (v1 v2 v3 : List Value) (T : List (Addr × Obj)) (fv : List Value) (nf : Nat) (x : Int) (k : Nat) : XS → Prop
  | ex tx fo (h0 : ∀ k', 1 ≤ k' → k' ≤ k → dueX x P.pv.length k' ≤ P.most) : J2 fd s1 s2 s3 i ta ce ce2 v1 v2 v3 T fv nf x k ⟨[P.il, P.rl, P.pls, fd, s1, s2, s3], P.fr (dueX x P.pv.length k) tx [(Str.ofString "at", .v (.int (0 + (i : Int)) ta))], P.ob fv nf [.lst v1 0, .lst v2 0, .lst v3 0], T, [3], [ce2, ce], fo⟩
end DP
theorem off_new {st0 st' : XS} (as : List Addr) (hρ : st'.ρ = st0.ρ ++ as) (ht : ∀ p ∈ st0.tlc, p ∈ st'.tlc) (D : Dis st') (i : Nat) (a : Addr) (hi : st'.mu.contains i = true) (ha : st'.ρ[i]? = some a) (hle : Nat.ble st0.ρ.length i = true) : ∀ x ∈ led st0, x.1 ≠ a := fun x hx => by
  obtain ⟨d1, d2⟩ := D i a (by simpa using hi) ha
  rcases led_at hx with ⟨j, o, h1, _, _⟩ | h
  · have hj : j < st0.ρ.length := (gS h1).1
    have := Nat.le_of_ble_eq_true hle
    exact d1 j x.1 (pre_at hρ h1) (by lia)
  · exact d2 x (ht x h)
theorem due_found {F T : List (Addr × Obj)} {tl2 : List (Addr × Obj)} {fs : List El} {fv ys pv : List Value} {many : Nat} (hf : FoundAt (F ++ T) fs fv) (hA : AllAt (DueR pv) tl2 ys) (hy : ys.length = many) (hpl : ∀ (i : Nat) v, pv[i]? = some v → IsPlace T (3 + (i : Int)) v) : FoundAt ((tl2 ++ F) ++ T) (fs ++ (List.range' 0 many).map .pl) (fv ++ ys) := by
  rw [List.append_assoc]
  refine (hf.mono fun p hp => mR _ hp).app ?_
  rw [← hy]
  refine FoundAt.of_due (j := 0) fun i v hv => ?_
  obtain ⟨y, p, t, h1, h2, h3⟩ := hA i v hv
  refine ⟨p, y, t, h2, mL _ h3, ?_⟩
  have := (hpl i y h1).mono (T' := tl2 ++ (F ++ T)) fun p hp => mR _ (mR _ hp)
  rwa [Nat.zero_add]
theorem EndX.outF {mu : List Addr} {post : Value → List (Addr × Obj) → Prop} {f : RF} {st st' : XS} (mui outs : List Nat) (as : List Addr) (F : List (Addr × Obj)) (hmu : mu = mui.map fun i => st.ρ.getD i 0) (hρ : st'.ρ = st.ρ ++ as) (htl : ∀ p ∈ st.tlc, p ∈ st'.tlc)
    (hl : st.ρ.length = st.ob.length) (hl' : st'.ρ.length = st'.ob.length) (hwf : st.ob.all (RO.wf st.ob.length) = true) (hkeep : keepL mui 0 st.ob = keepL mui 0 (st'.ob.take st.ob.length))
    (hout : outs.all (fun i => Nat.blt i st'.ob.length && (mui.contains i || (Nat.ble st.ob.length i && st'.mu.contains i))) = true) (hmi : mui.all (fun i => Nat.blt i st.ob.length) = true)
    (hF : Dis st' → ∀ p ∈ F, p ∈ st'.tlc ∧ (p.1 ∈ mu ∨ ∀ x ∈ led st, x.1 ≠ p.1)) (hp : Dis st' → post (match f.den st'.ρ with | .ret v => v | _ => .none) (pick st' outs ++ F)) : EndX st mu post f st' := by
  refine ⟨fun D => ?_⟩
  obtain ⟨out, h3, h4, h5⟩ := (EndX.out (post := fun v o => post v (o ++ F)) (f := f) mui outs as hmu hρ htl hl hl' hwf hkeep hout hmi hp).run D
  refine ⟨out ++ F, h3, fun q hq => ?_, h5⟩
  rcases mA hq with h | h
  · exact h4 q h
  · exact ⟨mR _ (hF D q h).1, (hF D q h).2⟩
inductive DuePost (T0 : List (Addr × Obj)) (r0 : Except Int (List El × Int)) (r : Value) (out : List (Addr × Obj)) : Prop
  | ok (rt : Addr) (fs : List El) (g : Int) (tg : Tok) (fd : Addr) (fv : List Value) (nf : Nat) (tl : List (Addr × Obj)) (hr : r = .ref rt) (h : r0 = .ok (fs, g)) (ho : out = (rt, tupO #[.ref fd, .int g tg]) :: (fd, listOf fv.toArray nf) :: tl) (hF : FoundAt (tl ++ T0) fs fv)
  | err (rt : Addr) (g : Int) (tg : Tok) (hr : r = .ref rt) (h : r0 = .error g) (ho : out = [(rt, tupO #[.none, .int g tg])])
theorem DuePost.ref {T0 : List (Addr × Obj)} {r0 : Except Int (List El × Int)} {r : Value} {out : List (Addr × Obj)} (h : DuePost T0 r0 r out) : ∃ rt, r = .ref rt := by
  cases h with
  | ok rt _ _ _ _ _ _ _ h => exact ⟨rt, h⟩
  | err rt _ _ h => exact ⟨rt, h⟩
section
variable {G : GR} (HG : GrF G.K)
include HG
set_option tactic.hygienic true in
theorem c_due (P : DP) (x0 : Int) (tx0 : Tok) (hit : ItemsAt P.T0 P.items P.ivs) (hro : RoundsAt P.items P.rvs) (h3 : P.ivs.length ≤ 3) (hpv : P.pv.length = P.many) (hpl : ∀ (i : Nat) v, P.pv[i]? = some v → IsPlace P.T0 (3 + (i : Int)) v) (hm5 : P.many ≤ 5) (hx : 0 ≤ x0 ∧ x0 ≤ 50) (hy : 1 ≤ P.most ∧ P.most ≤ 50) (hr0 : P.r0 = runA P.most (itemsActs P.many P.items) x0) :
    CT G 600 1500 733 [.ref P.il, .ref P.rl, .ref P.pls, .int P.most P.ty, .int x0 tx0] P.sub []
      (DuePost P.T0 P.r0) never := by
  refine CT.goP HG 60 [P.il, P.rl, P.pls] [.lst P.ivs P.ni, .lst P.rvs P.nr, .lst P.pv P.np] P.T0 [] [.r 0, .r 1, .r 2, .v (.int P.most P.ty), .v (.int x0 tx0)] rfl rfl rfl (fun _ _ _ _ _ _ _ => rfl) rfl (fun _ => Iff.rfl) rfl (fun _ _ h => nomatch h) ?_
  have hl1 := hit.1
  have hl2 := hro.1
  have hr3 : P.rvs.length ≤ 3 := Nat.le_trans (Nat.le_of_eq (hl2.trans hl1.symm)) h3
  intro c frames base Y O hpin
  refine exS_go fun KK hKK => ?_
  intro fd
  refine x_len rfl (ar_k h3) fun t1 => ?_
  refine x_range rfl fun r t8 t9 => ?_
  refine DoI.range O 60 (P.J0 fd) rfl rfl P.ivs.length (ar_small h3) (ar_range _) (fun i st1 hI => ?_) ⟨_, Weak.go (st3 := ⟨[P.il, P.rl, P.pls, fd], P.fr x0 tx0 [], P.ob [] 0 [], P.T0, [3], [], _⟩) 4 [] rfl, ⟨[], P.T0, [], [], 0, x0, tx0, _, ⟨fun p h => h, all_nil, rfl⟩, hr0.trans (pres_nil _).symm, Nat.le_refl _, hx.1, hx.2⟩⟩ (fun i ta I oI st1 hi hI T1 hT1 => ?_) (fun st1 hI => ?_)
  · induction hI; rename_i F T fs fv nf x tx fo _ _ _ _
    exact ExtP.zero hpin rfl
  · induction hI; rename_i F T fs fv nf x tx fo hc hr hfl hx
    have hiv : i < 3 := Nat.lt_of_lt_of_le hi h3
    have hil : i < P.items.length := Nat.lt_of_lt_of_eq hi hl1
    have hia : P.items[i]? = some P.items[i] := List.getElem?_eq_getElem hil
    have hxa : P.ivs[i]? = some P.ivs[i] := List.getElem?_eq_getElem hi
    have hra : P.rvs[i]? = some (P.rvs[i]'(Nat.lt_of_lt_of_eq hil hl2.symm)) := List.getElem?_eq_getElem (Nat.lt_of_lt_of_eq hil hl2.symm)
    have hI := hit.2 i _ _ hia hxa
    have hR := hro.2 i _ _ hia hra
    have hdr := drop_at hia
    generalize P.items[i] = it at hI hR hdr
    obtain ⟨ik, ia⟩ := it
    obtain ⟨hv, hI⟩ := hI
    rw [hv] at hxa
    dsimp only at hxa hI
    rw [hdr] at hr
    have hsub : ∀ p ∈ P.T0, p ∈ T := fun p hp => hc.hT p (mR _ hp)
    refine x_item (.v (.ref ia)) rfl (Int.zero_add _) hxa (ar_k h3) rfl ?_
    cases ik with
    | con =>
      obtain ⟨t0, t1, t2, hT⟩ := hI
      intro t3
      refine x_tupitem (vs := [.str (Str.ofString "const") t0, .int 0 t1, .int 7 t2]) (.str (Str.ofString "const") t0) rfl (fun _ => tl_mem (hsub _ hT)) rfl rfl rfl rfl ?_
      intro t4 t5
      refine x_item (.v (.ref ia)) rfl (Int.zero_add _) hxa (ar_k h3) rfl ?_
      intro p
      refine DoC.sat fun hlen D => ?_
      have hp : ∀ x ∈ P.sub, x.1 ≠ p := off_new (st0 := (⟨[P.il, P.rl, P.pls], [], [.lst P.ivs P.ni, .lst P.rvs P.nr, .lst P.pv P.np], P.T0, [], [], fun _ => none⟩ : XS)) [fd, p] rfl (by exact fun q hq => mR _ (hsub q hq)) D 4 p rfl rfl rfl
      refine x_append (i := 3) rfl rfl (ar_fit1 hc.hf.len hfl hiv) ?_
      refine hT1.ct ⟨_, Weak.go (st3 := ⟨[P.il, P.rl, P.pls, fd], P.fr x tx [], P.ob (fv ++ [.ref p]) (nf + 1) [], (p, tupO #[.int 0 t5, .none, .ref ia]) :: T, [3], _, _⟩) 4 [4] rfl, ⟨(p, tupO #[.int 0 t5, .none, .ref ia]) :: F, _, fs ++ [.con ia], _, _, x, tx, _, ⟨fun q hq => ?_, all_cons hp hc.hF, (hc.hf.mono fun q hq => mC _ hq).app ⟨_, [], rfl, (show ElemIs _ (.con ia) (.ref p) from ⟨p, t5, rfl, List.Mem.head _⟩), rfl⟩⟩, ?_, by rw [List.length_append]; show _ + 1 ≤ _; lia, hx⟩⟩
      · exact (mK hq).elim (fun e => e ▸ mS) fun h => mC _ (hc.hT q h)
      · rw [hr, ← pres_pres]
        exact congrArg (pres fs) (pre1_pres _ _)
    | arr =>
      obtain ⟨t0, t1, t2, hT⟩ := hI
      obtain ⟨tr, hR⟩ := hR
      intro t3
      refine x_tupitem (vs := [.str (Str.ofString "array") t0, .int 0 t1, .str (Str.ofString "A") t2]) (.str (Str.ofString "array") t0) rfl (fun _ => tl_mem (hsub _ hT)) rfl rfl rfl rfl ?_
      intro t4
      refine x_item (.v (.int 1 tr)) rfl (Int.zero_add _) (hra.trans (congrArg some hR)) (ar_k hr3) rfl ?_
      refine x_range rfl fun r t5 t6 => ?_
      refine DoI.range O 60 (P.J1 fd i ta ⟨"", I, oI, none, false, false⟩ .arr 1) rfl rfl 1 (small_one (by decide) (by decide) (by decide) (by decide)) ((rangeSize_nat 0 _).trans rfl) (fun j st1 hI => ?_) ⟨_, Weak.go (st3 := ⟨[P.il, P.rl, P.pls, fd], P.fr x tx [(Str.ofString "at", .v (.int (0 + (i : Int)) ta))], P.ob fv nf [], T, [3], _, _⟩) 4 [] rfl, ⟨F, T, fs, fv, nf, x, tx, _, hc, hr.trans (by rw [Nat.sub_zero, ← itemActs_arr P.many ia]; rfl), hfl, hx⟩⟩ (fun j tj I2 oI2 st1 hj hI T2 hT2 => ?_) (fun st1 hI => ?_)
      · induction hI; rename_i F T fs fv nf x tx fo _ _ _ _
        exact ExtP.zero hpin rfl
      · clear hr hc hsub hfl hx
        induction hI; rename_i F T fs fv nf x tx fo hc hr hfl hx
        refine x_len (i := 2) rfl (ar_k5 hpv hm5) fun u3 => ?_
        intro s1
        refine x_item (.v (.ref ia)) rfl (Int.zero_add _) hxa (ar_k h3) rfl ?_
        intro u4
        refine x_tupitem (vs := [.str (Str.ofString "array") t0, .int 0 t1, .str (Str.ofString "A") t2]) (.str (Str.ofString "array") t0) rfl (fun _ => tl_mem (hc.hT _ (mR _ hT))) rfl rfl rfl rfl ?_
        intro u5 s2
        refine x_ladd (i := 4) (j := 5) rfl rfl rfl (by simp) fun s3 => ?_
        refine DoI.list O 60 (P.J2 fd s1 s2 s3 i ta ⟨"", I, oI, none, false, false⟩ ⟨"", I2, oI2, none, false, false⟩ [.int P.pv.length u3] [] ([.int P.pv.length u3] ++ []) T fv nf x) rfl (j := 6) (vs := ([.int P.pv.length u3] ++ [])) (cap := 0) rfl (fun k2 st1 hI => ?_) ⟨_, Weak.go (st3 := ⟨[P.il, P.rl, P.pls, fd, s1, s2, s3], P.fr (dueX x P.pv.length 0) tx [(Str.ofString "at", .v (.int (0 + (i : Int)) ta))], P.ob fv nf [.lst [.int P.pv.length u3] 0, .lst [] 0, .lst ([.int P.pv.length u3] ++ []) 0], T, [3], _, _⟩) 7 [] rfl, ⟨tx, _, fun k' h1 h2 => absurd h1 (by lia)⟩⟩ (fun k2 v2' I3 oI3 st1 hv2 hI T3 hT3 => ?_) (fun st1 hI => ?_)
        · obtain ⟨tx, fo, _⟩ := hI
          exact ⟨ExtP.zero hpin rfl, rfl, rfl⟩
        · obtain ⟨tx, fo, hkk⟩ := hI
          rcases k2 with _ | k2
          · cases hv2
            intro u8
            refine ifc (fun hb => ?_) (fun hb => ?_)
            · intro rt
              have hb : dueX x P.pv.length 1 > P.most := of_decide_eq_true hb
              have hg : P.r0 = .error (dueX x P.pv.length 1) := by
                rw [hpv] at hb ⊢
                rw [hr, ar_sub hj]
                exact congrArg (pres fs) (due_err1 hb)
              refine hT3.rt (hT2.rt (hT1.rt (hKK _ _ ?_)))
              refine EndX.out [] [7] [fd, s1, s2, s3, rt] rfl rfl (fun p hp => hc.hT p (mR _ hp)) rfl rfl rfl rfl rfl rfl fun D => ?_
              exact .err rt _ u8 rfl hg rfl
            · have hb : ¬ dueX x P.pv.length 1 > P.most := of_decide_eq_false hb
              refine hT3.nx ⟨_, Weak.go (st3 := ⟨[P.il, P.rl, P.pls, fd, s1, s2, s3], P.fr (dueX x P.pv.length 1) u8 [(Str.ofString "at", .v (.int (0 + (i : Int)) ta))], P.ob fv nf [.lst [.int P.pv.length u3] 0, .lst [] 0, .lst ([.int P.pv.length u3] ++ []) 0], T, [3], _, _⟩) 7 [] rfl, ⟨u8, _, fun k' h1 h2 => ?_⟩⟩
              rcases Nat.lt_or_ge k' 1 with h | h
              · exact hkk k' h1 (by lia)
              · have : k' = 1 := by lia
                subst this; exact Int.not_lt.mp hb
          · cases hv2
        · obtain ⟨tx, fo, hkk⟩ := hI
          have hk1 := hkk 1 (Nat.le_refl _) (Nat.le_of_ble_eq_true rfl)
          refine Do.comp O (DueR P.pv) (due_tag _) 40 40 rfl rfl rfl rfl ?_
          refine ⟨rfl, rfl, rfl, 2, P.pv.length, _, rfl, .lst P.pv P.np rfl (ar_k5 hpv hm5) rfl rfl, fun c' C oC I4 oI4 Dl ys tl i4 w _ O' hi4 hw hl hA hn => ?_, fun Dl ys tl hl hA h1 h2 h3 => ?_⟩
          · intro u9 p
            exact ⟨⟨rfl, rfl, rfl, rfl⟩, rfl, w, p, u9, hw, rfl, List.Mem.head _⟩
          · refine x_iadd (i := 3) (j := 7) rfl rfl rfl (ar_fit hc.hf.len hfl hiv hj (by decide) (hl.trans hpv) hm5) ?_
            refine hT2.nx ⟨_, Weak.go (st3 := ⟨[P.il, P.rl, P.pls, fd], P.fr (dueX x P.pv.length 1) tx [(Str.ofString "at", .v (.int (0 + (i : Int)) ta))], P.ob (fv ++ ys) (if ys.length = 0 then nf else nf + 1) [], tl ++ T, [3], _, _⟩) 4 [] rfl, ⟨tl ++ F, tl ++ T, fs ++ (List.range' 0 P.many).map .pl, _, _, dueX x P.pv.length 1, tx, _, ⟨fun p hp => ?_, fun p hp => ?_, ?_⟩, ?_, ?_, ?_⟩⟩
            · rw [List.append_assoc] at hp
              exact (mA hp).elim (fun h => mL _ h) fun h => mR _ (hc.hT p h)
            · rcases mA hp with h | h
              · exact fun x9 hx9 => (h3 p h).all x9 (led_sub (st := (⟨[P.il, P.rl, P.pls], [], [.lst P.ivs P.ni, .lst P.rvs P.nr, .lst P.pv P.np], P.T0, [], [], fun _ => none⟩ : XS)) [fd, s1, s2, s3] _ rfl rfl (by exact fun p hp => mR _ (hc.hT p (mR _ hp))) rfl rfl x9 hx9)
              · exact hc.hF p h
            · exact due_found hc.hf hA (hl.trans hpv) hpl
            · rw [hpv, hr, ar_sub hj, ← pres_pres]
              exact congrArg (pres fs) (due_ok1 (hpv ▸ hk1))
            · rw [List.length_append, List.length_map, List.length_range']; exact ar_new hfl hm5
            · show 0 ≤ dueX x P.pv.length 1 ∧ dueX x P.pv.length 1 ≤ 50
              refine ⟨?_, Int.le_trans hk1 hy.2⟩
              show 0 ≤ x + (P.pv.length : Int)
              exact ar_x hx.1
      · induction hI; rename_i F T fs fv nf x tx fo hc hr hfl hx
        rw [Nat.sub_self] at hr
        exact hT1.nx ⟨_, Weak.go (st3 := ⟨[P.il, P.rl, P.pls, fd], P.fr x tx [], P.ob fv nf [], T, [3], _, _⟩) 4 [] rfl, ⟨F, T, fs, fv, nf, x, tx, _, hc, hr, ar_end hfl (by decide), hx⟩⟩
    | ido m =>
      obtain ⟨hm3, jl, nj, aj, tg, f1, f2, f3, t, hT, -⟩ := hI
      obtain ⟨tr, hR⟩ := hR
      intro t3
      refine x_tupitem (vs := [.str (Str.ofString "ido") (t 0), .ref jl, .ref tg, .ref f1, .ref f2, .ref f3]) (.str (Str.ofString "ido") (t 0)) rfl (fun _ => tl_mem (hsub _ hT)) rfl rfl rfl rfl ?_
      intro t4
      refine x_item (.v (.int m tr)) rfl (Int.zero_add _) (hra.trans (congrArg some hR)) (ar_k hr3) rfl ?_
      refine x_range rfl fun r t5 t6 => ?_
      refine DoI.range O 60 (P.J1 fd i ta ⟨"", I, oI, none, false, false⟩ (.ido m) m) rfl rfl m (ar_small hm3) (ar_range _) (fun j st1 hI => ?_) ⟨_, Weak.go (st3 := ⟨[P.il, P.rl, P.pls, fd], P.fr x tx [(Str.ofString "at", .v (.int (0 + (i : Int)) ta))], P.ob fv nf [], T, [3], _, _⟩) 4 [] rfl, ⟨F, T, fs, fv, nf, x, tx, _, hc, hr.trans (by rw [Nat.sub_zero, ← itemActs_ido P.many m ia]; rfl), hfl, hx⟩⟩ (fun j tj I2 oI2 st1 hj hI T2 hT2 => ?_) (fun st1 hI => ?_)
      · induction hI; rename_i F T fs fv nf x tx fo _ _ _ _
        exact ExtP.zero hpin rfl
      · clear hr hc hsub hfl hx
        induction hI; rename_i F T fs fv nf x tx fo hc hr hfl hx
        refine x_len (i := 2) rfl (ar_k5 hpv hm5) fun u3 => ?_
        intro s1
        refine x_item (.v (.ref ia)) rfl (Int.zero_add _) hxa (ar_k h3) rfl ?_
        intro u4
        refine x_tupitem (vs := [.str (Str.ofString "ido") (t 0), .ref jl, .ref tg, .ref f1, .ref f2, .ref f3]) (.str (Str.ofString "ido") (t 0)) rfl (fun _ => tl_mem (hc.hT _ (mR _ hT))) rfl rfl rfl rfl ?_
        intro u5 u7 s2
        refine x_ladd (i := 4) (j := 5) rfl rfl rfl (by simp) fun s3 => ?_
        refine DoI.list O 60 (P.J2 fd s1 s2 s3 i ta ⟨"", I, oI, none, false, false⟩ ⟨"", I2, oI2, none, false, false⟩ [.int P.pv.length u3] [.int 1 u7] ([.int P.pv.length u3] ++ [.int 1 u7]) T fv nf x) rfl (j := 6) (vs := ([.int P.pv.length u3] ++ [.int 1 u7])) (cap := 0) rfl (fun k2 st1 hI => ?_) ⟨_, Weak.go (st3 := ⟨[P.il, P.rl, P.pls, fd, s1, s2, s3], P.fr (dueX x P.pv.length 0) tx [(Str.ofString "at", .v (.int (0 + (i : Int)) ta))], P.ob fv nf [.lst [.int P.pv.length u3] 0, .lst [.int 1 u7] 0, .lst ([.int P.pv.length u3] ++ [.int 1 u7]) 0], T, [3], _, _⟩) 7 [] rfl, ⟨tx, _, fun k' h1 h2 => absurd h1 (by lia)⟩⟩ (fun k2 v2' I3 oI3 st1 hv2 hI T3 hT3 => ?_) (fun st1 hI => ?_)
        · obtain ⟨tx, fo, _⟩ := hI
          exact ⟨ExtP.zero hpin rfl, rfl, rfl⟩
        · obtain ⟨tx, fo, hkk⟩ := hI
          rcases k2 with _ | k2
          · cases hv2
            intro u8
            refine ifc (fun hb => ?_) (fun hb => ?_)
            · intro rt
              have hb : dueX x P.pv.length 1 > P.most := of_decide_eq_true hb
              have hg : P.r0 = .error (dueX x P.pv.length 1) := by
                rw [hpv] at hb ⊢
                rw [hr, ar_sub hj]
                exact congrArg (pres fs) (due_err1 hb)
              refine hT3.rt (hT2.rt (hT1.rt (hKK _ _ ?_)))
              refine EndX.out [] [7] [fd, s1, s2, s3, rt] rfl rfl (fun p hp => hc.hT p (mR _ hp)) rfl rfl rfl rfl rfl rfl fun D => ?_
              exact .err rt _ u8 rfl hg rfl
            · have hb : ¬ dueX x P.pv.length 1 > P.most := of_decide_eq_false hb
              refine hT3.nx ⟨_, Weak.go (st3 := ⟨[P.il, P.rl, P.pls, fd, s1, s2, s3], P.fr (dueX x P.pv.length 1) u8 [(Str.ofString "at", .v (.int (0 + (i : Int)) ta))], P.ob fv nf [.lst [.int P.pv.length u3] 0, .lst [.int 1 u7] 0, .lst ([.int P.pv.length u3] ++ [.int 1 u7]) 0], T, [3], _, _⟩) 7 [] rfl, ⟨u8, _, fun k' h1 h2 => ?_⟩⟩
              rcases Nat.lt_or_ge k' 1 with h | h
              · exact hkk k' h1 (by lia)
              · have : k' = 1 := by lia
                subst this; exact Int.not_lt.mp hb
          · rcases k2 with _ | k2
            · cases hv2
              have h1 := hkk 1 (Nat.le_refl _) (Nat.le_refl _)
              intro u8
              refine ifc (fun hb => ?_) (fun hb => ?_)
              · intro rt
                have hb : dueX x P.pv.length 2 > P.most := of_decide_eq_true hb
                have hg : P.r0 = .error (dueX x P.pv.length 2) := by
                  rw [hpv] at hb ⊢
                  rw [hr, ar_sub hj]
                  exact congrArg (pres fs) (due_err2 (hpv ▸ h1) hb)
                refine hT3.rt (hT2.rt (hT1.rt (hKK _ _ ?_)))
                refine EndX.out [] [7] [fd, s1, s2, s3, rt] rfl rfl (fun p hp => hc.hT p (mR _ hp)) rfl rfl rfl rfl rfl rfl fun D => ?_
                exact .err rt _ u8 rfl hg rfl
              · have hb : ¬ dueX x P.pv.length 2 > P.most := of_decide_eq_false hb
                refine hT3.nx ⟨_, Weak.go (st3 := ⟨[P.il, P.rl, P.pls, fd, s1, s2, s3], P.fr (dueX x P.pv.length 2) u8 [(Str.ofString "at", .v (.int (0 + (i : Int)) ta))], P.ob fv nf [.lst [.int P.pv.length u3] 0, .lst [.int 1 u7] 0, .lst ([.int P.pv.length u3] ++ [.int 1 u7]) 0], T, [3], _, _⟩) 7 [] rfl, ⟨u8, _, fun k' h1 h2 => ?_⟩⟩
                rcases Nat.lt_or_ge k' 2 with h | h
                · exact hkk k' h1 (by lia)
                · have : k' = 2 := by lia
                  subst this; exact Int.not_lt.mp hb
            · cases hv2
        · obtain ⟨tx, fo, hkk⟩ := hI
          have hk1 := hkk 1 (Nat.le_refl _) (Nat.le_of_ble_eq_true rfl)
          have hk2 := hkk 2 (by decide) (Nat.le_of_ble_eq_true rfl)
          refine Do.comp O (DueR P.pv) (due_tag _) 40 40 rfl rfl rfl rfl ?_
          refine ⟨rfl, rfl, rfl, 2, P.pv.length, _, rfl, .lst P.pv P.np rfl (ar_k5 hpv hm5) rfl rfl, fun c' C oC I4 oI4 Dl ys tl i4 w _ O' hi4 hw hl hA hn => ?_, fun Dl ys tl hl hA h1 h2 h3 => ?_⟩
          · intro u9 p
            exact ⟨⟨rfl, rfl, rfl, rfl⟩, rfl, w, p, u9, hw, rfl, List.Mem.head _⟩
          · refine x_iadd (i := 3) (j := 7) rfl rfl rfl (ar_fit hc.hf.len hfl hiv hj hm3 (hl.trans hpv) hm5) ?_
            refine hT2.nx ⟨_, Weak.go (st3 := ⟨[P.il, P.rl, P.pls, fd], P.fr (dueX x P.pv.length 2) tx [(Str.ofString "at", .v (.int (0 + (i : Int)) ta))], P.ob (fv ++ ys) (if ys.length = 0 then nf else nf + 1) [], tl ++ T, [3], _, _⟩) 4 [] rfl, ⟨tl ++ F, tl ++ T, fs ++ (List.range' 0 P.many).map .pl, _, _, dueX x P.pv.length 2, tx, _, ⟨fun p hp => ?_, fun p hp => ?_, ?_⟩, ?_, ?_, ?_⟩⟩
            · rw [List.append_assoc] at hp
              exact (mA hp).elim (fun h => mL _ h) fun h => mR _ (hc.hT p h)
            · rcases mA hp with h | h
              · exact fun x9 hx9 => (h3 p h).all x9 (led_sub (st := (⟨[P.il, P.rl, P.pls], [], [.lst P.ivs P.ni, .lst P.rvs P.nr, .lst P.pv P.np], P.T0, [], [], fun _ => none⟩ : XS)) [fd, s1, s2, s3] _ rfl rfl (by exact fun p hp => mR _ (hc.hT p (mR _ hp))) rfl rfl x9 hx9)
              · exact hc.hF p h
            · exact due_found hc.hf hA (hl.trans hpv) hpl
            · rw [hpv, hr, ar_sub hj, ← pres_pres]
              exact congrArg (pres fs) (due_ok2 (hpv ▸ hk1) (hpv ▸ hk2))
            · rw [List.length_append, List.length_map, List.length_range']; exact ar_new hfl hm5
            · show 0 ≤ dueX x P.pv.length 2 ∧ dueX x P.pv.length 2 ≤ 50
              refine ⟨?_, Int.le_trans hk2 hy.2⟩
              show 0 ≤ x + (P.pv.length : Int) + 1
              exact ar_x1 hx.1
      · induction hI; rename_i F T fs fv nf x tx fo hc hr hfl hx
        rw [Nat.sub_self] at hr
        exact hT1.nx ⟨_, Weak.go (st3 := ⟨[P.il, P.rl, P.pls, fd], P.fr x tx [], P.ob fv nf [], T, [3], _, _⟩) 4 [] rfl, ⟨F, T, fs, fv, nf, x, tx, _, hc, hr, ar_end hfl hm3, hx⟩⟩
  · induction hI; rename_i F T fs fv nf x tx fo hc hr hfl hx
    intro rt
    rw [List.drop_eq_nil_of_le (by lia)] at hr
    have hg : P.r0 = .ok (fs, x) := hr.trans (congrArg (fun l => Except.ok (l, x)) (List.append_nil fs))
    refine hKK _ _ ?_
    refine EndX.outF [] [4, 3] [fd, rt] F rfl rfl (fun p hp => hc.hT p (mR _ hp)) rfl rfl rfl rfl rfl rfl (fun _ p hp => ⟨hc.hT p (mL _ hp), .inr (hc.hF p hp)⟩) fun D => ?_
    exact .ok rt fs x tx fd fv nf F rfl hg rfl hc.hf
end
end
section
noncomputable abbrev machE (q : Nat → Int) (t : Nat → Tok) (u : Nat → Value) (mm li tr : RV) (x : Int) (tx : Tok) : RO :=
  .dict [(q 0, Str.ofString "memory", t 0, mm), (q 1, Str.ofString "limits", t 1, li), (q 2, Str.ofString "codes", t 2, .v (u 2)), (q 3, Str.ofString "frames", t 3, .v (u 3)), (q 4, Str.ofString "ops", t 4, .v (u 4)), (q 5, Str.ofString "operations", t 5, .v (u 5)), (q 6, Str.ofString "io", t 6, .v (u 6)), (q 7, Str.ofString "enter", t 7, .v (u 7)), (q 8, Str.ofString "world", t 8, .v (u 8)), (q 9, Str.ofString "library", t 9, .v (u 9)), (q 10, Str.ofString "functions", t 10, .v (u 10)),
    (q 11, Str.ofString "clears", t 11, .v (u 11)), (q 12, Str.ofString "places", t 12, .v (u 12)), (q 13, Str.ofString "units", t 13, .v (u 13)), (q 14, Str.ofString "active", t 14, .v (u 14)), (q 15, Str.ofString "transfers", t 15, tr), (q 16, Str.ofString "steps", t 16, .v (.int x tx))] 17
structure MP where
  a : Nat → Addr
  q : Nat → Nat → Int
  t : Nat → Nat → Tok
  u : Nat → Nat → Value
  y : Int
  ch : Value
  many : Nat
namespace MP
variable (P : MP)
noncomputable abbrev grd (tr : RV) (x : Int) (tx : Tok) (its : List Value) (n : Nat) : List RO :=
  [.inst 628 1, machE (P.q 0) (P.t 0) (P.u 0) (.r 4) (.r 2) tr x tx, .inst 607 3, .dict (limE (P.q 1) (P.t 1) (P.u 1) P.y (P.t 1 8)) 8, .inst 253 5, memE (P.q 2) (P.t 2) (.r 6) P.ch, .lst its n,
   .tup [.v (.int 0 (P.t 3 0)), .v (.int 3 (P.t 3 1)), .v (.int 0 (P.t 3 2)), .r 8], .tup [.r 9], .tup [.v (.int 1 (P.t 3 3)), .v (.int P.many (P.t 3 4))]]
noncomputable abbrev rho : List Addr := [P.a 0, P.a 1, P.a 2, P.a 3, P.a 4, P.a 5, P.a 6, P.a 7, P.a 8, P.a 9]
noncomputable abbrev machO (tr : Value) (x : Int) (tx : Tok) : Obj := (machE (P.q 0) (P.t 0) (P.u 0) (.v (.ref (P.a 4))) (.v (.ref (P.a 2))) (.v tr) x tx).den []
noncomputable abbrev gst (fr : List (Str × RV)) (tr : RV) (x : Int) (tx : Tok) (its : List Value) (n : Nat) : XS := ⟨P.rho, fr, P.grd tr x tx its n, [], [1], [], fun _ => none⟩
inductive Ne (b : Addr) : Prop
  | mk (n0 : P.a 0 ≠ b) (n2 : P.a 2 ≠ b) (n3 : P.a 3 ≠ b) (n4 : P.a 4 ≠ b) (n5 : P.a 5 ≠ b) (n6 : P.a 6 ≠ b) (n7 : P.a 7 ≠ b) (n8 : P.a 8 ≠ b) (n9 : P.a 9 ≠ b)
end MP
theorem cut_at {st : XS} {n0 j : Nat} {a : Addr} {o : RO} (h : j < n0) (h1 : st.ρ[j]? = some a) (h2 : st.ob[j]? = some o) : (a, o.den st.ρ) ∈ cutL n0 st := by
  refine mL _ (List.mem_iff_getElem?.mpr ⟨j, ?_⟩)
  rw [List.getElem?_take_of_lt h, List.getElem?_zip_eq_some]
  exact ⟨h1, by rw [List.getElem?_map, h2]; rfl⟩
theorem cut_at' {st : XS} {n0 : Nat} {b : Addr × Obj} (j : Nat) {a : Addr} {o : RO} (h1 : st.ρ[j]? = some a) (h2 : st.ob[j]? = some o) (h : Nat.blt j n0 = true) (e : b = (a, o.den st.ρ)) : b ∈ cutL n0 st := e ▸ cut_at (Nat.le_of_ble_eq_true h) h1 h2
theorem cut_keep {st0 st : XS} (mui : List Nat) (as : List Addr) {n0 : Nat} (hρ : st.ρ = st0.ρ ++ as) (hl : st0.ρ.length = st0.ob.length) (hk : keepL mui 0 st0.ob = keepL mui 0 (st.ob.take st0.ob.length)) (hw : st0.ob.all (RO.wf st0.ob.length) = true) (hle : Nat.ble st0.ob.length st.ob.length = true) (ht : ∀ p ∈ st0.tlc, p ∈ st.tlc) (hn : Nat.ble st0.ob.length n0 = true) :
    (∀ q ∈ led st0, q.1 ∈ mui.map (fun i => st0.ρ.getD i 0) ∨ q ∈ cutL n0 st) ∧ ∀ q ∈ led st0, q.1 ∈ (cutL n0 st).map (·.1) := by
  have hn := Nat.le_of_ble_eq_true hn
  have hle := Nat.le_of_ble_eq_true hle
  have key : ∀ {j : Nat} {a : Addr} {o : RO}, st0.ρ[j]? = some a → st0.ob[j]? = some o → j < n0 ∧ st.ρ[j]? = some a ∧ j < st.ob.length := fun {j a o} h1 h2 => by
    have hj : j < st0.ob.length := (gS h2).1
    exact ⟨by lia, pre_at hρ h1, by lia⟩
  refine ⟨fun q hq => ?_, fun q hq => ?_⟩
  · rcases led_at hq with ⟨j, o, h1, h2, h3⟩ | h
    · obtain ⟨k1, k2, k3⟩ := key h1 h2
      cases hj : mui.contains j with
      | true => exact .inl (List.mem_map.mpr ⟨j, by simpa using hj, by rw [List.getD_eq_getElem?_getD, h1]; rfl⟩)
      | false =>
        refine .inr ?_
        have := cut_at k1 k2 (keep_is hk h2 hj)
        rw [show o.den st.ρ = o.den st0.ρ by rw [hρ]; exact RO.den_grow (Nat.le_of_eq hl.symm) as o (aT hw o (List.mem_of_getElem? h2)), ← h3] at this
        exact this
    · exact .inr (mR _ (ht q h))
  · rcases led_at hq with ⟨j, o, h1, h2, h3⟩ | h
    · obtain ⟨k1, k2, k3⟩ := key h1 h2
      exact List.mem_map.mpr ⟨_, cut_at k1 k2 (List.getElem?_eq_getElem k3), rfl⟩
    · exact List.mem_map_of_mem (mR _ (ht q h))
inductive countPost (P : MP) (tr : Value) (x : Int) : Value → List (Addr × Obj) → Prop
  | ok (lo : Addr) (xs : List Value) (tl : List (Addr × Obj)) (u1 : Tok) (hle : x + P.many ≤ P.y) (g1 : xs.length = P.many) (g2 : AllAt PlaceR tl xs) (g3 : NeAll lo tl) (g4 : ∀ q ∈ (lo, LCg.lst xs) :: tl, q.1 ≠ P.a 1) : countPost P tr x (.ref lo) ((P.a 1, P.machO tr (x + P.many) u1) :: (lo, LCg.lst xs) :: tl)
theorem countPost.of {P : MP} {tr : Value} {x : Int} {r : Value} {out : List (Addr × Obj)} (lo : Addr) (xs : List Value) (tl : List (Addr × Obj)) (u1 : Tok) (e1 : r = .ref lo) (e2 : out = (P.a 1, P.machO tr (x + P.many) u1) :: (lo, LCg.lst xs) :: tl) (hle : x + P.many ≤ P.y) (g1 : xs.length = P.many) (g2 : AllAt PlaceR tl xs) (g3 : NeAll lo tl) (g4 : ∀ q ∈ (lo, LCg.lst xs) :: tl, q.1 ≠ P.a 1) : countPost P tr x r out := by
  subst e1 e2
  exact ⟨lo, xs, tl, u1, hle, g1, g2, g3, g4⟩
section
variable {G : GR} (HG : GrF G.K)
include HG
theorem c_counted (P : MP) (its : List Value) (n : Nat) (tr : Value) (x : Int) (tx : Tok) (hN : P.Ne (P.a 1)) (h20 : its.length = 20) (hm : P.many ≤ 5) (hx : 0 ≤ x ∧ x ≤ 800) (hy : 0 ≤ P.y ∧ P.y ≤ 900) :
    CT G 500 1000 547 [.ref (P.a 0), .ref (P.a 7)] (led (P.gst [] (.v tr) x tx its n)) [P.a 1]
      (countPost P tr x)
      (fun k out => P.y < x + P.many ∧ k = P.y ∧ ∃ u1, out = [(P.a 1, P.machO tr (x + P.many) u1)]) := by
  obtain ⟨n0, n2, n3, n4, n5, n6, n7, n8, n9⟩ := hN
  refine CT.go HG 40 P.rho (P.grd (.v tr) x tx its n) [] [1] [.r 0, .r 7] rfl rfl rfl (fun _ _ _ _ _ _ _ => rfl) rfl (fun _ => Iff.rfl) rfl (Dis.of ⟨⟨⟨n0, trivial, n2, n3, n4, n5, n6, n7, n8, n9, trivial⟩, all_nil⟩, trivial⟩) ?_
  intro c frames base Y O
  refine exS_fin fun KK hKK => ?_
  refine u_held Y (P.q 2) (P.t 2) (im := 4) (idd := 5) (il := 6) (ip := 7) (j := 8) (k := 9) rfl rfl rfl rfl rfl rfl rfl (by lia) h20 rfl rfl fun lo xs tl g1 g2 g3 g4 g5 => ?_
  refine x_len rfl (by lia) fun t1 => ?_
  intro u1 q2 t2
  have hl : ((xs.length : Nat) : Int) = P.many := by lia
  refine ifc (fun hb => ?_) (fun hb => ?_)
  · have hb : x + (xs.length : Int) > P.y := of_decide_eq_true hb
    rw [hl] at hb
    refine DoF.raise Y O 40 ?_
    refine DoC.exc Y 40 rfl rfl rfl fun e t0 c1 F1 B1 Y1 O1 _ => ?_
    intro t3
    refine DoC.inlK Y1 40 rfl rfl rfl rfl (fun _ _ _ _ _ _ _ => rfl) fun c2 F2 B2 Y2 O2 K1 hK1 => ?_
    refine x_excinit Y2 rfl rfl fun t4 => ?_
    refine x_excset0 Y2 rfl rfl rfl rfl HG.x108.2.2.2.2.1 fun d q3 t5 => ?_
    refine hK1 ?_
    refine x_excset1 Y1 (j := 12) rfl rfl rfl rfl HG.x108.2.2.2.2.2 rfl fun q4 t6 => ?_
    refine ⟨11, 12, t4, d, _, _, _, _, _, _, _, rfl, rfl, rfl, rfl, rfl, ?_⟩
    refine ⟨[(P.a 1, P.machO tr (x + P.many) u1)], (by exact (cut_keep (st0 := P.gst [] (.v tr) x tx its n) [1] [lo, e, d] rfl rfl rfl rfl rfl (fun _ h => nomatch h) rfl).1), (by exact (cut_keep (st0 := P.gst [] (.v tr) x tx its n) [1] [lo, e, d] rfl rfl rfl rfl rfl (fun _ h => nomatch h) rfl).2), all_cons ⟨?_, .inl (List.Mem.head _)⟩ all_nil, hb, rfl, u1, rfl⟩
    rw [← hl]
    exact cut_at' 1 rfl rfl rfl rfl
  · have hb : ¬ x + (xs.length : Int) > P.y := of_decide_eq_false hb
    rw [hl] at hb
    have g6 : ∀ p ∈ tl, p.1 ≠ P.a 1 := fun p hp => ((g5 p hp).all _ (mem_led (st := P.gst [] (.v tr) x tx its n) (i := 1) rfl rfl)).symm
    have g7 : lo ≠ P.a 1 := (g4.all _ (mem_led (st := P.gst [] (.v tr) x tx its n) (i := 1) rfl rfl)).symm
    subst hKK
    refine EndX.outF [1] [1, 10] [lo] tl rfl rfl (fun _ h => (nomatch h)) rfl rfl rfl rfl rfl rfl (fun D p hp => ⟨mR _ (mL _ hp), .inr (g5 p hp).all⟩) fun D => ?_
    have e1 : xs.length = P.many := by lia
    refine countPost.of lo xs tl u1 rfl ?_ (Int.not_lt.mp hb) e1 g2 g3 (all_cons g7 g6)
    rw [← hl]
    rfl
end
end
section
noncomputable abbrev outE (q : Nat → Int) (t : Nat → Tok) (oi : RV) (z : Int) (tz : Tok) : RO := .dict [(q 0, Str.ofString "items", t 0, oi), (q 1, Str.ofString "size", t 1, .v (.int z tz))] 2
noncomputable abbrev outO (q : Nat → Int) (t : Nat → Tok) (oi : Addr) (z : Int) (tz : Tok) : Obj := (outE q t (.v (.ref oi)) z tz).den []
def PutAt (T : List (Addr × Obj)) (zs : List Int) (xs : List Value) : Prop := xs.length = zs.length ∧ ∀ (i : Nat) z v, zs[i]? = some z → xs[i]? = some v → ∃ p t t', v = .ref p ∧ (p, tupO #[.int 0 t, .int z t']) ∈ T
theorem PutAt.mono {T T' : List (Addr × Obj)} {zs : List Int} {xs : List Value} (h : ∀ p ∈ T, p ∈ T') (x : PutAt T zs xs) : PutAt T' zs xs :=
  ⟨x.1, fun i z v h1 h2 => let ⟨p, t, t', a, b⟩ := x.2 i z v h1 h2; ⟨p, t, t', a, h _ b⟩⟩
theorem PutAt.app {T : List (Addr × Obj)} {zs zs' : List Int} {xs xs' : List Value} (x : PutAt T zs xs) (y : PutAt T zs' xs') : PutAt T (zs ++ zs') (xs ++ xs') := by
  refine ⟨by rw [List.length_append, List.length_append, x.1, y.1], fun i z v h1 h2 => ?_⟩
  rcases Nat.lt_or_ge i zs.length with hl | hl
  · rw [List.getElem?_append_left hl] at h1
    rw [List.getElem?_append_left (by rw [x.1]; exact hl)] at h2
    exact x.2 i z v h1 h2
  · rw [List.getElem?_append_right hl] at h1
    rw [List.getElem?_append_right (by rw [x.1]; exact hl), x.1] at h2
    exact y.2 _ z v h1 h2
theorem PutAt.one {T : List (Addr × Obj)} {z : Int} {p : Addr} {t t' : Tok} (h : (p, tupO #[.int 0 t, .int z t']) ∈ T) : PutAt T [z] [.ref p] := ⟨rfl, fun i z' v h1 h2 => by
  rcases i with _ | i
  · obtain rfl := Option.some.inj h1
    obtain rfl := Option.some.inj h2
    exact ⟨p, t, t', rfl, h⟩
  · cases h1⟩
theorem PutAt.nil {T : List (Addr × Obj)} : PutAt T [] [] := ⟨rfl, fun i z v h => nomatch h⟩
def CellsAt (T : List (Addr × Obj)) (its : List Value) (zs : List Int) : Prop := ∀ (j : Nat) z, zs[j]? = some z → ∃ c t t', its[3 + j]? = some (.ref c) ∧ (c, tupO #[.int 0 t, .int z t']) ∈ T
theorem CellsAt.mono {T T' : List (Addr × Obj)} {its : List Value} {zs : List Int} (h : ∀ p ∈ T, p ∈ T') (x : CellsAt T its zs) : CellsAt T' its zs := fun j z hz => let ⟨c, t, t', a, b⟩ := x j z hz; ⟨c, t, t', a, h _ b⟩
structure QP where
  P : MP
  (tr tt po pod oi vl : Addr)
  (e1 e2 : Value)
  (q5 : Nat → Int)
  (t5 : Nat → Tok)
  (its ws : List Value)
  (zs : List Int)
  (n ntr nv : Nat)
  (x z : Int)
  T0 : List (Addr × Obj)
namespace QP
variable (P : QP)
noncomputable abbrev rho : List Addr := P.P.rho ++ [P.tr, P.tt, P.po, P.pod, P.oi, P.vl]
noncomputable abbrev ob (x : Int) (tx : Tok) (z : Int) (tz : Tok) (wl : List Value) (nw : Nat) : List RO := P.P.grd (.r 10) x tx P.its P.n ++ [.lst [.ref P.tt] P.ntr, .tup [.r 12, .v P.e1, .v P.e2, .v .none], .inst 675 13, outE P.q5 P.t5 (.r 14) z tz, .lst wl nw, .lst [.ref (P.P.a 7)] P.nv]
noncomputable abbrev st0 (fr : List (Str × RV)) (tx tz : Tok) (nw : Nat) : XS := ⟨P.rho, fr, P.ob P.x tx P.z tz P.ws nw, P.T0, [1, 13, 14], [], fun _ => none⟩
noncomputable abbrev sub (tx tz : Tok) (nw : Nat) : List (Addr × Obj) := led (P.st0 [] tx tz nw)
inductive Ok : Prop
  | mk (d1 : P.P.Ne (P.P.a 1)) (d2 : P.P.Ne P.pod) (d3 : P.P.Ne P.oi) (m1 : P.tr ≠ P.P.a 1 ∧ P.tt ≠ P.P.a 1 ∧ P.po ≠ P.P.a 1 ∧ P.pod ≠ P.P.a 1 ∧ P.oi ≠ P.P.a 1 ∧ P.vl ≠ P.P.a 1) (m2 : P.tr ≠ P.pod ∧ P.tt ≠ P.pod ∧ P.po ≠ P.pod ∧ P.oi ≠ P.pod ∧ P.vl ≠ P.pod) (m3 : P.tr ≠ P.oi ∧ P.tt ≠ P.oi ∧ P.po ≠ P.oi ∧ P.vl ≠ P.oi) (t1 : NeAll (P.P.a 1) P.T0) (t2 : NeAll P.pod P.T0) (t3 : NeAll P.oi P.T0) (h20 : P.its.length = 20) (m5 : P.P.many ≤ 5) (hx : 0 ≤ P.x ∧ P.x ≤ 800) (hy : 0 ≤ P.P.y ∧ P.P.y ≤ 900) (hz : 0 ≤ P.z ∧ P.z ≤ 100) (hw : P.ws.length ≤ 100) (hc : CellsAt P.T0 P.its P.zs) (hzs : P.zs.length = P.P.many)
inductive J (tx tz : Tok) (nw : Nat) (lo : Addr) (xs : List Value) (i : Nat) : XS → Prop
  | ex F T us u1 u2 nw' fo (h0 : (∀ p ∈ F ++ P.T0, p ∈ T)) (h1 : (∀ p ∈ F, ∀ y ∈ P.sub tx tz nw, y.1 ≠ p.1)) (h2 : PutAt F (P.zs.take i) us) (h3 : AllAt PlaceR T xs) : J tx tz nw lo xs i ⟨P.rho ++ [lo], [(Str.ofString "machine", .r 0), (Str.ofString "rest", .v .none)], P.ob (P.x + P.P.many) u1 (P.z + (i : Int)) u2 (P.ws ++ us) nw' ++ [.lst xs xs.length], T, [1, 13, 14, 16], [], fo⟩
theorem J.of {P : QP} {tx tz : Tok} {nw : Nat} {lo : Addr} {xs : List Value} {i : Nat} {st : XS} (F T us u1 u2 nw' fo) (e : st = ⟨P.rho ++ [lo], [(Str.ofString "machine", .r 0), (Str.ofString "rest", .v .none)], P.ob (P.x + P.P.many) u1 (P.z + (i : Int)) u2 (P.ws ++ us) nw' ++ [.lst xs xs.length], T, [1, 13, 14, 16], [], fo⟩) (h0 : (∀ p ∈ F ++ P.T0, p ∈ T)) (h1 : (∀ p ∈ F, ∀ y ∈ P.sub tx tz nw, y.1 ≠ p.1)) (h2 : PutAt F (P.zs.take i) us) (h3 : AllAt PlaceR T xs) : J P tx tz nw lo xs i st := e ▸ ⟨F, T, us, u1, u2, nw', fo, h0, h1, h2, h3⟩
end QP
inductive QP.Facts (P : QP) (tx tz : Tok) (nw : Nat) : Prop
  | mk (hD : Dis (mkst P.rho (P.ob P.x tx P.z tz P.ws nw) P.T0 [1, 13, 14])) (hN : P.P.Ne (P.P.a 1)) (m14 : P.pod ≠ P.P.a 1) (m15 : P.oi ≠ P.P.a 1) (h20 : P.its.length = 20) (m5 : P.P.many ≤ 5) (hx : 0 ≤ P.x ∧ P.x ≤ 800) (hy : 0 ≤ P.P.y ∧ P.P.y ≤ 900) (hz : 0 ≤ P.z ∧ P.z ≤ 100) (hw : P.ws.length ≤ 100) (hc : CellsAt P.T0 P.its P.zs) (hzs : P.zs.length = P.P.many)
theorem QP.Ok.facts {P : QP} (H : P.Ok) (tx tz : Tok) (nw : Nat) : P.Facts tx tz nw := by
  obtain ⟨⟨a0, a2, a3, a4, a5, a6, a7, a8, a9⟩, ⟨b0, b2, b3, b4, b5, b6, b7, b8, b9⟩, ⟨c0, c2, c3, c4, c5, c6, c7, c8, c9⟩, ⟨m11, m12, m13, m14, m15, m16⟩, ⟨m21, m22, m23, m24, m25⟩, ⟨m31, m32, m33, m34⟩, t1, t2, t3, h20, m5, hx, hy, hz, hw, hc, hzs⟩ := H
  exact ⟨Dis.of ⟨⟨⟨a0, trivial, a2, a3, a4, a5, a6, a7, a8, a9, m11, m12, m13, m14, m15, m16, trivial⟩, t1.all⟩, ⟨⟨b0, m14.symm, b2, b3, b4, b5, b6, b7, b8, b9, m21, m22, m23, trivial, m24, m25, trivial⟩, t2.all⟩, ⟨⟨c0, m15.symm, c2, c3, c4, c5, c6, c7, c8, c9, m31, m32, m33, m24.symm, trivial, m34, trivial⟩, t3.all⟩, trivial⟩, ⟨a0, a2, a3, a4, a5, a6, a7, a8, a9⟩, m14, m15, h20, m5, hx, hy, hz, hw, hc, hzs⟩
inductive putPost (P : QP) (tx tz : Tok) (nw : Nat) : Value → List (Addr × Obj) → Prop
  | ok (us : List Value) (tl : List (Addr × Obj)) (u1 u2 u3 : Tok) (nw' : Nat) (hle : P.x + P.P.many ≤ P.P.y) (hput : PutAt tl P.zs us) (hne : ∀ p ∈ tl, ∀ y ∈ P.sub tx tz nw, y.1 ≠ p.1) : putPost P tx tz nw (.int (-1) u3) ((P.P.a 1, P.P.machO (.ref P.tr) (P.x + P.P.many) u1) :: (P.pod, outO P.q5 P.t5 P.oi (P.z + P.P.many) u2) :: (P.oi, listOf (P.ws ++ us).toArray nw') :: tl)
theorem putPost.of {P : QP} {tx tz : Tok} {nw : Nat} {r : Value} {out : List (Addr × Obj)} (us : List Value) (tl : List (Addr × Obj)) (u1 u2 u3 : Tok) (nw' : Nat) (e1 : r = .int (-1) u3) (e2 : out = (P.P.a 1, P.P.machO (.ref P.tr) (P.x + P.P.many) u1) :: (P.pod, outO P.q5 P.t5 P.oi (P.z + P.P.many) u2) :: (P.oi, listOf (P.ws ++ us).toArray nw') :: tl) (hle : P.x + P.P.many ≤ P.P.y) (hput : PutAt tl P.zs us) (hne : ∀ p ∈ tl, ∀ y ∈ P.sub tx tz nw, y.1 ≠ p.1) : putPost P tx tz nw r out := by
  subst e1 e2
  exact ⟨us, tl, u1, u2, u3, nw', hle, hput, hne⟩
section
variable {G : GR} (HG : GrF G.K)
include HG
set_option tactic.hygienic true in
theorem c_putall (P : QP) (tx tz : Tok) (nw : Nat) (H : P.Ok) :
    CT G 450 900 575 [.ref (P.P.a 0), .ref P.vl, .none] (P.sub tx tz nw) [P.P.a 1, P.pod, P.oi]
      (putPost P tx tz nw)
      (fun k out => P.P.y < P.x + P.P.many ∧ k = P.P.y ∧ ∃ u1, out = [(P.P.a 1, P.P.machO (.ref P.tr) (P.x + P.P.many) u1), (P.pod, outO P.q5 P.t5 P.oi P.z tz), (P.oi, listOf P.ws.toArray nw)]) := by
  obtain ⟨hD, hN, m14, m15, h20, m5, hx, hy, hz, hw, hc, hzs⟩ := H.facts tx tz nw
  refine CT.goP HG 40 P.rho (P.ob P.x tx P.z tz P.ws nw) P.T0 [1, 13, 14] [.r 0, .r 15, .v .none] rfl rfl rfl (fun _ _ _ _ _ _ _ => rfl) rfl (fun _ => Iff.rfl) rfl
    hD ?_
  intro c frames base Y O hpin
  refine exS_fin fun KK hKK => ?_
  intro t1
  refine x_item (.r 7) rfl rfl rfl (by simp) rfl ?_
  refine Do.use Y (fun hl hne => c_counted Y.HG P.P P.its P.n (.ref P.tr) P.x tx hN h20 m5 hx hy) [1] rfl rfl
    (fun hl => by exact all_cons (mem_led (i := 0) hl rfl) (all_cons (mem_led (i := 1) hl rfl) (all_cons (mem_led (i := 2) hl rfl) (all_cons (mem_led (i := 3) hl rfl) (all_cons (mem_led (i := 4) hl rfl) (all_cons (mem_led (i := 5) hl rfl) (all_cons (mem_led (i := 6) hl rfl) (all_cons (mem_led (i := 7) hl rfl) (all_cons (mem_led (i := 8) hl rfl) (all_cons (mem_led (i := 9) hl rfl) all_nil)))))))))) rfl rfl ?_ ?_ rfl
  · rintro r out ⟨lo, xs, tl, u1, hle, g1, g2, g3, g4⟩ hn D hl A
    have n1 := new_of hn (g4 _ mS) (List.Mem.tail _ (List.Mem.head _))
    have n2 : ∀ p ∈ tl, NeAll p.1 (led _) := fun p hp => new_of (b := p.1) (o := p.2) hn (g4 p (mC _ hp)) (List.Mem.tail _ (List.Mem.tail _ hp))
    refine ⟨.r 16, _, rfl, Next.gen2 1 (machE (P.P.q 0) (P.P.t 0) (P.P.u 0) (.r 4) (.r 2) (.r 10) (P.x + P.P.many) u1) [lo] [.lst xs xs.length] tl [1, 13, 14, 16] hl rfl D A rfl rfl (all_cons n1 all_nil) (.cons all_nil .nil) (fun p hp => ⟨List.Mem.tail _ (List.Mem.tail _ hp), n2 p hp, all_cons (fun e => g3.all p hp e.symm) all_nil⟩) rfl (List.Mem.head _) ⟨List.Mem.tail _ (List.Mem.head _), trivial⟩, ?_⟩
    have hsub0 : ∀ p ∈ P.T0, p ∈ tl ++ P.T0 := fun p hp => mR _ hp
    refine DoI.list O 60 (P.J tx tz nw lo xs) rfl (j := 16) (vs := xs) (cap := xs.length) rfl (fun i st1 hI => ?_) ⟨_, Weak.of (st3 := ⟨P.rho ++ [lo], [(Str.ofString "machine", .r 0), (Str.ofString "rest", .v .none)], P.ob (P.x + P.P.many) u1 (P.z + ((0 : Nat) : Int)) tz (P.ws ++ []) nw ++ [.lst xs xs.length], tl ++ P.T0, [1, 13, 14, 16], [], _⟩) 17 [] rfl rfl (by show P.ob (P.x + P.P.many) u1 (P.z + ((0 : Nat) : Int)) tz (P.ws ++ []) nw ++ [.lst xs xs.length] = _; rw [show P.z + ((0 : Nat) : Int) = P.z by lia, List.append_nil]; rfl) rfl rfl rfl rfl (all_cons rfl (all_cons rfl all_nil)) (fun _ h => .inl h) rfl, ⟨[], tl ++ P.T0, [], u1, tz, nw, _, hsub0, all_nil, PutAt.nil, fun i v hv => (show IsPlace tl (3 + i) v from g2 i v hv).mono fun p hp => mL _ hp⟩⟩ (fun i v I oI st1 hv hI TT hTT => ?_) (fun st1 hI => ?_)
    · induction hI; rename_i F T us v1 v2 nw' fo _ _ _ _
      exact ⟨ExtP.zero hpin rfl, rfl, rfl⟩
    · induction hI; rename_i F T us v1 v2 nw' fo hT hF hput hpl
      obtain ⟨pp, pe, p0, p1, p2, rfl, hpp, -⟩ : IsPlace T (3 + i) v := hpl i v hv
      have hi : i < P.zs.length := by have := (gS hv).1; lia
      obtain ⟨cc, k0, k1, hcc, hct⟩ := hc i P.zs[i] (List.getElem?_eq_getElem hi)
      have hul : us.length = i := by rw [hput.1, List.length_take]; lia
      refine u_load Y (P.P.q 2) (P.P.t 2) (im := 4) (idd := 5) (il := 6) (k := 3 + i) (its := P.its) rfl rfl rfl rfl (fun _ => tl_mem hpp) (by lia) (by lia) hcc (fun _ => tl_mem (hT _ (mR _ hct))) rfl rfl ?_
      intro vl2 w1
      refine x_tupitem (vs := [.int 0 p0, .int (3 + i) p1, .int 0 p2, .ref pe]) (.int 0 p0) rfl (fun _ => tl_mem hpp) rfl rfl rfl rfl ?_
      refine DoC.inlK Y 40 rfl rfl rfl rfl (fun _ _ _ _ _ _ _ => rfl) fun c1 F1 B1 Y1 O1 K1 hK1 => ?_
      refine DoF.try0 Y1 O1 40 fun c2 Y2 O2 hp2 => ?_
      intro w2 w3
      refine x_itemL (p := []) (.r 11) rfl rfl ?_
      intro w4 w5
      refine x_item (.v (.int P.zs[i] k1)) rfl rfl rfl (by simp) rfl ?_
      refine DoC.inlK Y2 40 rfl rfl rfl rfl (fun _ _ _ _ _ _ _ => rfl) fun c3 F3 B3 Y3 O3 K2 hK2 => ?_
      refine DoC.inlK Y3 40 rfl rfl rfl rfl (fun _ _ _ _ _ _ _ => rfl) fun c4 F4 B4 Y4 O4 K3 hK3 => ?_
      intro w6 w7
      refine iff' (decide_eq_false (by lia)) ?_
      refine hK3 ?_
      intro q8 w8 p8
      refine DoC.sat fun hlen D => ?_
      have hp8 : ∀ y ∈ P.sub tx tz nw, y.1 ≠ p8 := off_new (st0 := P.st0 [] tx tz nw) [lo, vl2, p8] rfl (by exact fun q hq => mR _ (hT q (mR _ hq))) D 18 p8 rfl rfl rfl
      refine x_append (i := 14) rfl rfl (by rw [List.length_append]; lia) ?_
      refine hK2 ?_
      intro w9 w10
      refine hK1 ?_
      intro w11
      refine hTT.nx ⟨_, Weak.go (st3 := ⟨P.rho ++ [lo], [(Str.ofString "machine", .r 0), (Str.ofString "rest", .v .none)], P.ob (P.x + P.P.many) v1 (P.z + (i : Int) + 1) w7 ((P.ws ++ us) ++ [.ref p8]) (nw' + 1) ++ [.lst xs xs.length], (p8, tupO #[.int 0 p0, .int P.zs[i] k1]) :: T, [1, 13, 14, 16], [], _⟩) 17 [18] rfl, QP.J.of (P := P) ((p8, tupO #[.int 0 p0, .int P.zs[i] k1]) :: F) _ (us ++ [.ref p8]) v1 w7 (nw' + 1) _ (by rw [show P.z + ((i + 1 : Nat) : Int) = P.z + (i : Int) + 1 by lia, ← List.append_assoc P.ws us [.ref p8]]) (fun p hp => ?_) (all_cons hp8 hF) ?_ fun i v hv => (show IsPlace T (3 + i) v from hpl i v hv).mono fun p hp => mC _ hp⟩
      · exact (mK hp).elim (fun e => e ▸ mS) fun h => mC _ (hT p h)
      · rw [List.take_add_one, List.getElem?_eq_getElem hi]
        exact (hput.mono fun p hp => mC _ hp).app (PutAt.one (List.Mem.head _))
    · induction hI; rename_i F T us v1 v2 nw' fo hT hF hput hpl
      intro w1 w2
      have e1 : ((xs.length : Nat) : Int) = P.P.many := by rw [g1]
      rw [List.take_of_length_le (by lia)] at hput
      subst hKK
      refine EndX.outF [1, 13, 14] [1, 13, 14] [lo] F rfl rfl (by exact fun p hp => hT p (mR _ hp)) rfl rfl rfl rfl rfl rfl (fun _ p hp => ⟨hT p (mL _ hp), .inr (hF p hp)⟩) fun D => ?_
      refine putPost.of us F v1 v2 w2 nw' rfl ?_ hle hput hF
      rw [← e1]
      rfl
  · rintro k out rest ⟨hb, rfl, u1, rfl⟩ D h1 h2
    have hlen : (P.st0 [] tx tz nw).ρ.length = (P.st0 [] tx tz nw).ob.length := rfl
    have keep : ∀ q ∈ P.sub tx tz nw, q ∈ rest ∨ q.1 = P.P.a 1 := fun q hq => (h1 q hq).imp id mG
    have r13 : (P.pod, outO P.q5 P.t5 P.oi P.z tz) ∈ rest := (keep _ (mem_led (st := P.st0 [] tx tz nw) (i := 13) rfl rfl)).resolve_right m14
    have r14 : (P.oi, listOf P.ws.toArray nw) ∈ rest := (keep _ (mem_led (st := P.st0 [] tx tz nw) (i := 14) rfl rfl)).resolve_right m15
    refine ⟨[(P.P.a 1, P.P.machO (.ref P.tr) (P.x + P.P.many) u1), (P.pod, outO P.q5 P.t5 P.oi P.z tz), (P.oi, listOf P.ws.toArray nw)], fun q hq => ?_, fun q hq => ?_, all_cons ⟨List.Mem.head _, .inl (List.Mem.head _)⟩ (all_cons ⟨List.Mem.tail _ r13, .inl (List.Mem.tail _ (List.Mem.head _))⟩ (all_cons ⟨List.Mem.tail _ r14, .inl (List.Mem.tail _ (List.Mem.tail _ (List.Mem.head _)))⟩ all_nil)), hb, rfl, u1, rfl⟩
    · rcases keep q hq with h | h
      · exact .inr (List.Mem.tail _ h)
      · rw [h]; exact .inl (List.Mem.head _)
    · rcases keep q hq with h | h
      · exact List.mem_map_of_mem (List.Mem.tail _ h)
      · rw [h]; exact List.Mem.head _
end
end
section
theorem x_isListStr {c : XC} {st : XS} {K : RV → XS → Prop} {i : Nat} {vs : List Value} {n : Nat} (e : st.ob[i]? = some (.lst vs n)) (k : K (.v (.bool false)) st) : DoC c (.builtin "isinstance") [.r i, .v (.type "str")] st K :=
  ⟨fun Q s z S hq => PySem.IsiPair.list_str (S.N _ (S.mem e)).1 rfl (hq (.v (.bool false)) _ _ _ k S (Ext.refl _))⟩
section
variable {G : GR} {c : XC} {frames : List Env} {base : Heap} {D U : Nat} {R : Int → List (Addr × Obj) → Prop} {st : XS} {K : RV → XS → Prop} (Y : Uses G c frames base D U R)
include Y
theorem u_storeN {im idd il k n : Nat} {its : List Value} (q : Nat → Int) (t : Nat → Tok) {ch pd : Value} {pv : RV} {pl : Addr} {a v : Int} {t3 t4 t5 t6 : Tok} (hw : st.wf = true) (e1 : st.ob[im]? = some (.inst 253 idd)) (e2 : st.ob[idd]? = some (memE q t (.r il) ch)) (e3 : st.ob[il]? = some (.lst its n)) (hpv : pv.den st.ρ = .ref pl) (hp : st.ρ.length = st.ob.length → (pl, tupO #[.int 0 t3, .int a t4, .int 0 t5, pd]) ∈ led st) (hpn : st.ρ.length = st.ob.length → Dis st → pl ≠ st.ρ.getD il 0)
    (h1 : a = k) (h3 : its.length ≤ 1000) (h4 : k < its.length) (hil : st.mu.contains il = true) (hi : Nat.beq im il = false) (hj : Nat.beq idd il = false) (hD : Nat.ble D 700 = true) (hU : Nat.ble U 2000 = true)
    (kk : ∀ cc, NeAll cc (led st) → K (.v .none) ((st.add cc (.tup [.v (.int 0 t3), .v (.int v t6)])).set il (.lst (its.set k (.ref cc)) n))) : DoC c (.ref 243) [.r im, pv, .v (.int v t6)] st K := by
  have hlt : il < st.ob.length := (gS e3).1
  have at_ : ∀ m o, st.ρ.length = st.ob.length → st.ob[m]? = some o → st.ρ[m]? = some (st.ρ.getD m 0) := fun m o hlen e => getD_at (hlen ▸ (gS e).1)
  refine Do.use Y (fun hlen hne => c_store Y.HG _ _ _ pl its q t ch pd n k a v t3 t4 t5 t6 h1 h3 h4 (dis_at hne il im hil (at_ _ _ hlen e3) (at_ _ _ hlen e1) hi) (dis_at hne il idd hil (at_ _ _ hlen e3) (at_ _ _ hlen e2) hj) (hpn hlen hne)) [il] hD hU
    (fun hl => all_cons (mem_led hl e1) (all_cons (mem_led hl e2) (all_cons (mem_led hl e3) (all_cons (hp hl) all_nil)))) rfl (by simp only [List.all_cons, List.all_nil, hil, Bool.true_and, Bool.and_true]; exact Nat.ble_eq_true_of_le hlt) ?_ (fun _ _ _ h => h.elim) (by rw [List.map_cons, List.map_cons, List.map_cons, hpv]; rfl)
  · rintro r out ⟨rfl, cc, hcc, rfl⟩ hn D hl A
    have hne := (hn _ (mC _ mS)).resolve_left fun h => hcc (mG h)
    exact ⟨.v .none, _, rfl, Next.setadd hl hw D A hlt hne mS (mC _ mS), kk cc hne⟩
end
noncomputable abbrev inE (q : Nat → Int) (t : Nat → Tok) (rl : RV) (a : Int) (ta : Tok) : RO := .dict [(q 0, Str.ofString "record", t 0, rl), (q 1, Str.ofString "at", t 1, .v (.int a ta))] 2
noncomputable abbrev inO (q : Nat → Int) (t : Nat → Tok) (rl : Addr) (a : Int) (ta : Tok) : Obj := (inE q t (.v (.ref rl)) a ta).den []
structure QT where
  P : MP
  (tr tt pi pid rl vl : Addr)
  (e1 e2 : Value)
  (q5 : Nat → Int)
  (t5 : Nat → Tok)
  (its rs : List Value)
  (zs : List Int)
  (n ntr nr nv : Nat)
  (x : Int)
  T0 : List (Addr × Obj)
namespace QT
variable (P : QT)
noncomputable abbrev rho : List Addr := P.P.rho ++ [P.tr, P.tt, P.pi, P.pid, P.rl, P.vl]
noncomputable abbrev ob (x : Int) (tx : Tok) (its : List Value) (a : Int) (ta : Tok) : List RO := P.P.grd (.r 10) x tx its P.n ++ [.lst [.ref P.tt] P.ntr, .tup [.r 12, .v P.e1, .v P.e2, .v .none], .inst 710 13, inE P.q5 P.t5 (.r 14) a ta, .lst P.rs P.nr, .lst [.ref (P.P.a 7)] P.nv]
noncomputable abbrev st0 (fr : List (Str × RV)) (tx ta : Tok) : XS := ⟨P.rho, fr, P.ob P.x tx P.its 0 ta, P.T0, [1, 6, 13], [], fun _ => none⟩
noncomputable abbrev sub (tx ta : Tok) : List (Addr × Obj) := led (P.st0 [] tx ta)
inductive Ok : Prop
  | mk (d1 : P.P.Ne (P.P.a 1)) (d2 : P.P.Ne P.pid) (d3 : P.P.a 0 ≠ P.P.a 6 ∧ P.P.a 2 ≠ P.P.a 6 ∧ P.P.a 3 ≠ P.P.a 6 ∧ P.P.a 4 ≠ P.P.a 6 ∧ P.P.a 5 ≠ P.P.a 6 ∧ P.P.a 7 ≠ P.P.a 6 ∧ P.P.a 8 ≠ P.P.a 6 ∧ P.P.a 9 ≠ P.P.a 6) (m1 : P.tr ≠ P.P.a 1 ∧ P.tt ≠ P.P.a 1 ∧ P.pi ≠ P.P.a 1 ∧ P.pid ≠ P.P.a 1 ∧ P.rl ≠ P.P.a 1 ∧ P.vl ≠ P.P.a 1) (m2 : P.tr ≠ P.pid ∧ P.tt ≠ P.pid ∧ P.pi ≠ P.pid ∧ P.rl ≠ P.pid ∧ P.vl ≠ P.pid) (m3 : P.tr ≠ P.P.a 6 ∧ P.tt ≠ P.P.a 6 ∧ P.pi ≠ P.P.a 6 ∧ P.pid ≠ P.P.a 6 ∧ P.rl ≠ P.P.a 6 ∧ P.vl ≠ P.P.a 6) (t1 : NeAll (P.P.a 1) P.T0) (t2 : NeAll P.pid P.T0) (t3 : NeAll (P.P.a 6) P.T0) (h20 : P.its.length = 20) (m5 : P.P.many ≤ 5) (hx : 0 ≤ P.x ∧ P.x ≤ 800) (hy : 0 ≤ P.P.y ∧ P.P.y ≤ 900) (hr : PutAt P.T0 P.zs P.rs) (hzs : P.zs.length = P.P.many)
inductive J (tx ta : Tok) (lo : Addr) (xs : List Value) (i : Nat) : XS → Prop
  | ex F T its u1 u2 fo (h0 : (∀ p ∈ F ++ P.T0, p ∈ T)) (h1 : (∀ p ∈ F, ∀ y ∈ P.sub tx ta, y.1 ≠ p.1)) (h2 : its.length = 20) (h3 : CellsAt F its (P.zs.take i)) (h4 : AllAt PlaceR T xs) : J tx ta lo xs i ⟨P.rho ++ [lo], [(Str.ofString "machine", .r 0), (Str.ofString "rest", .v .none)], P.ob (P.x + P.P.many) u1 its (i : Int) u2 ++ [.lst xs xs.length], T, [1, 6, 13, 16], [], fo⟩
end QT
theorem CellsAt.snoc {T : List (Addr × Obj)} {its : List Value} {zs : List Int} {i : Nat} {z : Int} {c : Addr} {t t' : Tok} (h : CellsAt T its (zs.take i)) (hz : zs[i]? = some z) (hl : 3 + i < its.length) (hc : (c, tupO #[.int 0 t, .int z t']) ∈ T) : CellsAt T (its.set (3 + i) (.ref c)) (zs.take (i + 1)) := fun j z' hj => by
  rcases Nat.lt_trichotomy j i with q | q | q
  · obtain ⟨c', t1, t2, h1, h2⟩ := h j z' (by rw [List.getElem?_take_of_lt q]; rwa [List.getElem?_take_of_lt (by lia)] at hj)
    exact ⟨c', t1, t2, by rw [List.getElem?_set_ne (by lia)]; exact h1, h2⟩
  · subst q
    rw [List.getElem?_take_of_lt (by lia), hz] at hj
    obtain rfl := Option.some.inj hj
    exact ⟨c, t, t', by rw [List.getElem?_set_self hl], hc⟩
  · rw [List.getElem?_take] at hj
    split at hj
    · lia
    · cases hj
inductive QT.Facts (P : QT) (tx ta : Tok) : Prop
  | mk (hD : Dis (mkst P.rho (P.ob P.x tx P.its 0 ta) P.T0 [1, 6, 13])) (hN : P.P.Ne (P.P.a 1)) (a6 : P.P.a 6 ≠ P.P.a 1) (m14 : P.pid ≠ P.P.a 1) (h20 : P.its.length = 20) (m5 : P.P.many ≤ 5) (hx : 0 ≤ P.x ∧ P.x ≤ 800) (hy : 0 ≤ P.P.y ∧ P.P.y ≤ 900) (hr : PutAt P.T0 P.zs P.rs) (hzs : P.zs.length = P.P.many)
theorem QT.Ok.facts {P : QT} (H : P.Ok) (tx ta : Tok) : P.Facts tx ta := by
  obtain ⟨⟨a0, a2, a3, a4, a5, a6, a7, a8, a9⟩, ⟨b0, b2, b3, b4, b5, b6, b7, b8, b9⟩, ⟨c0, c2, c3, c4, c5, c7, c8, c9⟩, ⟨m11, m12, m13, m14, m15, m16⟩, ⟨m21, m22, m23, m24, m25⟩, ⟨m31, m32, m33, m34, m35, m36⟩, t1, t2, t3, h20, m5, hx, hy, hrs, hzs⟩ := H
  exact ⟨Dis.of ⟨⟨⟨a0, trivial, a2, a3, a4, a5, a6, a7, a8, a9, m11, m12, m13, m14, m15, m16, trivial⟩, t1.all⟩, ⟨⟨c0, a6.symm, c2, c3, c4, c5, trivial, c7, c8, c9, m31, m32, m33, m34, m35, m36, trivial⟩, t3.all⟩, ⟨⟨b0, m14.symm, b2, b3, b4, b5, b6, b7, b8, b9, m21, m22, m23, trivial, m24, m25, trivial⟩, t2.all⟩, trivial⟩, ⟨a0, a2, a3, a4, a5, a6, a7, a8, a9⟩, a6, m14, h20, m5, hx, hy, hrs, hzs⟩
inductive takePost (P : QT) (tx ta : Tok) : Value → List (Addr × Obj) → Prop
  | ok (its' : List Value) (tl : List (Addr × Obj)) (u1 u2 u3 : Tok) (hle : P.x + P.P.many ≤ P.P.y) (h20 : its'.length = 20) (hc : CellsAt tl its' P.zs) (hne : ∀ p ∈ tl, ∀ y ∈ P.sub tx ta, y.1 ≠ p.1) : takePost P tx ta (.int (-1) u3) ((P.P.a 1, P.P.machO (.ref P.tr) (P.x + P.P.many) u1) :: (P.P.a 6, listOf its'.toArray P.n) :: (P.pid, inO P.q5 P.t5 P.rl P.P.many u2) :: tl)
theorem takePost.of {P : QT} {tx ta : Tok} {r : Value} {out : List (Addr × Obj)} (its' : List Value) (tl : List (Addr × Obj)) (u1 u2 u3 : Tok) (e1 : r = .int (-1) u3) (e2 : out = (P.P.a 1, P.P.machO (.ref P.tr) (P.x + P.P.many) u1) :: (P.P.a 6, listOf its'.toArray P.n) :: (P.pid, inO P.q5 P.t5 P.rl P.P.many u2) :: tl) (hle : P.x + P.P.many ≤ P.P.y) (h20 : its'.length = 20) (hc : CellsAt tl its' P.zs) (hne : ∀ p ∈ tl, ∀ y ∈ P.sub tx ta, y.1 ≠ p.1) : takePost P tx ta r out := by
  subst e1 e2
  exact ⟨its', tl, u1, u2, u3, hle, h20, hc, hne⟩
section
variable {G : GR} (HG : GrF G.K)
include HG
set_option tactic.hygienic true in
theorem c_takeall (P : QT) (tx ta : Tok) (H : P.Ok) :
    CT G 450 900 589 [.ref (P.P.a 0), .ref P.vl, .none] (P.sub tx ta) [P.P.a 1, P.P.a 6, P.pid]
      (takePost P tx ta)
      (fun k out => P.P.y < P.x + P.P.many ∧ k = P.P.y ∧ ∃ u1, out = [(P.P.a 1, P.P.machO (.ref P.tr) (P.x + P.P.many) u1), (P.P.a 6, listOf P.its.toArray P.n), (P.pid, inO P.q5 P.t5 P.rl 0 ta)]) := by
  obtain ⟨hD, hN, a6, m14, h20, m5, hx, hy, hrs, hzs⟩ := H.facts tx ta
  have hrl := hrs.1
  refine CT.goP HG 40 P.rho (P.ob P.x tx P.its 0 ta) P.T0 [1, 6, 13] [.r 0, .r 15, .v .none] rfl rfl rfl (fun _ _ _ _ _ _ _ => rfl) rfl (fun _ => Iff.rfl) rfl
    hD ?_
  intro c frames base Y O hpin
  refine exS_fin fun KK hKK => ?_
  intro t1
  refine x_item (.r 7) rfl rfl rfl (by simp) rfl ?_
  refine Do.use Y (fun hl hne => c_counted Y.HG P.P P.its P.n (.ref P.tr) P.x tx hN h20 m5 hx hy) [1] rfl rfl
    (fun hl => by exact all_cons (mem_led (i := 0) hl rfl) (all_cons (mem_led (i := 1) hl rfl) (all_cons (mem_led (i := 2) hl rfl) (all_cons (mem_led (i := 3) hl rfl) (all_cons (mem_led (i := 4) hl rfl) (all_cons (mem_led (i := 5) hl rfl) (all_cons (mem_led (i := 6) hl rfl) (all_cons (mem_led (i := 7) hl rfl) (all_cons (mem_led (i := 8) hl rfl) (all_cons (mem_led (i := 9) hl rfl) all_nil)))))))))) rfl rfl ?_ ?_ rfl
  · rintro r out ⟨lo, xs, tl, u1, hle, g1, g2, g3, g4⟩ hn D hl A
    have n1 := new_of hn (g4 _ mS) (List.Mem.tail _ (List.Mem.head _))
    have n2 : ∀ p ∈ tl, NeAll p.1 (led _) := fun p hp => new_of (b := p.1) (o := p.2) hn (g4 p (mC _ hp)) (List.Mem.tail _ (List.Mem.tail _ hp))
    refine ⟨.r 16, _, rfl, Next.gen2 1 (machE (P.P.q 0) (P.P.t 0) (P.P.u 0) (.r 4) (.r 2) (.r 10) (P.x + P.P.many) u1) [lo] [.lst xs xs.length] tl [1, 6, 13, 16] hl rfl D A rfl rfl (all_cons n1 all_nil) (.cons all_nil .nil) (fun p hp => ⟨List.Mem.tail _ (List.Mem.tail _ hp), n2 p hp, all_cons (fun e => g3.all p hp e.symm) all_nil⟩) rfl (List.Mem.head _) ⟨List.Mem.tail _ (List.Mem.head _), trivial⟩, ?_⟩
    have hsub0 : ∀ p ∈ P.T0, p ∈ tl ++ P.T0 := fun p hp => mR _ hp
    refine DoI.list O 60 (P.J tx ta lo xs) rfl (j := 16) (vs := xs) (cap := xs.length) rfl (fun i st1 hI => ?_) ⟨_, Weak.go (st3 := ⟨P.rho ++ [lo], [(Str.ofString "machine", .r 0), (Str.ofString "rest", .v .none)], P.ob (P.x + P.P.many) u1 P.its ((0 : Nat) : Int) ta ++ [.lst xs xs.length], tl ++ P.T0, [1, 6, 13, 16], [], _⟩) 17 [] rfl, ⟨[], tl ++ P.T0, P.its, u1, ta, _, hsub0, all_nil, h20, (fun j z h => by simp at h), fun i v hv => (show IsPlace tl (3 + i) v from g2 i v hv).mono fun p hp => mL _ hp⟩⟩ (fun i v I oI st1 hv hI TT hTT => ?_) (fun st1 hI => ?_)
    · induction hI; rename_i F T its v1 v2 fo _ _ _ _ _
      exact ⟨ExtP.zero hpin rfl, rfl, rfl⟩
    · induction hI; rename_i F T its v1 v2 fo hT hF h20' hcell hpl
      obtain ⟨pp, pe, p0, p1, p2, rfl, hpp, -⟩ : IsPlace T (3 + i) v := hpl i v hv
      have hi : i < P.zs.length := by have := (gS hv).1; lia
      have hzi : P.zs[i]? = some P.zs[i] := List.getElem?_eq_getElem hi
      have hri : P.rs[i]? = some (P.rs[i]'(by lia)) := List.getElem?_eq_getElem (by lia)
      obtain ⟨pr, k0, k1, hpr, hpt⟩ := hrs.2 i _ _ hzi hri
      rw [hpr] at hri
      have hptT : (pr, tupO #[.int 0 k0, .int P.zs[i] k1]) ∈ T := hT _ (mR _ hpt)
      intro vl2
      refine DoC.inlK Y 40 rfl rfl rfl rfl (fun _ _ _ _ _ _ _ => rfl) fun c1 F1 B1 Y1 O1 K1 hK1 => ?_
      intro w1
      refine x_item (.v (.ref pp)) rfl rfl rfl (by simp) rfl ?_
      refine DoF.try0 Y1 O1 40 fun c2 Y2 O2 hp2 => ?_
      intro w2 w3
      refine x_itemL (p := []) (.r 11) rfl rfl ?_
      intro w4 w5
      refine x_tupitem (vs := [.int 0 p0, .int (3 + i) p1, .int 0 p2, .ref pe]) (.int 0 p0) rfl (fun _ => tl_mem hpp) rfl rfl rfl rfl ?_
      intro w6
      refine x_tupitem (vs := [.int 0 p0, .int (3 + i) p1, .int 0 p2, .ref pe]) (.int 0 p2) rfl (fun _ => tl_mem hpp) rfl rfl rfl rfl ?_
      refine DoC.inlK Y2 40 rfl rfl rfl rfl (fun _ _ _ _ _ _ _ => rfl) fun c3 F3 B3 Y3 O3 K2 hK2 => ?_
      refine x_isListStr (i := 14) rfl ?_
      refine x_len (i := 14) rfl (by lia) fun w7 => ?_
      refine iff' (decide_eq_false (by lia)) ?_
      refine x_item (.v (.ref pr)) rfl rfl hri (by lia) rfl ?_
      intro w8
      refine x_tupitem (vs := [.int 0 k0, .int P.zs[i] k1]) (.int 0 k0) rfl (fun _ => tl_mem hptT) rfl rfl rfl rfl ?_
      intro w9 w10 q8 w11 w12 w13
      refine x_item (.v (.ref pr)) rfl (by lia) hri (by lia) rfl ?_
      intro w14
      refine x_tupitem (vs := [.int 0 k0, .int P.zs[i] k1]) (.int P.zs[i] k1) rfl (fun _ => tl_mem hptT) rfl rfl rfl rfl ?_
      refine hK2 ?_
      refine DoC.sat fun hlen D => ?_
      have off9 : ∀ y ∈ P.sub tx ta, y.1 ∈ (led _).map (·.1) := fun y hy => by
        rcases led_at (st := P.st0 [] tx ta) hy with ⟨j, o, h1, _, _⟩ | h
        · exact led_adr hlen (pre_at (l := P.rho) (as := [lo, vl2]) rfl h1)
        · exact List.mem_map_of_mem (tl_mem (hT _ (mR _ h)))
      refine u_storeN Y1 (P.P.q 2) (P.P.t 2) (k := 3 + i) (im := 4) (idd := 5) (il := 6) rfl rfl rfl rfl rfl (fun _ => tl_mem hpp) (fun _ D => dis_tl D 6 rfl rfl hpp) (by lia) (by lia) (by lia) rfl rfl rfl rfl rfl fun cc hcc => ?_
      have hp8 : ∀ y ∈ P.sub tx ta, y.1 ≠ cc := fun y hy => by
        obtain ⟨y', hy', e⟩ := mM (off9 y hy)
        rw [← e]; exact hcc.all y' hy'
      intro w15 w16
      refine hK1 ?_
      intro w17
      refine hTT.nx ⟨_, Weak.go (st3 := ⟨P.rho ++ [lo], [(Str.ofString "machine", .r 0), (Str.ofString "rest", .v .none)], P.ob (P.x + P.P.many) v1 (its.set (3 + i) (.ref cc)) ((i : Int) + 1) w10 ++ [.lst xs xs.length], (cc, tupO #[.int 0 p0, .int P.zs[i] k1]) :: T, [1, 6, 13, 16], [], _⟩) 17 [18] rfl, ⟨(cc, tupO #[.int 0 p0, .int P.zs[i] k1]) :: F, _, its.set (3 + i) (.ref cc), v1, w10, _, fun p hp => ?_, all_cons hp8 hF, by rw [List.length_set]; exact h20', CellsAt.snoc (fun j z hz => let ⟨c, t, t', a, b⟩ := hcell j z hz; ⟨c, t, t', a, mC _ b⟩) hzi (by lia) (List.Mem.head _), fun i v hv => (show IsPlace T (3 + i) v from hpl i v hv).mono fun p hp => mC _ hp⟩⟩
      exact (mK hp).elim (fun e => e ▸ mS) fun h => mC _ (hT p h)
    · induction hI; rename_i F T its v1 v2 fo hT hF h20' hcell hpl
      intro w1 w2
      have e1 : ((xs.length : Nat) : Int) = P.P.many := by rw [g1]
      rw [List.take_of_length_le (by lia)] at hcell
      subst hKK
      refine EndX.outF [1, 6, 13] [1, 6, 13] [lo] F rfl rfl (by exact fun p hp => hT p (mR _ hp)) rfl rfl rfl rfl rfl rfl (fun _ p hp => ⟨hT p (mL _ hp), .inr (hF p hp)⟩) fun D => ?_
      refine takePost.of its F v1 v2 w2 rfl ?_ hle h20' hcell hF
      rw [← e1]
      rfl
  · rintro k out rest ⟨hb, rfl, u1, rfl⟩ D h1 h2
    have keep : ∀ q ∈ P.sub tx ta, q ∈ rest ∨ q.1 = P.P.a 1 := fun q hq => (h1 q hq).imp id mG
    have r13 : (P.pid, inO P.q5 P.t5 P.rl 0 ta) ∈ rest := (keep _ (mem_led (st := P.st0 [] tx ta) (i := 13) rfl rfl)).resolve_right m14
    have r6 : (P.P.a 6, listOf P.its.toArray P.n) ∈ rest := (keep _ (mem_led (st := P.st0 [] tx ta) (i := 6) rfl rfl)).resolve_right a6
    refine ⟨[(P.P.a 1, P.P.machO (.ref P.tr) (P.x + P.P.many) u1), (P.P.a 6, listOf P.its.toArray P.n), (P.pid, inO P.q5 P.t5 P.rl 0 ta)], fun q hq => ?_, fun q hq => ?_, all_cons ⟨List.Mem.head _, .inl (List.Mem.head _)⟩ (all_cons ⟨List.Mem.tail _ r6, .inl (List.Mem.tail _ (List.Mem.head _))⟩ (all_cons ⟨List.Mem.tail _ r13, .inl (List.Mem.tail _ (List.Mem.tail _ (List.Mem.head _)))⟩ all_nil)), hb, rfl, u1, rfl⟩
    · rcases keep q hq with h | h
      · exact .inr (List.Mem.tail _ h)
      · rw [h]; exact .inl (List.Mem.head _)
    · rcases keep q hq with h | h
      · exact List.mem_map_of_mem (List.Mem.tail _ h)
      · rw [h]; exact List.Mem.head _
end
end
section
structure GrX (K : Frag) : Prop where
  ga : findIn K (.ref 108) "__getattribute__" = some (some (.builtin "BaseException.__getattribute__"))
  gk : findIn K (.ref 108) "__getattr__" = some none
  cd : ∃ cd, clsIn K 108 = some cd ∧ (cd.mro.contains (.type "BaseException") && !cd.mro.isEmpty) = true
  hh : hasDictIn K 108 = true
inductive HeardB (b : List Stmt) : Prop
  | mk (p1 p2 p3 p4 p5 p6 p7 p8 p9 p10 p11 p12 p13 p14 p15 p16 : Pos) (h : b = [.Try [.Return (some (.Compare (.Call (.Name (Str.ofString "work") p1) [] [] p2) [.Eq] [.UnaryOp .USub (.Constant (.int 1) 0 p3) p4] p5)) p6]
    [.ExceptHandler (some (.Name (Str.ofString "TooLong") p7)) (some (Str.ofString "fault")) [.Return (some (.IfExp (.Compare (.Attribute (.Name (Str.ofString "fault") p8) (Str.ofString "steps") p9) [.NotEq] [.Name (Str.ofString "most") p10] p11) (.Constant .none 0 p12) (.Constant (.bool false) 0 p13) p14)) p15] p16] [] [] ⟨526, 4, 529, 53⟩])
theorem heard_body : HeardB fd_740.body := ⟨_, _, _, _, _, _, _, _, _, _, _, _, _, _, _, _, rfl⟩
theorem global_name {K : Frag} (HG : GrF K) {g : Heap} {L : Addr} {h : Heap} {m : Str → Option Value} {p : Program} {loose : List Str} {mean : ExcName → Option Value} {mg mb : Str → Option Value} {x : Str} {v : Value} (F : Fr g L h m) (X : K.In g) (T : Top p loose mean mg mb g) (hx : GK.lookup x = some v) {M : Model} {A : Around} {E : Value → Shared → Prop} {s : Shared} {env : Env} {pos : Pos} {Q : Value → Shared → Prop}
    (hs : s.heap = h) (hkf : env.scope.kind = .function) (hk : env.kindOf x = some .globalImplicit) (hg : env.globals = mainGlobals) (hd : (x == ("__debug__" : Str)) = false) (hq : Q v s) : wpAny M A (eval (.Name x pos) env) Q E s := by
  subst hs
  have T' := topRead_of T
  exact Name_function_global hkf hk (loadGlobal_global (by rw [hg]; exact T'.g.keeps F.keep) (mg_of X T'.g (HG.gl (x, v) (look_mem hx))) hq) hd
section
variable {G : GR} (HG : GrF G.K) (HX : GrX G.K)
include HG HX
theorem c_heard (f : Addr) (sub : List (Addr × Obj)) (mu : List Addr) (post : Value → List (Addr × Obj) → Prop) (rais : Int → List (Addr × Obj) → Prop) (y : Int) (ty : Tok) {oc : Value} {od : Option Addr} {fd : FuncData} {sl : Array (Option Value)}
    (hof : (f, (⟨oc, od, .func fd, sl⟩ : Obj)) ∈ sub) (C0 : CT G 440 880 f [] sub mu post rais) (hmu : ∀ a ∈ mu, a ∈ sub.map (·.1)) (hv : ∀ v out, post v out → ∃ t, v = .int (-1) t) (hrs : ∀ k out, rais k out → k = y ∧ ∀ q ∈ out, q.1 ∈ mu) :
    CtrH PG G.w G.K G.p G.loose 430 860 (.ref 740) [.ref f, .int y ty] sub mu (fun r out => (r = .bool true ∧ ∃ v, post v out) ∨ (r = .bool false ∧ rais y out)) := by
  obtain ⟨name, qual, doc, pm, an, cdv, ct, oc', od', osl, ho, hcd⟩ := HG.fnAt (f := 740) rfl
  refine CtrH.of_room ?_
  intro frames gd base mean mg mb s Q E C O _ he hH
  refine wpAny_call ?_
  refine enter C O ho hcd (Nat.le_of_ble_eq_true rfl) (BindsTo.of_eq (binds := [(Str.ofString "work", .ref f), (Str.ofString "most", .int y ty)]) rfl) (locs rfl) ?_ rfl rfl rfl (by decide)
  intro g' L' h' tk' kg' F' N' B' X' T' l1
  obtain ⟨p1, p2, p3, p4, p5, p6, p7, p8, p9, p10, p11, p12, p13, p14, p15, p16, hb⟩ := heard_body
  rw [hb]
  have hro : ∀ q ∈ sub, q.1 ∈ mu ∨ q ∈ sub.filter fun p => !(mu.contains p.1) := fun q hq => by
    cases hc : mu.contains q.1 with
    | true => exact .inl (by simpa using hc)
    | false => exact .inr (List.mem_filter.mpr ⟨hq, by rw [hc]; rfl⟩)
  refine wpAny_execs_cons (wpAny_Try_except (wpAny_execs_cons (wpAny_Return_some (wpAny_Compare1 (Call_ (wpAny_Name (wpAny_loadName_local rfl rfl F'.ns (v := .ref f) rfl ?_) rfl) rfl) rfl))))
  refine callWith_F0 (FnAt.of N' hof) ?_
  refine Ctr.use3 C0 B' F' N' C.ok rfl rfl rfl rfl (Nat.le_of_ble_eq_true rfl) (Nat.le_of_ble_eq_true rfl) (fun q h => h) trivial (rest := sub.filter fun p => !(mu.contains p.1)) hmu (fun q hq => (List.mem_filter.mp hq).1) (fun q hq hm => ?_) (fun v out h2 tk2 hp F2 N2 hn => ?_) (fun e k out h2 tk2 hp R => ?_)
  · have := (List.mem_filter.mp hq).2
    simp only [Bool.not_eq_true', List.contains_eq_mem, decide_eq_false_iff_not] at this
    exact this hm
  · obtain ⟨t, rfl⟩ := hv _ _ hp
    refine UnaryOp_ (PySem.wpAny_Constant_int (PyProof.Rows.neg_int (PyProof.Rows.eq_int ?_)))
    exact Ends.close he O kg' F2 N2 _ out (fun q hq => (hro q hq).imp id (mR _)) (fun q hq => ⟨mL _ hq, (hn q hq).imp id NeAll.all⟩) (.inl ⟨rfl, _, hp⟩) rfl rfl rfl
  · obtain ⟨hky, hm9⟩ := hrs _ _ hp; have hky := hky.symm; subst hky
    refine caught_as B' rfl rfl R C.ok.X HG.c108 (fun g1 s1 Q1 E1 T1 B1 F1 h1 => ?_) (fun h3 g1 oe dx q1 t1 v1 q2 t2 tk1 T0 B1 F1 c1 d1 f1 f2 N1 ne1 hne1 => ?_)
    · exact global_name HG F1 (C.ok.X.keeps B1.stays) (C.ok.T.keeps B1.stays) rfl rfl rfl rfl rfl rfl h1
    · obtain ⟨cdd, hcdd, hmr⟩ := HX.cd
      refine wpAny_storeName_local rfl F1.ns (fun h4 hn4 hs4 => ?_) rfl
      have F4 := F1.set hn4 hs4
      have N4 := N1.set hs4
      refine wpAny_execs_cons (wpAny_Return_some (IfExp_ (wpAny_isTrue_Compare1 (Attribute_any_ (wpAny_Name (wpAny_loadName_local rfl rfl F4.ns (v := .ref e) rfl ?_) rfl) rfl) rfl)))
      refine exc_get F4 (C.ok.X.keeps B1.stays) N4 (List.Mem.head _) c1 d1 f1 (List.Mem.tail _ (List.Mem.head _)) HX.ga HX.gk hcdd hmr HX.hh HG.x108.2.2.2.2.2 (v := .int _ tk1) rfl rfl ?_
      refine wpAny_Name (wpAny_loadName_local rfl rfl F4.ns (v := .int y ty) rfl ?_) rfl
      refine PyProof.Rows.ne_int (wpAny_truthy_bool ?_)
      rw [show (y != y) = false by simp, if_neg (by simp)]
      refine PySem.wpAny_Constant_bool ?_
      refine wpAny_nameGoes_keeps rfl F4.ns rfl fun h5 v5 hn5 hs5 => ?_
      have F5 := F4.set hn5 hs5
      have N5 := N4.set hs5
      show Q (.bool false) _
      exact EndsH.close hH O kg' T0 F5 N5 _ out (fun q hq => (hro q hq).imp id fun h => mC _ (mC _ (mR _ h))) (fun q hq => ⟨mC _ (mC _ (mL _ hq)), .inl (hm9 q hq)⟩) (Or.inr ⟨rfl, hp⟩) rfl rfl rfl
end
end
section
noncomputable def fd_604 : FD := fdOf (mth 80 0)
structure GrY (K : Frag) : Prop where
  fn : ∃ (name qual : Str) (doc pm cdv ct oc : Value) (an od : Option Addr) (osl : Array (Option Value)), K.lookup 604 = some ⟨oc, od, .func (fnOf name qual fd_604.params fd_604.body fd_604.scope (.ref 597) .none doc pm an cdv ct), osl⟩ ∧ codeIn K cdv qual = true
  df : ∃ (oc : Value) (od : Option Addr) (n : Nat) (osl : Array (Option Value)), K.lookup 597 = some ⟨oc, od, .seq #[.int 32 1055, .int 7 1056, .int 15 1057, .int 38 1058, .int 1000000 1059, .int 19 1060, .int 72 1061, .int 40 1062] n, osl⟩
def CTk (G : GR) (D U : Nat) (f : Addr) (vs : List Value) (kw : List (Str × Value)) (sub : List (Addr × Obj)) (mu : List Addr) (post : Value → List (Addr × Obj) → Prop) (rais : Int → List (Addr × Obj) → Prop) : Prop :=
  ∀ (A : Around) (frames : List Env) (base : Heap) (mean : ExcName → Option Value) (mg mb : Str → Option Value) (s : Shared) (Q E : Value → Shared → Prop),
    Cx A frames base s.heap G.K G.p G.loose mean mg mb → Own frames base s.heap sub → A.depth ≤ D → A.units ≤ U → Ends s mu post Q → Raises s frames mu rais E →
      codeAny (model PG G.w) A (.call (.ref f) ⟨vs, kw⟩) (fun r s' => match r with | .ok (.ret v) => Q v s' | .ok _ => False | .error e => E e s') s
theorem CTk.ex {G : GR} (HG : GrF G.K) {D U : Nat} {f : Addr} {vs : List Value} {kw : List (Str × Value)} {sub : List (Addr × Obj)} {mu : List Addr} {post : Value → List (Addr × Obj) → Prop} {rais : Int → List (Addr × Obj) → Prop}
    {name qual : Str} {params : Arguments} {body : List Stmt} {scope : Scope} {dV kV doc pm cdv ct oc : Value} {an od : Option Addr} {osl : Array (Option Value)} {binds : List (Str × Value)}
    (n : Nat) (st : XS) (ho : G.K.lookup f = some ⟨oc, od, .func (fnOf name qual params body scope dV kV doc pm an cdv ct), osl⟩) (hcd : codeIn G.K cdv qual = true) (hroom : D < recursionLimit)
    (hbind : ∀ s : Shared, G.K.In s.heap → BindsTo s (fnOf name qual params body scope dV kV doc pm an cdv ct) ⟨vs, kw⟩ binds) (hloc : ∀ y ∈ binds, scope.names.lookup y.1 = some .local)
    (hco : scope.isCoroutine = false) (hgen : scope.isGenerator = false) (hk : scope.kind = .function) (hcell : ∀ x ∈ scope.names, x.2 ≠ .cell)
    (hf : binds.reverse = st.fr.map fun p => (p.1, p.2.den st.ρ)) (hfo : st.fo = fun _ => none) (hs : ∀ q, q ∈ led st ↔ q ∈ sub) (hl : st.ρ.length = st.ob.length) (hce : st.ce = []) (hD : Dis st)
    (VC : ∀ (c : XC) (frames : List Env) (base : Heap), Uses G c frames base (D + 1) (U + 3) (ROwes sub mu rais) → c.Ok ⟨scope, GL, FS, TAB, ME, false⟩ → exS ⟨scope, GL, FS, TAB, ME, false⟩ c n body st (EndX st mu post)) : CTk G D U f vs kw sub mu post rais := by
  intro A frames base mean mg mb s Q E C O hdA huA he hr
  refine enter C O ho hcd (Nat.lt_of_le_of_lt hdA hroom) (hbind s (C.ok.X.keeps C.st)) hloc ?_ hco hgen hk hcell
  intro g' L' h' tk' kg' F' N' B' X' T' _
  refine ex_go HG (cl := []) n st F' (news := led st) (fun p hp => N' p ((hs p).1 hp)) X' T' hf hfo rfl hl hD hce PassesOwn.leaving hk C.hd (fun f' st' h2 tk2 H F2 N2 D2 => ?_) fun c hc hO => VC c frames base ?_ hO
  · obtain ⟨out, h3, h4, h5⟩ := H.run D2
    cases f' <;> exact Ends.close he O kg' F2 N2 _ out (fun q hq => h3 q ((hs q).2 hq)) (fun q hq => ⟨(h4 q hq).1, (h4 q hq).2.imp id fun h x hx => h x ((hs x).2 hx)⟩) h5 rfl rfl rfl
  · subst hc
    refine ⟨HG, rfl, rfl, rfl, X', ⟨_, B'⟩, ⟨_, _, _, C.ok⟩, C.hd, congrArg (Option.map _) C.fr, rfl, hk, Nat.succ_le_succ hdA, Nat.add_le_add_right huA 3, ?_⟩
    intro e k m news h2 tk2 s2 z ⟨out, r1, r2, r3, r4⟩ RA
    exact RaisedAt.close (s' := { s2 with heap := h2, toks := tk2 }) RA hr O kg' B' (congrArg (Option.map _) C.fr) rfl out r1 r2 r3 r4 z.gens z.drawn z.os
set_option tactic.hygienic true in
theorem Do.makeK {c : XC} {G : GR} {frames : List Env} {base : Heap} {D U : Nat} {R : Int → List (Addr × Obj) → Prop} (Y : Uses G c frames base D U R) {C fI : Addr} {D' U' : Nat} {vs : List Value} {kw : List (Str × Value)} {st : XS} {K : RV → XS → Prop} {post : Addr → Addr → Value → List (Addr × Obj) → Prop}
    (hm : makesIn G.K C = true) (hi : findIn G.K (.ref C) "__init__" = some (some (.ref fI))) (hf : isFn G.K (.ref fI) = true)
    (I : ∀ x dx, x ≠ dx → CTk G D' U' fI (.ref x :: vs) kw [(x, instObj C dx), (dx, dictOf [] 0)] [dx] (post x dx) never) (hD : Nat.ble (D + 1) D' = true) (hU : Nat.ble (U + 4) U' = true)
    (hwf : st.wf = true) (k : ∀ x dx v out, post x dx v out → MadeO st C x dx v out K) {rvs : List RV} (hv : rvs.map (RV.den st.ρ) = vs := by rfl) : Ev c (call (.ref C) (rvs.map (RV.den st.ρ)) kw) st K := by
  intro Q s z S hq
  rw [hv]
  obtain ⟨A₀, B⟩ := Y.B
  obtain ⟨mean, mg, mb, Ok⟩ := Y.Ok
  have hprog := Y.prog
  have hw := Y.hw
  have X := Y.X
  rw [Y.hK] at X
  refine call_cls S.F X S.N hm hi hf fun x dx h' F' N' l1 l2 => ?_
  have Cc := cx_of B F' Ok Y.hA Y.fr Y.ff Y.kf
  have Ow := own_of (sub := [(x, instObj C dx), (dx, dictOf [] 0)]) B N' (env := c.fe) Y.ff (all_cons mS (all_cons (mC _ mS) all_nil))
  have hne : x ≠ dx := Nat.ne_of_gt l2
  have hdx := N' _ (mC _ mS)
  have key := I x dx hne (c.A.under (.builtin "type.__call__" ⟨.ref C :: vs, kw⟩)) (c.fe :: frames) base mean mg mb { s with heap := h' } (fun v s' => v = .none ∧ Q (.ref x) s') c.E ⟨Cc.hd, Cc.fr, Cc.st, Cc.ff, Cc.ok⟩ Ow ?d1 ?d2 (fun v out h2 tk kp ho hp => ?en) (fun _ _ _ _ _ _ _ _ h => h.elim)
  · rw [← hprog, ← hw] at key
    refine codeAny_mono key fun r s' hr => ?_
    cases r with
    | error e => exact hr
    | ok f => cases f with
      | ret v => exact hr
      | _ => exact hr.elim
  case d1 =>
    have : (c.A.under (.builtin "type.__call__" ⟨.ref C :: vs, kw⟩)).depth ≤ c.A.depth + 1 := by
      first | exact Nat.le_refl _ | exact Nat.le_succ _ | simp [Around.under, Code.frames, Code.isFrame]
    exact Nat.le_trans this (Nat.le_trans (Nat.succ_le_succ Y.hd) (Nat.le_of_ble_eq_true hD))
  case d2 =>
    have e : (c.A.under (.builtin "type.__call__" ⟨.ref C :: vs, kw⟩)).units ≤ c.A.units + 1 := by
      first | exact Nat.le_refl _ | exact Nat.le_succ _ | simp [Around.under, Code.cUnits, Code.frames, Code.isFrame]
    exact Nat.le_trans e (Nat.le_trans (Nat.succ_le_succ Y.hu) (Nat.le_trans (Nat.add_le_add_left (by decide : 1 ≤ 4) U) (Nat.le_of_ble_eq_true hU)))
  case en =>
    obtain ⟨hv, o, h3, h4, hk⟩ := k x dx v out hp
    refine ⟨hv, ?_⟩
    have hkeep : ∀ b ob, h'.get? b = some ob → b ≠ dx → h2.get? b = some ob := fun b ob e hb => kp b ob e (fun hm => hb (mG hm))
    obtain ⟨oL, es, ep, hL, hLd, hLk, hLf⟩ := id F'.ns
    have F2 : Fr c.h₀ c.L h2 (frm st) := ⟨⟨oL, es, ep, hkeep _ _ hL (Ne.symm hdx.2.1), hLd, hLk, hLf⟩, fun b ob e => hkeep b ob (F'.keep b ob e) (fun q => by rw [q, hdx.2.2] at e; cases e), F'.above⟩
    have N2 : ∀ q ∈ led st, h2.get? q.1 = some q.2 ∧ q.1 ≠ c.L ∧ c.h₀.get? q.1 = none := fun q hq' => by
      have n := N' q (mC _ (mC _ hq'))
      exact ⟨hkeep _ _ n.1 (Nat.ne_of_lt (l1 q hq')), n.2⟩
    have Nd : News c.h₀ c.L h2 ((dx, o.den (st.ρ ++ [dx])) :: led st) := all_cons ⟨(ho _ h3).1, hdx.2⟩ N2
    have S1 : Sat c (st.add dx o) h2 := S.add hwf F2 Nd l1
    have hx := N' _ mS
    have e1 : (RO.inst C st.ob.length).den ((st.add dx o).ρ ++ [x]) = instObj C dx := by
      show instObj C (((st.ρ ++ [dx]) ++ [x]).getD st.ob.length 0) = _
      rw [← S.len]; simp
    have l3 : ∀ p ∈ led (st.add dx o), p.1 < x := fun p hp' => by
      rw [led_add S.len hwf] at hp'
      rcases mA hp' with h | h
      · exact Nat.lt_trans (l1 p (mL _ h)) l2
      · rcases mK h with h | h
        · rw [h]; exact l2
        · exact Nat.lt_trans (l1 p (mR _ h)) l2
    have S2 : Sat c ((st.add dx o).add x (.inst C st.ob.length)) h2 := S1.add h4 S1.F (by rw [e1]; exact all_cons ⟨hkeep _ _ hx.1 hne, hx.2⟩ S1.N) l3
    have := hq (.r (st.ob.length + 1)) _ h2 tk hk S2 (Ext.add.trans Ext.add)
    have e2 : RV.den ((st.add dx o).add x (.inst C st.ob.length)).ρ (.r (st.ob.length + 1)) = .ref x := by
      show Value.ref (((st.ρ ++ [dx]) ++ [x]).getD (st.ob.length + 1) 0) = _
      rw [← S.len]; simp
    rw [e2] at this
    exact this

noncomputable def limU : Nat → Value
  | 1 => .int 7 1056
  | 2 => .int 15 1057
  | 3 => .int 38 1058
  | 5 => .int 19 1060
  | 6 => .int 72 1061
  | _ => .int 40 1062
noncomputable def eight {α : Type} (a b c d e f g h z : α) : Nat → α
  | 0 => a
  | 1 => b
  | 2 => c
  | 3 => d
  | 4 => e
  | 5 => f
  | 6 => g
  | 7 => h
  | _ => z
section
variable {G : GR} (HG : GrF G.K) (HY : GrY G.K)
include HG HY
set_option tactic.hygienic true in
theorem i_limits (y : Int) (ty : Tok) (x dx : Addr) (hne : x ≠ dx) : CTk G 800 2500 604 [.ref x] [(Str.ofString "steps", .int y ty)] [(x, instObj 607 dx), (dx, dictOf [] 0)] [dx] (fun v out => v = .none ∧ ∃ q t, out = [(dx, limD q t limU y ty)]) never := by
  obtain ⟨name, qual, doc, pm, cdv, ct, oc, an, od, osl, ho, hcd⟩ := HY.fn
  obtain ⟨oc2, od2, n2, osl2, h2⟩ := HY.df
  refine CTk.ex HG 40 (binds := [(Str.ofString "self", .ref x), (Str.ofString "width", .int 32 1055), (Str.ofString "real_digits", .int 7 1056), (Str.ofString "double_digits", .int 15 1057), (Str.ofString "top_exponent", .int 38 1058), (Str.ofString "steps", .int y ty), (Str.ofString "continuations", .int 19 1060), (Str.ofString "columns", .int 72 1061), (Str.ofString "depth", .int 40 1062)]) ⟨[x, dx], [(Str.ofString "depth", .v (.int 40 1062)), (Str.ofString "columns", .v (.int 72 1061)), (Str.ofString "continuations", .v (.int 19 1060)), (Str.ofString "steps", .v (.int y ty)), (Str.ofString "top_exponent", .v (.int 38 1058)), (Str.ofString "double_digits", .v (.int 15 1057)), (Str.ofString "real_digits", .v (.int 7 1056)), (Str.ofString "width", .v (.int 32 1055)), (Str.ofString "self", .r 0)], [.inst 607 1, .dict [] 0], [], [1], [], fun _ => none⟩ ho hcd (Nat.lt_of_le_of_lt (Nat.le_of_ble_eq_true rfl : 800 ≤ 900) (by decide)) ?hb (locs rfl) rfl rfl rfl (by decide) rfl rfl (fun _ => Iff.rfl) rfl rfl (Dis.of ⟨⟨⟨hne, trivial, trivial⟩, all_nil⟩, trivial⟩) ?_
  case hb => exact fun s X => binds_K X rfl h2 rfl rfl rfl
  intro c frames base Y O
  refine exS_fin fun KK hKK => ?_
  intro q0 s0 q1 s1 q2 s2 q3 s3 q4 s4 q5 s5 q6 s6 q7 s7
  subst hKK
  refine EndX.out [1] [1] [] rfl rfl (fun _ h => h) rfl rfl rfl rfl rfl rfl fun D => ?_
  exact ⟨rfl, eight q0 q1 q2 q3 q4 q5 q6 q7 0, eight s0 s1 s2 s3 s4 s5 s6 s7 1055, rfl⟩
omit HG HY in
theorem Do.callK {c : XC} {xt : XT} (O : c.Ok xt) {n : Nat} {x kn : Str} {p1 p3 p4 : Pos} {e : Expr} {C : Nat} {st : XS} {K : RV → XS → Prop} (hC : xt.fs.contains C = true)
    (H : exE xt c n (.Name x p1) st fun fv st1 => fv = .v (.ref C) ∧ exE xt c n e st1 fun v st2 => Ev c (call (.ref C) [] [(kn, v.den st2.ρ)]) st2 K) : Do c (eval (.Call (.Name x p1) [] [⟨some kn, e, p3⟩] p4) c.env) st K := by
  refine ⟨fun Q s z S hq => ?_⟩
  rw [show eval (.Call (.Name x p1) [] [⟨some kn, e, p3⟩] p4) c.env = (do callWith p4 (← eval (.Name x p1) c.env) [] (backTo p4 (starEach [] c.env)) (backToKw p4 (keywordEach [⟨some kn, e, p3⟩] c.env))) from rfl]
  refine wpAny_bind (exE_ok O n _ st _ H _ s z S fun rv st1 h1 tk1 H1 S1 x1 => ?_)
  obtain ⟨rfl, H1⟩ := H1
  refine callWith_KW0 (K := c.K) (h₀ := c.h₀) O.X (O.fs _ hC) rfl (wpAny_evalAll_cons (wpAny_bind (exE_ok O n e st1 _ H1 _ _ z.to S1 fun v st2 h2 tk2 H2 S2 x2 => wpAny_bind (wpAny_standAt (wpAny_pure (wpAny_evalAll_nil ⟨O.X.keeps S2.F.keep, ?_⟩))))))
  exact H2 _ _ z.to S2 fun v' st3 h3 tk3 hk S3 x3 => hq v' st3 h3 tk3 hk S3 (x1.trans (x2.trans x3))
omit HG in
theorem x_limits {c : XC} {frames : List Env} {base : Heap} {D U : Nat} {R : Int → List (Addr × Obj) → Prop} {st : XS} {K : RV → XS → Prop} (Y : Uses G c frames base D U R) {y : Int} {ty : Tok} (hw : st.wf = true) (hD : Nat.ble (D + 1) 800 = true) (hU : Nat.ble (U + 4) 2500 = true)
    (kk : ∀ x dx q t, K (.r (st.ob.length + 1)) ((st.add dx (.dict (limE q t limU y ty) 8)).add x (.inst 607 st.ob.length))) : Ev c (call (.ref 607) [] [(Str.ofString "steps", RV.den st.ρ (.v (.int y ty)))]) st K := by
  obtain ⟨m1, m2, m3⟩ := Y.HG.mkAt (C := 607) rfl
  refine Do.makeK (rvs := []) Y m1 m2 m3 (fun x dx hne => i_limits Y.HG HY y ty x dx hne) hD hU hw (fun x dx v out hp => ?_)
  obtain ⟨hv, q, t, rfl⟩ := hp
  exact ⟨hv, .dict (limE q t limU y ty) 8, mS, XS.wf_add hw rfl, kk x dx q t⟩
end
end
section
set_option tactic.hygienic true in
theorem law_go {G : GR} (HG : GrF G.K) {A : Around} {E : Value → Shared → Prop} {g base : Heap} {L af : Addr} {qual : Str} {d : FD} {cdv : Value} {p : Program} {loose : List Str} {mean : ExcName → Option Value} {mg mb : Str → Option Value} {s : Shared} {Q : Flow → Shared → Prop} {binds : List (Str × Value)} {cells sub : List (Addr × Obj)} {frames : List Env} {A₀ : Around} {D U : Nat}
    (st : XS) (cv : List (Str × RV)) (K : RF → XS → Prop) (hnd : ((cellsFrom 0 d.scope.names []).map (·.1)).Nodup) (hna : ((cellsFrom (L + 1) d.scope.names []).map (·.2)).Nodup) (hk : d.scope.kind = .function) (hh : A.handled = none)
    (F : Fr g L s.heap (bindL (envOfC qual d.scope L af cdv).kindOf binds fun _ => none)) (N : News g L s.heap (cells ++ sub)) (Y : CellsAre (bindC (envOfC qual d.scope L af cdv).kindOf binds fun _ => none) (cellsFrom (L + 1) d.scope.names []) cells) (ab : ∀ n c, (n, c) ∈ cellsFrom (L + 1) d.scope.names [] → L < c)
    (B : Below A₀ base frames g) (Ok : BaseOk G.K G.p G.loose mean mg mb base) (X : G.K.In g) (T : Top G.p G.loose mean mg mb g) (lows : ∀ q ∈ sub, q.1 < L)
    (hf : bindL (envOfC qual d.scope L af cdv).kindOf binds (fun _ => none) = ifs st.ρ st.fr) (hv : ∀ p ∈ cellsFrom (L + 1) d.scope.names [], bindC (envOfC qual d.scope L af cdv).kindOf binds (fun _ => none) p.1 = (cv.lookup p.1).map (RV.den st.ρ)) (hfo : st.fo = fun _ => none)
    (hs : ∀ q, q ∈ led st ↔ q ∈ sub) (hl : st.ρ.length = st.ob.length) (hce : st.ce = []) (hD : Dis st) (po : PassesOwn (model PG G.w) A (envX qual d.scope L af cdv (cellsFrom (L + 1) d.scope.names [])) E)
    (hfr : A.frames = some (envX qual d.scope L af cdv (cellsFrom (L + 1) d.scope.names []) :: frames)) (hdA : A.depth ≤ D) (huA : A.units ≤ U)
    (hQ : ∀ f st' h' tk', K f st' → Fr g L h' (frm st') → News g L h' (led st') → Q (f.den st'.ρ) { s with heap := h', toks := tk' })
    (VC : ∀ (c : XC) (o : Nat → Obj), Uses G c frames base D U (fun _ _ => False) → c.Ok ⟨d.scope, GL, FS, TAB, ME, false⟩ → c.h₀ = g → c.env = envX qual d.scope L af cdv (cellsFrom (L + 1) d.scope.names []) → c.fe = c.env → c.L = L → c.pin = 0 → EvF c (execs d.body c.env) { st with ce := mkCE cv (cellsFrom (L + 1) d.scope.names []) o } K) :
    wpAny (model PG G.w) A (execs d.body (envX qual d.scope L af cdv (cellsFrom (L + 1) d.scope.names []))) Q E s := by
  obtain ⟨o, hc1, hc2⟩ := mkCE_of (cv := cv) (ρ := st.ρ) Y hv
  have hnd' : ((cellsFrom (L + 1) d.scope.names []).map (·.1)).Nodup := cellsFrom_names d.scope.names 0 (L + 1) [] [] rfl ▸ hnd
  have lows : ∀ q ∈ led st, q.1 < L := fun q hq => lows q ((hs q).1 hq)
  have ems : ∀ e ∈ mkCE cv (cellsFrom (L + 1) d.scope.names []) o, L < e.a := fun e he => ab _ _ (hc2 e he).1
  have hρ : ∀ (j : Nat) (b : Addr), st.ρ[j]? = some b → b < L := fun j b e => by
    have h1 : j < st.ρ.length := (gS e).1
    exact lows _ (led_of e (List.getElem?_eq_getElem (hl ▸ h1)))
  have htl : ∀ p ∈ st.tl, p.1 < L := fun p hp => lows p (mR _ (mR _ hp))
  let st' : XS := { st with ce := mkCE cv (cellsFrom (L + 1) d.scope.names []) o }
  have hled : ∀ q ∈ led st', q ∈ cells ++ sub := fun q hq => by
    rcases mA hq with h | h
    · exact mR _ ((hs q).1 (mL _ h))
    · rcases mA h with h | h
      · have h : q ∈ (mkCE cv (cellsFrom (L + 1) d.scope.names []) o).map (fun e => (e.a, e.o)) := h
        rw [hc1] at h; exact mL _ h
      · exact mR _ ((hs q).1 (mR _ (mR _ h)))
  have S : Sat ⟨s, PG, G.w, A, E, G.K, g, L, envX qual d.scope L af cdv (cellsFrom (L + 1) d.scope.names []), envX qual d.scope L af cdv (cellsFrom (L + 1) d.scope.names []), 0⟩ st' s.heap := by
    refine ⟨?_, fun q hq => N q (hled q hq), hl, fun i a hi ha => ?_, ⟨fun e he _ _ => ⟨lookup_of_mem_nodup hnd' (hc2 e he).1, (hc2 e he).2⟩, fun e he _ hx => absurd hx (by rw [mkCE_k _ _ _ e he]; decide), fun e he => ⟨fun j b hb => Nat.ne_of_lt (Nat.lt_trans (hρ j b hb) (ems e he)), fun p hp => Nat.ne_of_lt (Nat.lt_trans (htl p hp) (ems e he))⟩, ?_⟩⟩
    · have : frm st' = bindL (envOfC qual d.scope L af cdv).kindOf binds fun _ => none := by
        rw [hf]; exact funext fun y => (frm_none hfo y).trans (ifs_is st.ρ y st.fr)
      rw [this]; exact F
    · obtain ⟨d1, d2⟩ := hD i a hi ha
      refine ⟨d1, fun p hp => ?_⟩
      rcases mA hp with h | h
      · obtain ⟨e, he, rfl⟩ := mM h
        exact Nat.ne_of_gt (Nat.lt_trans (hρ i a ha) (ems e he))
      · exact d2 p (mR _ h)
    · show ((mkCE cv (cellsFrom (L + 1) d.scope.names []) o).map (·.a)).Nodup
      rw [mkCE_adr]; exact hna
  have hO := ok_of (pn := 0) (s := s) (prog := PG) (E := E) (A := A) (cn := qual) (af := af) (L := L) (ccd := cdv) (cl := cellsFrom (L + 1) d.scope.names []) HG po hk hh X T
  refine VC _ o ?_ hO rfl rfl rfl rfl rfl _ s ⟨rfl, rfl, rfl⟩ S fun f' st2 h2 tk2 H S2 _ => hQ f' st2 h2 tk2 H S2.F S2.N
  exact ⟨HG, rfl, rfl, rfl, X, ⟨_, B⟩, ⟨_, _, _, Ok⟩, hh, hfr, rfl, hk, hdA, huA, fun _ _ _ _ _ _ _ _ h => h.elim⟩
noncomputable abbrev sliceO (y : Int) (t : Tok) : Obj := { cls := .type "slice", data := .fields #[.none, .int y t, .none] }
theorem x_sliceO {c : XC} {p2 p3 : Pos} {kd : Nat} {y : Int} {st : XS} {K : RV → XS → Prop} (hw : st.wf = true) (kk : ∀ a t, K (.r st.ob.length) (st.add a (.raw (sliceO y t)))) :
    Do c (eval (.Slice none (some (.Constant (.int y) kd p2)) none p3) c.env) st K := by
  refine ⟨fun Q s z S hq => wpAny_Slice (evalPart_none_step (evalPart_some_step (PySem.wpAny_Constant_int (evalPart_none_step ?_))))⟩
  have N1 := News.push (S.F.push (sliceO y s.toks)) (S.N.grown fun _ _ e => Heap.get?_push_of_some _ e) (sliceO y s.toks)
  have lows : ∀ p ∈ led st, p.1 < s.heap.objs.size := fun p hp => Heap.lt_size (S.N p hp).1
  have e : RV.den (st.add s.heap.objs.size (.raw (sliceO y s.toks))).ρ (.r st.ob.length) = .ref s.heap.objs.size := by
    show Value.ref ((st.ρ ++ [s.heap.objs.size]).getD st.ob.length 0) = _
    rw [← S.len]; simp
  have N2 : News c.h₀ c.L (s.heap.push (sliceO y s.toks)) ((s.heap.objs.size, sliceO y s.toks) :: led st) := all_cons ⟨Heap.get?_push_size _ rfl, Ne.symm (Nat.ne_of_lt (Heap.lt_size (S.F.ns.choose_spec.choose_spec.choose_spec.1))), Option.eq_none_iff_forall_ne_some.mpr fun o e2 => Nat.lt_irrefl _ (Heap.lt_size (S.F.keep _ _ e2))⟩ (S.N.grown fun _ _ e => Heap.get?_push_of_some _ e)
  exact Eq.mp (congrArg (fun v => Q v _) e) (hq (.r st.ob.length) _ (s.heap.push (sliceO y s.toks)) _ (kk s.heap.objs.size s.toks) (S.add hw (S.F.push _) N2 lows) Ext.add)
theorem x_sliceL {c : XC} {val slx : Expr} {y : Int} {t : Tok} {sl b : Addr} {items : Array Value} {st : XS} {K : RV → XS → Prop} (hL : c.h₀.IsList sl items) (hsz : items.size ≤ sizeLine) (hw : st.wf = true) (hb : (b, sliceO y t) ∈ led st)
    (hs : subscripted slx false (.ref sl) (.ref b) = operate [.ref b, .ref sl] (getItem (.ref sl) (.ref b)))
    (ht : ∀ r, letTemporaryGo val (.ref sl) r = pure ()) (kk : ∀ a, K (.r st.ob.length) (st.add a (.lst (slicePick items none (some y) none).toList 0))) :
    Do c (subscriptTail val slx (.ref sl) (.ref b)) st K := by
  refine ⟨fun Q s z S hq => ?_⟩
  have hl : s.heap.IsList sl items := S.F.lst hL
  have lows : ∀ p ∈ led st, p.1 < s.heap.objs.size := fun p hp => Heap.lt_size (S.N p hp).1
  have e : RV.den (st.add s.heap.objs.size (.lst (slicePick items none (some y) none).toList 0)).ρ (.r st.ob.length) = .ref s.heap.objs.size := by
    show Value.ref ((st.ρ ++ [s.heap.objs.size]).getD st.ob.length 0) = _
    rw [← S.len]; simp
  refine subscriptTail_ops (Heap.IsList.typeIs hl) list_getitem_lookup (wpAny_getItem_list_slice hl ⟨_, (S.N _ hb).1, rfl, rfl⟩ .none (.int _ _) .none (by simp) ?_ hsz) hs ht
  have N2 : News c.h₀ c.L (s.heap.push { cls := .type "list", data := .seq (slicePick items none (some y) none) }) ((s.heap.objs.size, { cls := .type "list", data := .seq (slicePick items none (some y) none) }) :: led st) := all_cons ⟨Heap.get?_push_size _ rfl, Ne.symm (Nat.ne_of_lt (Heap.lt_size (S.F.ns.choose_spec.choose_spec.choose_spec.1))), Option.eq_none_iff_forall_ne_some.mpr fun o e2 => Nat.lt_irrefl _ (Heap.lt_size (S.F.keep _ _ e2))⟩ (S.N.grown fun _ _ e => Heap.get?_push_of_some _ e)
  exact Eq.mp (congrArg (fun v => Q v _) e) (hq (.r st.ob.length) _ _ s.toks (kk s.heap.objs.size) (S.add hw (S.F.push _) N2 lows) Ext.add)
set_option tactic.hygienic true in
theorem Weak.selV {st st3 : XS} (js mv : List Nat) (hl : st.ρ.length = st.ob.length) (h1 : st3.ρ = js.map fun j => st.ρ.getD j 0) (h2 : st3.ob.map (RO.den st3.ρ) = js.map fun j => (st.ob.getD j (.raw default)).den st.ρ) (hj : js.all (fun j => Nat.blt j st.ob.length) = true) (hn : js.Nodup)
    (h3 : st3.ce = st.ce) (hce : st.ce.all (fun e => match e.v with | some (.r _) => false | _ => true) = true) (h4 : st3.fo = frm st) (hf : ∀ p ∈ st3.fr, frm st p.1 = some (p.2.den st3.ρ)) (ht : ∀ p ∈ st3.tl, p ∈ st.tl ∨ ∃ j ∈ mv, j < st.ob.length ∧ p = (st.ρ.getD j 0, (st.ob.getD j (.raw default)).den st.ρ))
    (hm : st3.mu.all (fun i => match js[i]? with
      | some j => st.mu.contains j && !mv.contains j
      | none => false) = true) : Weak st st3 := by
  have obj : ∀ j, j < st.ob.length → st.ρ[j]? = some (st.ρ.getD j 0) ∧ st.ob[j]? = some (st.ob.getD j (.raw default)) := fun j hj => ⟨getD_at (hl ▸ hj), by rw [List.getD_eq_getElem?_getD, List.getElem?_eq_getElem hj]; rfl⟩
  have at3 : ∀ {i : Nat} {a : Addr}, st3.ρ[i]? = some a → ∃ j, js[i]? = some j ∧ j < st.ob.length ∧ st.ρ[j]? = some a := fun {i a} e => by
    rw [h1, List.getElem?_map] at e
    cases hji : js[i]? with
    | none => rw [hji] at e; cases e
    | some j =>
      rw [hji] at e
      have hlt : j < st.ob.length := Nat.le_of_ble_eq_true (aT hj j (List.mem_of_getElem? hji))
      exact ⟨j, rfl, hlt, by rw [(obj j hlt).1]; exact e⟩
  have hlen : st3.ob.length = js.length := by
    have := congrArg List.length h2
    simpa using this
  have tl1 : ∀ p ∈ st3.tlc, p ∈ st.tlc ∨ ∃ j ∈ mv, j < st.ob.length ∧ p = (st.ρ.getD j 0, (st.ob.getD j (.raw default)).den st.ρ) := fun p hp => by
    rcases mA hp with hp | hp
    · rw [h3] at hp; exact .inl (mL _ hp)
    · exact (ht p hp).imp (mR _) id
  have hv : ∀ e ∈ st.ce, e.v.map (RV.den st3.ρ) = e.v.map (RV.den st.ρ) := fun e he => by
    have := aT hce e he
    cases q : e.v with
    | none => rfl
    | some v => cases v with
      | r _ => rw [q] at this; cases this
      | v _ => rfl
  refine ⟨fun p hp => ?_, funext fun y => ?_, by rw [h1, hlen, List.length_map], fun D i a hi ha => ?_, h3, hv, fun A e he => ?_⟩
  · rcases led_at hp with ⟨i, o, q1, q2, q3⟩ | hp
    · obtain ⟨j, e1, e2, e3⟩ := at3 q1
      have e4 : (st3.ob.map (RO.den st3.ρ))[i]? = some (o.den st3.ρ) := by rw [List.getElem?_map, q2]; rfl
      rw [h2, List.getElem?_map, e1] at e4
      have := led_of e3 (obj j e2).2
      rw [show (st.ob.getD j (.raw default)).den st.ρ = o.den st3.ρ from Option.some.inj e4, ← q3] at this
      exact this
    · rcases tl1 p hp with h | ⟨j, _, hj, rfl⟩
      · exact mR _ h
      · exact led_of (obj j hj).1 (obj j hj).2
  · show (match st3.fr.lookup y with | some v => some (v.den st3.ρ) | none => st3.fo y) = _
    cases q : st3.fr.lookup y with
    | none => rw [h4]
    | some v => exact (hf (y, v) (look_mem2 q)).symm
  · have hi' := aT hm i hi
    obtain ⟨j, e1, e2, e3⟩ := at3 ha
    rw [e1] at hi'
    obtain ⟨m1, m3⟩ := bA hi'
    obtain ⟨d1, d2⟩ := D j a (by simpa using m1) e3
    refine ⟨fun i' b hb hne => ?_, fun p hp => ?_⟩
    · obtain ⟨j', f1, _, f3⟩ := at3 hb
      exact d1 j' b f3 fun e => hne (nodup_at hn (e ▸ f1) e1)
    · rcases tl1 p hp with h | ⟨j', hj', hjl, rfl⟩
      · exact d2 p h
      · refine d1 j' _ (obj j' hjl).1 fun e => ?_
        subst e
        rw [Bool.not_eq_true', List.contains_eq_mem, decide_eq_false_iff_not] at m3
        exact m3 hj'
  · rw [h3] at he
    refine ⟨fun i b hb => ?_, fun p hp => ?_⟩
    · obtain ⟨j, _, _, f3⟩ := at3 hb
      exact (A e he).1 j b f3
    · rcases ht p hp with h | ⟨j, _, hj, rfl⟩
      · exact (A e he).2 p h
      · exact (A e he).1 j _ (obj j hj).1
set_option tactic.hygienic true in
theorem exS_cut {c : XC} {xt : XT} (O : c.Ok xt) (b : List Stmt) : ∀ n a st K, exS xt c n a st (fun f st1 => match f with | .next => EvF c (execs b c.env) st1 K | f => K f st1) → EvF c (execs (a ++ b) c.env) st K
  | 0, _, _, _, H => by cases H
  | _ + 1, [], st, K, H => H
  | n + 1, x :: rest, st, K, H => fun Q s z S hq => by
    refine wpAny_execs_cons (s1_ok O (exE_ok O n) (fun e st K h => test_ok (exE_ok O n) n e st K h _ fun _ => rfl) (exS_ok O n) x st _ H _ s z S fun f st1 h1 tk1 H1 S1 p1 => ?_)
    cases f with
    | next => exact (exS_cut O b n rest st1 K H1).then z.to S1 p1 hq
    | brk => exact hq .brk _ _ _ H1 S1 p1
    | cont => exact hq .cont _ _ _ H1 S1 p1
    | ret v => exact hq (.ret v) _ _ _ H1 S1 p1
theorem EvF.sat {c : XC} {t : Sem Flow} {st st3 : XS} {K : RF → XS → Prop} (W : ∀ h, Sat c st h → Sat c st3 h) (X : ExtP c.pin st st3) (H : EvF c t st3 K) : EvF c t st K := fun Q s z S hq => H Q s z (W _ S) fun f st' h' tk' hk S' p' => hq f st' h' tk' hk S' (X.trans p')
theorem ExtP.zeroC {c : XC} {st st' : XS} (h0 : c.pin = 0) (hc : st'.ce.map CE.key = st.ce.map CE.key) : ExtP c.pin st st' := ⟨fun i a hi _ => absurd (h0 ▸ hi) (Nat.not_lt_zero _), hc⟩
noncomputable def CE.fix (e : CE) : Str × Addr × Obj × Bool × Bool := (e.x, e.a, e.o, e.k, e.w)
theorem fix_eq {e e0 : CE} (h : CE.fix e = CE.fix e0) : e = { e0 with v := e.v } := by
  obtain ⟨x, a, o, v, k, w⟩ := e
  obtain ⟨x0, a0, o0, v0, k0, w0⟩ := e0
  cases h
  rfl
inductive KeyE (ρ : List Addr) (l : List CE) : CE → Prop
  | mk (e0 : CE) (v : Option RV) (m0 : e0 ∈ l) (v0 : v.map (RV.den ρ) = e0.v.map (RV.den ρ)) : KeyE ρ l { e0 with v := v }
theorem sat_ceq {c : XC} {st : XS} {h : Heap} (ce' : List CE) (h1 : ce'.map CE.fix = st.ce.map CE.fix) (h2 : ce'.map (fun e => e.v.map (RV.den st.ρ)) = st.ce.map (fun e => e.v.map (RV.den st.ρ))) (S : Sat c st h) : Sat c { st with ce := ce' } h := by
  have ao : ce'.map (fun e => (e.a, e.o)) = st.ce.map (fun e => (e.a, e.o)) := by
    have := congrArg (List.map fun p : Str × Addr × Obj × Bool × Bool => (p.2.1, p.2.2.1)) h1
    rw [List.map_map, List.map_map] at this
    exact this
  have key : ∀ e ∈ ce', KeyE st.ρ st.ce e := fun e he => by
    obtain ⟨i, hi⟩ := List.mem_iff_getElem?.mp he
    have a1 := congrArg (fun l => l[i]?) h1
    have a2 := congrArg (fun l => l[i]?) h2
    rw [List.getElem?_map, List.getElem?_map, hi] at a1 a2
    cases q : st.ce[i]? with
    | none => rw [q] at a1; cases a1
    | some e0 =>
      rw [q] at a1 a2
      rw [fix_eq (Option.some.inj a1)]
      exact ⟨e0, e.v, List.mem_of_getElem? q, Option.some.inj a2⟩
  have tl : XS.tlc { st with ce := ce' } = st.tlc := congrArg (· ++ st.tl) ao
  have ld : led { st with ce := ce' } = led st := congrArg (_ ++ ·) tl
  refine ⟨S.F, by rw [ld]; exact S.N, S.len, fun i a hi ha => ?_, ⟨fun e he hd hk => ?_, fun e he hd hk => ?_, fun e he => ?_, ?_⟩⟩
  · have := S.D i a hi ha
    exact ⟨this.1, by rw [tl]; exact this.2⟩
  · obtain ⟨e0, v, m0, v0⟩ := key e he
    have := S.CE.cl e0 m0 hd hk
    exact ⟨this.1, this.2.trans (congrArg Data.cell v0.symm)⟩
  · obtain ⟨e0, v, m0, v0⟩ := key e he
    obtain ⟨g1, m, g2, g3⟩ := S.CE.nm e0 m0 hd hk
    exact ⟨g1, m, g2, g3.trans v0.symm⟩
  · obtain ⟨e0, v, m0, v0⟩ := key e he
    have := S.CE.ap e0 m0
    exact this
  · have : ce'.map (·.a) = st.ce.map (·.a) := by
      have := congrArg (List.map fun p : Str × Addr × Obj × Bool × Bool => p.2.1) h1
      rw [List.map_map, List.map_map] at this
      exact this
    show (ce'.map (·.a)).Nodup
    rw [this]; exact S.CE.nd
theorem Next.setA {st : XS} {out : List (Addr × Obj)} (i : Nat) (ol : RO) (as : List Addr) (os : List RO) (tl : List (Addr × Obj)) (hl : st.ρ.length = st.ob.length) (hw : st.wf = true) (D : Dis st) (A : CAp st) (hi : i < st.ob.length) (hlen : as.length = os.length)
    (hn : ∀ a ∈ as, NeAll a (led st)) (hu : st.mu.all (fun i => Nat.blt i st.ob.length) = true) (ht : ∀ p ∈ tl, p ∈ out ∧ NeAll p.1 (led st)) (ho : (st.ρ.getD i 0, ol.den (st.ρ ++ as)) ∈ out)
    (hos : ∀ (j : Nat) (a : Addr) (o : RO), as[j]? = some a → os[j]? = some o → (a, o.den (st.ρ ++ as)) ∈ out) : Next st [i] out ⟨st.ρ ++ as, st.fr, st.ob.set i ol ++ os, tl ++ st.tl, st.mu, st.ce, st.fo⟩ := by
  have hsl : (st.ob.set i ol).length = st.ob.length := List.length_set ..
  have split : ∀ {j : Nat} {b : Addr}, (st.ρ ++ as)[j]? = some b → st.ρ[j]? = some b ∨ (st.ob.length ≤ j ∧ as[j - st.ob.length]? = some b) := fun {j b} e => by
    rcases Nat.lt_or_ge j st.ρ.length with q | q
    · rw [List.getElem?_append_left q] at e; exact .inl e
    · rw [List.getElem?_append_right q] at e; exact .inr ⟨hl ▸ q, by rw [← hl]; exact e⟩
  have tlc : ∀ p ∈ st.ce.map (fun e => (e.a, e.o)) ++ (tl ++ st.tl), p ∈ tl ∨ p ∈ st.tlc := fun p hp => by
    rcases mA hp with h | h
    · exact .inr (mL _ h)
    · exact (mA h).imp id fun h => mR _ h
  refine ⟨⟨as, rfl⟩, rfl, rfl, by show (st.ρ ++ as).length = (st.ob.set i ol ++ os).length; rw [List.length_append, List.length_append, hsl, hl, hlen], hw, ?_, fun p hp => ?_, rfl, fun e he => ⟨fun j b hb => ?_, fun p hp => ?_⟩, fun j hj => ?_, fun j h1 h2 => ?_, fun j b hj hb => ?_⟩
  · show keepL [i] 0 st.ob = keepL [i] 0 ((st.ob.set i ol ++ os).take st.ob.length)
    rw [← hsl, List.take_left]
    refine keepL_same _ _ _ _ hsl.symm fun j x e hj => ?_
    rw [Nat.zero_add] at hj
    rw [List.getElem?_set_ne (contains_one hj)]; exact e
  · exact (tlc p hp).elim (fun h => .inr (ht p h).1) .inl
  · have ne0 : ∀ a, NeAll a (led st) → a ≠ e.a := fun a h q => (NeAll.all h (e.a, e.o) (mR _ (mL _ (List.mem_map.mpr ⟨e, he, rfl⟩)))) q.symm
    rcases split hb with h | ⟨_, h⟩
    · exact (A e he).1 j b h
    · exact ne0 b (hn b (List.mem_of_getElem? h))
  · have ne0 : ∀ a, NeAll a (led st) → a ≠ e.a := fun a h q => (NeAll.all h (e.a, e.o) (mR _ (mL _ (List.mem_map.mpr ⟨e, he, rfl⟩)))) q.symm
    rcases mA hp with h | h
    · exact ne0 _ (ht p h).2
    · exact (A e he).2 p h
  · cases mG hj
    show ((st.ρ ++ as).getD i 0, ((st.ob.set i ol ++ os).getD i (.raw default)).den (st.ρ ++ as)) ∈ out
    have e2 : (st.ob.set i ol ++ os).getD i (.raw default) = ol := by rw [List.getD_eq_getElem?_getD, List.getElem?_append_left (by rw [hsl]; exact hi), List.getElem?_set_self hi]; rfl
    rw [e2, getD_app (hl ▸ hi)]; exact ho
  · have h2 : j < (st.ob.set i ol ++ os).length := h2
    rw [List.length_append, hsl] at h2
    have hj : j - st.ob.length < os.length := by lia
    show ((st.ρ ++ as).getD j 0, ((st.ob.set i ol ++ os).getD j (.raw default)).den (st.ρ ++ as)) ∈ out
    refine hos (j - st.ob.length) _ _ ?_ ?_
    · rw [List.getD_eq_getElem?_getD, List.getElem?_append_right (by lia), hl, List.getElem?_eq_getElem (by lia)]; rfl
    · rw [List.getD_eq_getElem?_getD, List.getElem?_append_right (by rw [hsl]; exact h1), hsl, List.getElem?_eq_getElem hj]; rfl
  · have old : ∀ (k : Nat) (b' : Addr), st.ρ[k]? = some b' → ∀ a, NeAll a (led st) → a ≠ b' := fun k b' e a h q => (ne_at hl h).1 k b' e q.symm
    rcases split hb with h | ⟨h0, h⟩
    · obtain ⟨d1, d2⟩ := D j b hj h
      refine ⟨fun j' b' hb' hne => ?_, fun p hp => ?_⟩
      · rcases split hb' with g | ⟨_, g⟩
        · exact d1 j' b' g hne
        · exact old j b h b' (hn b' (List.mem_of_getElem? g))
      · rcases tlc p hp with g | g
        · exact old j b h p.1 (ht p g).2
        · exact d2 p g
    · exact absurd (Nat.le_of_ble_eq_true (aT hu j hj)) (by lia)
set_option tactic.hygienic true in
theorem Sat.addTP {c : XC} {st : XS} {h h' : Heap} {a : Addr} {o : RO} {tl : List (Addr × Obj)} {y : Str} (S : Sat c st h) (hw : st.wf = true) (F : Fr c.h₀ c.L h' fun z => if z = y then some (.ref a) else frm st z) (N : News c.h₀ c.L h' ((a, o.den (st.ρ ++ [a])) :: (led st ++ tl))) (hn : NeAll a (led st)) (ha : NeAll a tl) (ht : ∀ p ∈ tl, NeAll p.1 (led st)) : Sat c ((st.addT a o tl).put y (.r st.ob.length)) h' := by
  have X := Next.addT (out := (a, o.den (st.ρ ++ [a])) :: tl) S.len hw S.D S.CE.ap hn mS ha fun p hp => ⟨mC _ hp, ht p hp⟩
  have e0 : frm (st.addT a o tl) = frm st := frm_grow (as := [a]) S.len hw rfl rfl rfl
  have e : frm ((st.addT a o tl).put y (.r st.ob.length)) = fun z => if z = y then some (.ref a) else frm st z := funext fun z => by
    show (match ((y, RV.r st.ob.length) :: (st.addT a o tl).fr).lookup z with | some v => some (v.den (st.addT a o tl).ρ) | none => (st.addT a o tl).fo z) = _
    rw [List.lookup_cons]
    by_cases q : z = y
    · subst q
      rw [if_pos rfl, beq_self_eq_true]
      show some (Value.ref ((st.ρ ++ [a]).getD st.ob.length 0)) = _
      rw [← S.len]; simp
    · rw [if_neg q, beq_eq_false_iff_ne.mpr q, ← e0]; rfl
  refine ⟨by rw [e]; exact F, fun q hq => N q ?_, X.len, X.dis, ?_⟩
  · have hq : q ∈ led (st.addT a o tl) := hq
    rcases (led_addT S.len hw).mp hq with h | h | h
    · rw [h]; exact mS
    · exact mC _ (mL _ h)
    · exact mC _ (mR _ h)
  · have := S.CE.grow (st' := st.addT a o tl) (as := [a]) S.len hw rfl rfl X.cap
    exact ⟨this.cl, this.nm, this.ap, this.nd⟩
theorem swaps_of {v : Expr} {t : Option Expr} {n : Nat} {env env' : Env} (h : env.scope = env'.scope) : swapsWith v t n env = swapsWith v t n env' := by
  unfold swapsWith Env.kindOf Env.blockKind
  rw [h]
set_option tactic.hygienic true in
theorem DoF.comp {c : XC} {xt : XT} (O : c.Ok xt) (R : List (Addr × Obj) → Nat → Value → Prop) (T : CompTag R) (n m : Nat) {elt iter : Expr} {x : Str} {y : Str} {px py pos spos : Pos} {scope : Scope} {st : XS} {K : RF → XS → Prop} (hst : compOk scope x = true) (hset : notSet iter = true) (hw : st.wf = true) (hfr : freeOk scope st = true)
    (hcm : xt.cm = false) (hy : xt.cs.names.lookup y = some .local) (hsw : swapsWith (.ListComp elt [⟨.Name x px, iter, [], 0⟩] scope pos) (some (.Name y py)) spos.line { scope := xt.cs, locals := 0, globals := 0, cells := [] } = pure true)
    (H : exE xt c m iter st (CompAt c xt n elt x scope R st fun v st1 => K .next (st1.put y v))) : DoF c (exec (.Assign [.Name y py] (.ListComp elt [⟨.Name x px, iter, [], 0⟩] scope pos) spos) c.env) st K := by
  refine ⟨fun Q s z S hq => ?_⟩
  have hst' := hst
  unfold compOk at hst'
  simp only [Bool.and_eq_true, Bool.or_eq_true, beq_iff_eq, List.all_eq_true, bne_iff_ne] at hst'
  obtain ⟨hk, hnames, hx⟩ := hst'
  have hclos : closureFor scope c.env = pure (cloOf scope c.env.cells) := clos_is fun p hp hf => by
    have hm : p.1 ∈ freeN scope := List.mem_map.mpr ⟨p, List.mem_filter.mpr ⟨hp, by rw [hf]; rfl⟩, rfl⟩
    obtain ⟨e, he, h1⟩ := List.any_eq_true.mp (aT hfr p.1 hm)
    obtain ⟨h1, h2⟩ := bA h1
    obtain ⟨h2, h3⟩ := bA h2
    have := (S.CE.cl e he (by simpa using h3) (by simpa using h2)).1
    rw [eq_of_beq h1] at this
    exact ⟨_, this⟩
  have hyk : c.env.kindOf y = some .local := by unfold Env.kindOf; rw [O.cs]; exact hy
  refine LCg.Assign_ListComp_U (F₀ := S.F) (O.lo hcm) ((swaps_of O.cs).trans hsw) hclos (fun y hy => (hnames y hy).1) hk (fun y hy hl => (hnames y hy).2.resolve_left (fun h => h hl)) hx hyk (by rw [O.kf]; rfl) ?_ (notSet_is hset)
  refine exE_ok O m iter st _ H _ s z S fun v st1 h1 tk1 C1 S1 X1 => ?_
  obtain ⟨wf1, fr1, fo1, j, cnt, val, rfl, src, turn, fin⟩ := C1
  obtain ⟨as, hρ⟩ := X1.pre
  have hm : frm st1 = frm st := frm_grow S.len hw hρ.symm fr1 fo1
  rw [← hm]
  have z1 : ∀ g, Rest c { s with heap := g, toks := tk1 } := fun g => z.to
  have finK : ∀ g ys tl, ys.length = cnt → AllAt R tl ys → (∀ p ∈ tl, NeAll p.1 (led st1)) → LCg.FinA c.h₀ c.L (frm st1) { s with heap := g, toks := tk1 } y Q ys (led st1 ++ tl) := fun g ys tl hl hA hn D h tk F N oD => by
    have oD := off1_ne oD
    have o1 := NeAll.all oD
    have n1 : NeAll D (led st1) := NeAll.of fun x hx => o1 x (mL _ hx)
    have n2 : NeAll D tl := NeAll.of fun x hx => o1 x (mR _ hx)
    exact hq .next ((st1.addT D (.lst ys ys.length) tl).put y (.r st1.ob.length)) h tk (fin D ys tl hl hA n1 n2 hn) (S1.addTP wf1 F N n1 n2 hn) (Ext.p (X1.trans (⟨List.prefix_append _ _, rfl⟩ : Ext st1 ((st1.addT D (.lst ys ys.length) tl).put y (.r st1.ob.length)))))
  rcases src with ⟨vs, cap, e1, e2, rfl, rfl⟩ | ⟨a, b, t, u, v, e1, e2, e3, e4, rfl⟩
  · have hmem := S1.mem e1
    refine LCg.CompSrc.ledger (s₁ := { s with heap := h1, toks := tk1 }) O.hh S1.F S1.N hmem (by rw [List.size_toArray]; exact sz_ok e2) fun g => ?_
    rw [List.size_toArray]
    refine comp_inv T (fun i v I oI C oC D m₂ h tk E' ys tl hi hlen hA hq' hP hC hx F N off ne => ?_) (finK g)
    exact comp_turn O S1.o wf1 hst (fun l => .inr ⟨_, mL _ hmem, rfl, _, rfl⟩) (z1 g) hq' hC hx F N off ne fun c' e Oc => turn c' C oC I oI D ys tl i v ⟨E', e⟩ Oc hi (by simpa using hP) hlen hA hq'
  · refine LCg.CompSrc.range (s₁ := { s with heap := h1, toks := tk1 }) O.hh S1.F S1.N (S1.N.get (S1.mem e1)) e2 e3 (sz_ok e4) fun g => ?_
    refine comp_inv T (fun i v I oI C oC D m₂ h tk E' ys tl hi hlen hA hq' hP hC hx F N off ne => ?_) (finK g)
    exact comp_turn O S1.o wf1 hst (fun l => trivial) (z1 g) hq' hC hx F N off ne fun c' e Oc => turn c' C oC I oI D ys tl i v ⟨E', e⟩ Oc hi hP hlen hA hq'
theorem fix_key {a b : List CE} (h : a.map CE.fix = b.map CE.fix) : a.map CE.key = b.map CE.key := by
  have := congrArg (List.map fun p : Str × Addr × Obj × Bool × Bool => (CE.mk p.1 p.2.1 p.2.2.1 none p.2.2.2.1 p.2.2.2.2).key) h
  rw [List.map_map, List.map_map] at this
  exact this
theorem EvF.sel {c : XC} {t : Sem Flow} {st st3 : XS} {K : RF → XS → Prop} (h0 : c.pin = 0) (ceA : List CE) (js mv : List Nat) (f1 : ceA.map CE.fix = st.ce.map CE.fix) (f2 : ceA.map (fun e => e.v.map (RV.den st.ρ)) = st.ce.map (fun e => e.v.map (RV.den st.ρ))) (fA : ceA.all (fun e => match e.v with | some (.r _) => false | _ => true) = true)
    (g1 : st3.ce.map CE.fix = ceA.map CE.fix) (g2 : st3.ce.map (fun e => e.v.map (RV.den st3.ρ)) = ceA.map (fun e => e.v.map (RV.den st3.ρ)))
    (h1 : st3.ρ = js.map fun j => st.ρ.getD j 0) (h2 : st3.ob.map (RO.den st3.ρ) = js.map fun j => (st.ob.getD j (.raw default)).den st.ρ) (hj : js.all (fun j => Nat.blt j st.ob.length) = true) (hn : js.Nodup)
    (h4 : st3.fo = frm st) (hf : ∀ p ∈ st3.fr, frm st p.1 = some (p.2.den st3.ρ)) (ht : ∀ p ∈ st3.tl, p ∈ st.tl ∨ ∃ j ∈ mv, j < st.ob.length ∧ p = (st.ρ.getD j 0, (st.ob.getD j (.raw default)).den st.ρ))
    (hm : st3.mu.all (fun i => match js[i]? with
      | some j => st.mu.contains j && !mv.contains j
      | none => false) = true) (H : EvF c t st3 K) : EvF c t st K :=
  EvF.sat (fun h S => sat_ceq (st := { st3 with ce := ceA }) st3.ce g1 g2 ((Weak.selV (st := { st with ce := ceA }) (st3 := { st3 with ce := ceA }) js mv S.len h1 h2 hj hn rfl fA h4 hf ht hm).sat (sat_ceq ceA f1 f2 S))) (ExtP.zeroC h0 (fix_key (g1.trans f1))) H
noncomputable def fd_745 : FD := fdOf (stm 96)
end
section
noncomputable abbrev xtL : XT := ⟨fd_745.scope, GL, FS, TAB, ME, false⟩
theorem news_of {a : Addr} {x : Addr × Obj} {rest l : List (Addr × Obj)} (hn : ∀ q ∈ x :: rest, q.1 ∈ [a] ∨ NeAll q.1 l) (hne : ∀ q ∈ rest, q.1 ≠ a) : ∀ q ∈ rest, NeAll q.1 l := fun q hq => (hn q (mC _ hq)).resolve_left fun e => hne q hq (mG e)
theorem ints_of : ∀ {xs : List Value}, (∀ (i : Nat) v, xs[i]? = some v → ∃ z t, v = .int z t) → IntsAre xs (xs.map fun v => match v with | .int z _ => z | _ => 0)
  | [], _ => .nil
  | v :: xs, h => by
    obtain ⟨z, t, rfl⟩ := h 0 v rfl
    exact .cons z t (ints_of fun i w hw => h (i + 1) w hw)
theorem ints_at : ∀ {vs : List Value} {ns : List Int}, IntsAre vs ns → ∀ (i : Nat) v, vs[i]? = some v → ∃ z t, v = .int z t
  | _, _, .cons n t _, 0, v, h => ⟨n, t, (Option.some.inj h).symm⟩
  | _, _, .cons _ _ r, i + 1, v, h => ints_at r i v h
  | _, _, .nil, i, v, h => by simp at h
def LawEnd (f : RF) (st : XS) : Prop := f = .ret (.v (.bool true)) ∧ ∃ ps, st.ob[0]? = some (.raw (tabObj ps)) ∧ st.ρ[0]? = some 742
section
variable {G : GR} {c : XC} {base : Heap} {L : Addr}
noncomputable abbrev ceL (L : Addr) (o : Nat → Obj) (vm vi va vr vw : Option RV) : List CE :=
  [⟨Str.ofString "work", L + 1 + 1 + 1 + 1 + 1, o 0, vw, false, true⟩, ⟨Str.ofString "run", L + 1 + 1 + 1 + 1, o 1, vr, false, true⟩, ⟨Str.ofString "machine", L + 1 + 1 + 1, o 2, va, false, true⟩, ⟨Str.ofString "is_in", L + 1 + 1, o 3, vi, false, true⟩, ⟨Str.ofString "memory", L + 1, o 4, vm, false, true⟩]
noncomputable def stA (ti il rl : Addr) (ivs rvs : List Value) (ni nr : Nat) (ps : Array Value) (m y x0 : Int) (tm ty tx : Tok) (T : List (Addr × Obj)) (L : Addr) (o : Nat → Obj) (fo : Str → Option Value) : XS :=
  ⟨[ti, il, rl], [(Str.ofString "many", .v (.int m tm)), (Str.ofString "most", .v (.int y ty)), (Str.ofString "gone", .v (.int x0 tx)), (Str.ofString "items", .r 1), (Str.ofString "rounds", .r 2)], [.raw (tabObj ps), .lst ivs ni, .lst rvs nr], T, [0], ceL L o none none none none none, fo⟩
theorem law_a (h0 : c.pin = 0) (Y : Uses G c [] base 310 100 (fun _ _ => False)) (O : c.Ok xtL) (o : Nat → Obj) (sl : Addr) (xs : List Value) (hxs : c.h₀.IsList sl xs.toArray) (hint : ∀ (i : Nat) v, xs[i]? = some v → ∃ z t, v = .int z t) (h63 : xs.length ≤ 63)
    (k : ∀ (o' : Nat → Obj) il rl items ivs rvs ni nr m y x0 tm ty tx T fo, (0 ≤ m ∧ m ≤ 5) → (1 ≤ y ∧ y ≤ 24) → (0 ≤ x0 ∧ x0 ≤ 2) → ItemsAt T items ivs → RoundsAt items rvs → ivs.length ≤ 3 → EvF c (execs (fd_745.body.drop 3) c.env) (stA 742 il rl ivs rvs ni nr #[] m y x0 tm ty tx T L o' fo) LawEnd) :
    EvF c (execs fd_745.body c.env) ⟨[742], [(Str.ofString "script", .v (.ref sl))], [.raw (tabObj #[])], [], [0], ceL L o none none none none none, fun _ => none⟩ LawEnd := by
  refine exS_cut O (fd_745.body.drop 3) 60 (fd_745.body.take 3) _ _ ?_
  refine Do.dictS O 60 rfl rfl rfl (by nofun) rfl fun ja jo hja => ?_
  intro t1 t2 t3
  refine x_sliceO rfl fun as ts => ?_
  refine x_sliceL hxs (by rw [List.size_toArray]; exact Nat.le_trans h63 (by decide)) rfl (List.Mem.tail _ (List.Mem.tail _ (List.Mem.head _))) (by with_unfolding_all rfl) (by intro _; with_unfolding_all rfl) fun oa => ?_
  generalize hys : (slicePick xs.toArray none (some 30) none).toList = ys
  have hfacts : (∀ (i : Nat) v, ys[i]? = some v → ∃ z t, v = .int z t) ∧ ys.length ≤ 30 := by
    have hi : IntsAre xs (xs.map fun v => match v with | .int z _ => z | _ => 0) := ints_of hint
    have h2 := slice_ints_uptoW hi (y := 30) (by decide)
    rw [hys] at h2
    refine ⟨fun i v hv => ints_at h2 i v hv, ?_⟩
    rw [h2.length, List.length_take]; exact Nat.min_le_left _ _
  refine ⟨rfl, rfl, rfl, by show ([Str.ofString "at", Str.ofString "of"] : List Str).Nodup; decide +kernel, fun jo' hj => ?_⟩
  have hj' : JarIs G.w jo' 0 t2 oa := by rw [Y.prog, Y.hw] at hj; exact hj
  refine DoF.swap O 60 (names := [Str.ofString "many", Str.ofString "most", Str.ofString "gone"]) rfl rfl ?_
  intro t4
  refine u_pick Y (i := 1) (j := 3) (xs := ys) (no := 0) (m := 6) rfl rfl rfl hj' rfl rfl rfl (by lia) (by lia) hfacts.2 hfacts.1 rfl rfl fun v1 tv1 jo1 ta1 hv1 hj1 => ?_
  intro t5 t6
  refine u_pick Y (i := 1) (j := 3) (xs := ys) (no := 0) (m := 24) rfl rfl rfl hj1 rfl rfl rfl (by lia) (by lia) hfacts.2 hfacts.1 rfl rfl fun v2 tv2 jo2 ta2 hv2 hj2 => ?_
  intro t7 t8
  refine u_pick Y (i := 1) (j := 3) (xs := ys) (no := 0) (m := 3) rfl rfl rfl hj2 rfl rfl rfl (by lia) (by lia) hfacts.2 hfacts.1 rfl rfl fun v3 tv3 jo3 ta3 hv3 hj3 => ?_
  intro tp
  refine Do.use Y (fun hlen hne => c_items Y.HG ja oa jo3 3 ta3 ys 0 hj3 (by lia) hfacts.2 hfacts.1 (dis_at hne 1 3 rfl rfl rfl rfl)) [1] rfl rfl (fun hl => by exact all_cons (mem_led (i := 1) hl rfl) (all_cons (mem_led (i := 3) hl rfl) all_nil)) rfl rfl ?_ (fun _ _ _ h => h.elim) rfl
  rintro r out ⟨rt, il, rl, jo4, ivs, rvs, items, ni, nr, tl, hit, hro, h3, hne⟩ hn D hl A
  have nw := news_of hn hne
  refine ⟨.r 5, _, rfl, Next.setA 1 (.raw jo4) [rt, il, rl] [.tup [.v (.ref il), .v (.ref rl)], .lst ivs ni, .lst rvs nr] tl hl rfl D A (Nat.le_of_ble_eq_true rfl) rfl (all_cons (nw _ (List.Mem.head _)) (all_cons (nw _ (List.Mem.tail _ (List.Mem.head _))) (all_cons (nw _ (List.Mem.tail _ (List.Mem.tail _ (List.Mem.head _)))) all_nil))) rfl (fun p hp => ⟨mC _ (mC _ (mC _ (mC _ hp))), nw p (mC _ (mC _ (mC _ hp)))⟩) (List.Mem.head _) (outsIn.at ⟨List.Mem.tail _ (List.Mem.head _), List.Mem.tail _ (List.Mem.tail _ (List.Mem.head _)), List.Mem.tail _ (List.Mem.tail _ (List.Mem.tail _ (List.Mem.head _))), trivial⟩), ?_⟩
  refine EvF.sat (fun h S => (Weak.selV (st3 := stA 742 il rl ivs rvs ni nr #[] v1 (1 + v2) v3 tv1 t7 tv3 tl L o _) [0, 6, 7] [] S.len rfl rfl rfl (by decide) rfl rfl rfl (all_cons rfl (all_cons rfl (all_cons rfl (all_cons rfl (all_cons rfl all_nil))))) (fun p hp => .inl (mL _ hp)) rfl).sat S) (ExtP.zeroC h0 rfl) ?_
  exact k o il rl items ivs rvs ni nr v1 (1 + v2) v3 _ _ _ tl _ (by lia) (by lia) (by lia) hit hro h3
end
end
section
noncomputable def stB (ti il rl pls mm md lc : Addr) (ivs rvs pv its : List Value) (ni nr np n : Nat) (ps : Array Value) (m y x0 : Int) (tm ty tx : Tok) (q : Nat → Int) (t : Nat → Tok) (ch : Value) (T : List (Addr × Obj)) (L : Addr) (o : Nat → Obj) (fo : Str → Option Value) : XS :=
  ⟨[ti, il, rl, pls, mm, md, lc], [(Str.ofString "many", .v (.int m tm)), (Str.ofString "most", .v (.int y ty)), (Str.ofString "gone", .v (.int x0 tx)), (Str.ofString "items", .r 1), (Str.ofString "rounds", .r 2), (Str.ofString "places", .r 3)], [.raw (tabObj ps), .lst ivs ni, .lst rvs nr, .lst pv np, .inst 253 5, memE q t (.r 6) ch, .lst its n], T, [0, 6], ceL L o (some (.r 4)) none none none none, fo⟩
section
variable {G : GR} {c : XC} {base : Heap} {L : Addr}
theorem law_b (h0 : c.pin = 0) (Y : Uses G c [] base 310 100 (fun _ _ => False)) (O : c.Ok xtL) (o : Nat → Obj) (ti il rl : Addr) (items : List (Itm × Addr)) (ivs rvs : List Value) (ni nr : Nat) (ps : Array Value) (m y x0 : Int) (tm ty tx : Tok) (T : List (Addr × Obj)) (fo : Str → Option Value) (hm : 0 ≤ m ∧ m ≤ 5)
    (k : ∀ (o' : Nat → Obj) pls mm md lc pv np n q t ch tl fo', pv.length = m.toNat → AllAt PlaceR tl pv → EvF c (execs (fd_745.body.drop 5) c.env) (stB ti il rl pls mm md lc ivs rvs pv (List.replicate 20 .none) ni nr np n ps m y x0 tm ty tx q t ch (tl ++ T) L o' fo') LawEnd) :
    EvF c (execs (fd_745.body.drop 3) c.env) (stA ti il rl ivs rvs ni nr ps m y x0 tm ty tx T L o fo) LawEnd := by
  refine exS_cut O (fd_745.body.drop 5) 60 ((fd_745.body.drop 3).take 2) _ _ ?_
  refine DoF.comp O PlaceR place_tag 40 40 rfl rfl rfl rfl rfl rfl rfl ?_
  refine x_range rfl fun r t8 t9 => ?_
  refine ⟨rfl, rfl, rfl, 3, m.toNat, _, rfl, .rng 0 m _ _ _ rfl (small_one (by decide) (by decide) (by lia) (by lia)) ((rangeSize_nat 0 m).trans (by rw [Int.sub_zero])) (by lia) rfl, fun c' C oC I oI D ys tl i w _ O' hi hw hl hA hn => ?_, fun D ys tl hl hA h1 h2 h3 => ?_⟩
  · obtain ⟨tw, rfl⟩ := hw
    intro a1 a2 a3 a4 e p
    refine ⟨⟨rfl, rfl, rfl, rfl⟩, rfl, ?_⟩
    refine ⟨p, e, a1, a3, a4, rfl, ?_, List.Mem.head _⟩
    rw [show (3 + (i : Int)) = 3 + (0 + (i : Int)) by lia]
    exact List.Mem.tail _ (List.Mem.head _)
  · intro t1 t2
    refine DoC.cls Y 40 rfl rfl rfl rfl rfl rfl (fun _ _ _ _ _ _ _ _ _ => rfl) fun x dx c1 F1 B1 Y1 O1 hp => ?_
    intro l1
    refine x_mulL (k := 20) rfl rfl rfl (by decide) fun lc => ?_
    intro q1 s1 l2
    refine x_mulL (k := 0) rfl rfl rfl (by decide) fun l3 => ?_
    intro q2 s2 o1
    refine EvF.sel (st3 := stB ti il rl D x dx lc ivs rvs ys (List.replicate 20 .none) ni nr ys.length 0 ps m y x0 tm ty tx (fun | 0 => q1 | _ => q2) (fun | 0 => s1 | _ => s2) (.ref l3) (tl ++ T) L (fun | 4 => o1 | i => o i) _) h0 (ceL L (fun | 4 => o1 | i => o i) (some (.v (.ref x))) none none none none) [0, 1, 2, 4, 6, 5, 8] [] rfl rfl rfl rfl rfl rfl rfl rfl (by decide) rfl (all_cons rfl (all_cons rfl (all_cons rfl (all_cons rfl (all_cons rfl (all_cons rfl all_nil)))))) (fun p hp => .inl hp) rfl ?_
    exact k _ D x dx lc ys ys.length 0 _ _ _ tl _ hl hA
end
end
section
noncomputable def zsF (b : Int) (m : Nat) : List Int := (List.range m).map fun (k : Nat) => b + (k : Int)
theorem zsF_len {b : Int} {m : Nat} : (zsF b m).length = m := by unfold zsF; simp
theorem zsF_get {b : Int} {m j : Nat} (h : j < m) : (zsF b m)[j]? = some (b + (j : Int)) := by
  unfold zsF
  rw [List.getElem?_map, List.getElem?_range h]; rfl
section
variable {G : GR} {c : XC} {base : Heap} {L : Addr}
inductive StJ (ti il rl pls mm md lc : Addr) (ivs rvs pv : List Value) (ni nr np n : Nat) (ps : Array Value) (m : Nat) (y x0 : Int) (tm ty tx : Tok) (q : Nat → Int) (t : Nat → Tok) (ch : Value) (T0 : List (Addr × Obj)) (L : Addr) (o : Nat → Obj) (i : Nat) : XS → Prop
  | ex its T fo (h0 : (∀ p ∈ T0, p ∈ T)) (h1 : its.length = 20) (h2 : CellsAt T its ((zsF 40 m).take i)) : StJ ti il rl pls mm md lc ivs rvs pv ni nr np n ps m y x0 tm ty tx q t ch T0 L o i (stB ti il rl pls mm md lc ivs rvs pv its ni nr np n ps m y x0 tm ty tx q t ch T L o fo)
set_option tactic.hygienic true in
theorem law_c (h0 : c.pin = 0) (Y : Uses G c [] base 310 100 (fun _ _ => False)) (O : c.Ok xtL) (o : Nat → Obj) (ti il rl pls mm md lc : Addr) (ivs rvs pv : List Value) (ni nr np n : Nat) (ps : Array Value) (m : Nat) (y x0 : Int) (tm ty tx : Tok) (q : Nat → Int) (t : Nat → Tok) (ch : Value) (T0 : List (Addr × Obj)) (fo : Str → Option Value) (hm : m ≤ 5) (hpv : pv.length = m) (hpl : ∀ (i : Nat) v, pv[i]? = some v → IsPlace T0 (3 + (i : Int)) v)
    (k : ∀ its T fo', (∀ p ∈ T0, p ∈ T) → its.length = 20 → CellsAt T its (zsF 40 m) → EvF c (execs (fd_745.body.drop 6) c.env) (stB ti il rl pls mm md lc ivs rvs pv its ni nr np n ps m y x0 tm ty tx q t ch T L o fo') LawEnd) :
    EvF c (execs (fd_745.body.drop 5) c.env) (stB ti il rl pls mm md lc ivs rvs pv (List.replicate 20 .none) ni nr np n ps m y x0 tm ty tx q t ch T0 L o fo) LawEnd := by
  refine exS_cut O (fd_745.body.drop 6) 60 ((fd_745.body.drop 5).take 1) _ _ ?_
  refine x_range rfl fun r t8 t9 => ?_
  refine DoI.range O 60 (StJ ti il rl pls mm md lc ivs rvs pv ni nr np n ps m y x0 tm ty tx q t ch T0 L o) rfl rfl m (small_one (by decide) (by decide) (by lia) (by lia)) ((rangeSize_nat 0 m).trans (by lia)) (fun i st1 hI => ?_) ⟨_, Weak.go (st3 := stB ti il rl pls mm md lc ivs rvs pv (List.replicate 20 .none) ni nr np n ps m y x0 tm ty tx q t ch T0 L o _) 7 [] rfl, ⟨_, T0, _, fun p hp => hp, rfl, fun j z h => by simp at h⟩⟩ (fun i tv I oI st1 hi hI TT hTT => ?_) (fun st1 hI => ?_)
  · induction hI; rename_i its T fo _ _ _
    exact ExtP.zero h0 rfl
  · induction hI; rename_i its T fo hT h20 hc
    obtain ⟨v, hv⟩ : ∃ v, pv[i]? = some v := ⟨pv[i]'(by lia), List.getElem?_eq_getElem (by lia)⟩
    obtain ⟨pp, pe, p0, p1, p2, rfl, hpp, -⟩ := hpl i v hv
    have hpp' := hT _ hpp
    refine x_item (.v (.ref pp)) rfl (by lia) hv (by lia) rfl ?_
    intro w1 w2
    refine u_storeN Y (k := 3 + i) q t (pl := pp) (pd := .ref pe) rfl rfl rfl rfl rfl (fun _ => tl_mem hpp') (fun hl D => dis_tl D 6 rfl rfl hpp') (by lia) (by lia) (by lia) rfl rfl rfl rfl rfl fun cc hcc => ?_
    have hz : (zsF 40 m)[i]? = some (40 + (0 + (i : Int))) := by rw [Int.zero_add]; exact zsF_get hi
    exact hTT.nx ⟨_, Weak.go (st3 := stB ti il rl pls mm md lc ivs rvs pv (its.set (3 + i) (.ref cc)) ni nr np n ps m y x0 tm ty tx q t ch ((cc, tupO #[.int 0 p0, .int (40 + (0 + (i : Int))) w2]) :: T) L o _) 7 [7] rfl, ⟨_, _, _, fun p hp => mC _ (hT p hp), by rw [List.length_set]; exact h20, (hc.mono fun p hp => mC _ hp).snoc hz (by lia) (List.Mem.head _)⟩⟩
  · induction hI; rename_i its T fo hT h20 hc
    refine k its T fo hT h20 ?_
    rwa [List.take_of_length_le (Nat.le_of_eq zsF_len)] at hc
end
end
section
noncomputable def ofL {α : Type} (l : List α) (d : α) : Nat → α := fun i => l.getD i d
inductive RunPost (mm li ex dx : Addr) (v : Value) (out : List (Addr × Obj)) : Prop
  | mk (hv : v = .none) (q : Nat → Int) (t : Nat → Tok) (u : Nat → Value) (fr op : Addr) (tx : Tok) (ho : out = [(dx, runD q t u mm li ex fr op 0 tx)])
inductive MachPost (mm li dx : Addr) (v : Value) (out : List (Addr × Obj)) : Prop
  | mk (hv : v = .none) (q : Nat → Int) (t : Nat → Tok) (u : Nat → Value) (tr : Addr) (tx : Tok) (ho : out = [(dx, (machE q t u (.v (.ref mm)) (.v (.ref li)) (.v (.ref tr)) 0 tx).den [])])
section
variable {G : GR} (HG : GrF G.K)
include HG
theorem i_run (mm li ex : Addr) (un wo sv : Value) (x dx : Addr) (hne : x ≠ dx) : CTc G 800 2500 367 (.ref x :: [.ref mm, .ref li, un, wo, .ref ex, sv]) [(x, instObj 370 dx), (dx, dictOf [] 0)] [dx] (RunPost mm li ex dx) never := by
  refine CTc.go HG 40 [x, dx] [.inst 370 1, .dict [] 0] [] [1] [.r 0, .v (.ref mm), .v (.ref li), .v un, .v wo, .v (.ref ex), .v sv] rfl rfl rfl (fun _ _ _ _ _ _ _ => rfl) rfl (fun _ => Iff.rfl) rfl (Dis.of ⟨⟨⟨hne, trivial, trivial⟩, all_nil⟩, trivial⟩) ?_
  intro c frames base Y O
  intro q0 t0
  intro q1 t1
  change exS _ c _ _ ⟨[x, dx], bindRV fd_367.params [.r 0, .v (.ref mm), .v (.ref li), .v un, .v wo, .v (.ref ex), .v sv], [.inst 370 1, .dict [(q0, Str.ofString "memory", t0, .v (.ref mm)), (q1, Str.ofString "limits", t1, .v (.ref li))] 2], [], [1], [], fun _ => none⟩ _
  intro q2 t2
  intro q3 t3
  change exS _ c _ _ ⟨[x, dx], bindRV fd_367.params [.r 0, .v (.ref mm), .v (.ref li), .v un, .v wo, .v (.ref ex), .v sv], [.inst 370 1, .dict [(q0, Str.ofString "memory", t0, .v (.ref mm)), (q1, Str.ofString "limits", t1, .v (.ref li)), (q2, Str.ofString "units", t2, .v un), (q3, Str.ofString "world", t3, .v wo)] 4], [], [1], [], fun _ => none⟩ _
  intro q4 t4
  intro q5 t5
  change exS _ c _ _ ⟨[x, dx], bindRV fd_367.params [.r 0, .v (.ref mm), .v (.ref li), .v un, .v wo, .v (.ref ex), .v sv], [.inst 370 1, .dict [(q0, Str.ofString "memory", t0, .v (.ref mm)), (q1, Str.ofString "limits", t1, .v (.ref li)), (q2, Str.ofString "units", t2, .v un), (q3, Str.ofString "world", t3, .v wo), (q4, Str.ofString "expressions", t4, .v (.ref ex)), (q5, Str.ofString "statements", t5, .v sv)] 6], [], [1], [], fun _ => none⟩ _
  intro a6 o6 n6 d6 q6 t6
  intro c7 q7 t7
  change exS _ c _ _ ⟨[x, dx, a6], bindRV fd_367.params [.r 0, .v (.ref mm), .v (.ref li), .v un, .v wo, .v (.ref ex), .v sv], [.inst 370 1, .dict [(q0, Str.ofString "memory", t0, .v (.ref mm)), (q1, Str.ofString "limits", t1, .v (.ref li)), (q2, Str.ofString "units", t2, .v un), (q3, Str.ofString "world", t3, .v wo), (q4, Str.ofString "expressions", t4, .v (.ref ex)), (q5, Str.ofString "statements", t5, .v sv), (q6, Str.ofString "frame", t6, .r 2), (q7, Str.ofString "depth", t7, .v (.int 0 c7))] 8, .raw o6], [], [2, 1], [], fun _ => none⟩ _
  intro c8 q8 t8
  intro a9 o9 n9 d9 q9 t9
  change exS _ c _ _ ⟨[x, dx, a6, a9], bindRV fd_367.params [.r 0, .v (.ref mm), .v (.ref li), .v un, .v wo, .v (.ref ex), .v sv], [.inst 370 1, .dict [(q0, Str.ofString "memory", t0, .v (.ref mm)), (q1, Str.ofString "limits", t1, .v (.ref li)), (q2, Str.ofString "units", t2, .v un), (q3, Str.ofString "world", t3, .v wo), (q4, Str.ofString "expressions", t4, .v (.ref ex)), (q5, Str.ofString "statements", t5, .v sv), (q6, Str.ofString "frame", t6, .r 2), (q7, Str.ofString "depth", t7, .v (.int 0 c7)), (q8, Str.ofString "steps", t8, .v (.int 0 c8)), (q9, Str.ofString "places", t9, .r 3)] 10, .raw o6, .raw o9], [], [3, 2, 1], [], fun _ => none⟩ _
  intro a10 o10 n10 d10 q10 t10
  intro a11 o11 n11 d11 q11 t11
  change exS _ c _ _ ⟨[x, dx, a6, a9, a10, a11], bindRV fd_367.params [.r 0, .v (.ref mm), .v (.ref li), .v un, .v wo, .v (.ref ex), .v sv], [.inst 370 1, .dict [(q0, Str.ofString "memory", t0, .v (.ref mm)), (q1, Str.ofString "limits", t1, .v (.ref li)), (q2, Str.ofString "units", t2, .v un), (q3, Str.ofString "world", t3, .v wo), (q4, Str.ofString "expressions", t4, .v (.ref ex)), (q5, Str.ofString "statements", t5, .v sv), (q6, Str.ofString "frame", t6, .r 2), (q7, Str.ofString "depth", t7, .v (.int 0 c7)), (q8, Str.ofString "steps", t8, .v (.int 0 c8)), (q9, Str.ofString "places", t9, .r 3), (q10, Str.ofString "flows", t10, .r 4), (q11, Str.ofString "clears", t11, .r 5)] 12, .raw o6, .raw o9, .raw o10, .raw o11], [], [5, 4, 3, 2, 1], [], fun _ => none⟩ _
  intro a12 q12 t12
  intro a13 o13 n13 d13 q13 t13
  change exS _ c _ _ ⟨[x, dx, a6, a9, a10, a11, a12, a13], bindRV fd_367.params [.r 0, .v (.ref mm), .v (.ref li), .v un, .v wo, .v (.ref ex), .v sv], [.inst 370 1, .dict [(q0, Str.ofString "memory", t0, .v (.ref mm)), (q1, Str.ofString "limits", t1, .v (.ref li)), (q2, Str.ofString "units", t2, .v un), (q3, Str.ofString "world", t3, .v wo), (q4, Str.ofString "expressions", t4, .v (.ref ex)), (q5, Str.ofString "statements", t5, .v sv), (q6, Str.ofString "frame", t6, .r 2), (q7, Str.ofString "depth", t7, .v (.int 0 c7)), (q8, Str.ofString "steps", t8, .v (.int 0 c8)), (q9, Str.ofString "places", t9, .r 3), (q10, Str.ofString "flows", t10, .r 4), (q11, Str.ofString "clears", t11, .r 5), (q12, Str.ofString "active", t12, .r 6), (q13, Str.ofString "loops", t13, .r 7)] 14, .raw o6, .raw o9, .raw o10, .raw o11, .lst [] 0, .raw o13], [], [7, 6, 5, 4, 3, 2, 1], [], fun _ => none⟩ _
  intro a14 o14 n14 d14 q14 t14
  intro q15 t15
  change EndX _ _ _ _ ⟨[x, dx, a6, a9, a10, a11, a12, a13, a14], bindRV fd_367.params [.r 0, .v (.ref mm), .v (.ref li), .v un, .v wo, .v (.ref ex), .v sv], [.inst 370 1, .dict [(q0, Str.ofString "memory", t0, .v (.ref mm)), (q1, Str.ofString "limits", t1, .v (.ref li)), (q2, Str.ofString "units", t2, .v un), (q3, Str.ofString "world", t3, .v wo), (q4, Str.ofString "expressions", t4, .v (.ref ex)), (q5, Str.ofString "statements", t5, .v sv), (q6, Str.ofString "frame", t6, .r 2), (q7, Str.ofString "depth", t7, .v (.int 0 c7)), (q8, Str.ofString "steps", t8, .v (.int 0 c8)), (q9, Str.ofString "places", t9, .r 3), (q10, Str.ofString "flows", t10, .r 4), (q11, Str.ofString "clears", t11, .r 5), (q12, Str.ofString "active", t12, .r 6), (q13, Str.ofString "loops", t13, .r 7), (q14, Str.ofString "operations", t14, .r 8), (q15, Str.ofString "library", t15, .v .none)] 16, .raw o6, .raw o9, .raw o10, .raw o11, .lst [] 0, .raw o13, .raw o14], [], [8, 7, 6, 5, 4, 3, 2, 1], [], fun _ => none⟩
  refine EndX.out [1] [1] [a6, a9, a10, a11, a12, a13, a14] rfl rfl (fun _ h => h) rfl rfl rfl rfl rfl rfl fun D => ?_
  exact ⟨rfl, ofL [q0, q1, q2, q3, q4, q5, q6, q7, q8, q9, q10, q11, q12, q13, q14, q15] 0, ofL [t0, t1, t2, t3, t4, t5, t6, t7, t8, t9, t10, t11, t12, t13, t14, t15] 0, ofL [.none, .none, un, wo, .none, sv, .none, .int 0 c7, .none, .ref a9, .ref a10, .ref a11, .ref a12, .ref a13, .none, .none] .none, a6, a14, c8, rfl⟩
omit HG in
theorem x_run {c : XC} {frames : List Env} {base : Heap} {D U : Nat} {R : Int → List (Addr × Obj) → Prop} {st : XS} {K : RV → XS → Prop} (Y : Uses G c frames base D U R) {i j k : Nat} {un wo sv : RV} (hw : st.wf = true) (h1 : (RV.r i).wf st.ob.length = true) (h2 : (RV.r j).wf st.ob.length = true) (h3 : (RV.r k).wf st.ob.length = true) (hD : Nat.ble (D + 1) 800 = true) (hU : Nat.ble (U + 4) 2500 = true)
    (kk : ∀ x dx q t u fr op tx, K (.r (st.ob.length + 1)) ((st.add dx (.dict (runE q t u (.r i) (.r j) (.r k) (.v (.ref fr)) (.v (.ref op)) 0 tx) 16)).add x (.inst 370 st.ob.length))) : DoC c (.ref 370) [.r i, .r j, un, wo, .r k, sv] st K := by
  obtain ⟨m1, m2, m3⟩ := Y.HG.mkAt (C := 370) rfl
  refine ⟨fun Q s z S hq => ?_⟩
  have g : ∀ {v : RV} {dx : Addr}, v.wf st.ob.length = true → v.den (st.ρ ++ [dx]) = v.den st.ρ := fun h => RV.den_grow (Nat.le_of_eq S.len.symm) _ _ h
  refine (Do.make Y m1 m2 m3 (fun x dx hne => i_run Y.HG (st.ρ.getD i 0) (st.ρ.getD j 0) (st.ρ.getD k 0) (un.den st.ρ) (wo.den st.ρ) (sv.den st.ρ) x dx hne) hD hU hw (fun x dx v out hp => ?_) (rvs := [.r i, .r j, un, wo, .r k, sv])).run Q s z S hq
  obtain ⟨hv, q, t, u, fr, op, tx, rfl⟩ := hp
  refine ⟨hv, .dict (runE q t u (.r i) (.r j) (.r k) (.v (.ref fr)) (.v (.ref op)) 0 tx) 16, ?_, ?_, kk x dx q t u fr op tx⟩
  · have : (RO.dict (runE q t u (.r i) (.r j) (.r k) (.v (.ref fr)) (.v (.ref op)) 0 tx) 16).den (st.ρ ++ [dx]) = runD q t u (st.ρ.getD i 0) (st.ρ.getD j 0) (st.ρ.getD k 0) fr op 0 tx := by
      show dictOf _ 16 = dictOf _ 16
      simp only [List.map_cons, List.map_nil, entry, g h1, g h2, g h3]
      rfl
    rw [this]; exact mS
  · refine XS.wf_add hw ?_
    have up : ∀ {v : RV}, v.wf st.ob.length = true → v.wf (st.ob.length + 1) = true := fun h => RV.wf_up (Nat.le_succ _) h
    simp only [RO.wf, List.all_cons, List.all_nil, up h1, up h2, up h3, Bool.true_and, Bool.and_true]
    rfl
theorem i_mach (mm li : Addr) (co fs : Value) (x dx : Addr) (hne : x ≠ dx) : CTc G 800 2500 625 (.ref x :: [.ref mm, .ref li, co, fs]) [(x, instObj 628 dx), (dx, dictOf [] 0)] [dx] (MachPost mm li dx) never := by
  refine CTc.go HG 40 [x, dx] [.inst 628 1, .dict [] 0] [] [1] [.r 0, .v (.ref mm), .v (.ref li), .v co, .v fs] rfl rfl rfl (fun _ _ _ _ _ _ _ => rfl) rfl (fun _ => Iff.rfl) rfl (Dis.of ⟨⟨⟨hne, trivial, trivial⟩, all_nil⟩, trivial⟩) ?_
  intro c frames base Y O
  intro q0 t0
  intro q1 t1
  change exS _ c _ _ ⟨[x, dx], bindRV fd_625.params [.r 0, .v (.ref mm), .v (.ref li), .v co, .v fs], [.inst 628 1, .dict [(q0, Str.ofString "memory", t0, .v (.ref mm)), (q1, Str.ofString "limits", t1, .v (.ref li))] 2], [], [1], [], fun _ => none⟩ _
  intro q2 t2
  intro q3 t3
  change exS _ c _ _ ⟨[x, dx], bindRV fd_625.params [.r 0, .v (.ref mm), .v (.ref li), .v co, .v fs], [.inst 628 1, .dict [(q0, Str.ofString "memory", t0, .v (.ref mm)), (q1, Str.ofString "limits", t1, .v (.ref li)), (q2, Str.ofString "codes", t2, .v co), (q3, Str.ofString "frames", t3, .v fs)] 4], [], [1], [], fun _ => none⟩ _
  intro a4 o4 n4 d4 q4 t4
  intro a5 o5 n5 d5 q5 t5
  change exS _ c _ _ ⟨[x, dx, a4, a5], bindRV fd_625.params [.r 0, .v (.ref mm), .v (.ref li), .v co, .v fs], [.inst 628 1, .dict [(q0, Str.ofString "memory", t0, .v (.ref mm)), (q1, Str.ofString "limits", t1, .v (.ref li)), (q2, Str.ofString "codes", t2, .v co), (q3, Str.ofString "frames", t3, .v fs), (q4, Str.ofString "ops", t4, .r 2), (q5, Str.ofString "operations", t5, .r 3)] 6, .raw o4, .raw o5], [], [3, 2, 1], [], fun _ => none⟩ _
  intro a6 o6 n6 d6 q6 t6
  intro q7 t7
  change exS _ c _ _ ⟨[x, dx, a4, a5, a6], bindRV fd_625.params [.r 0, .v (.ref mm), .v (.ref li), .v co, .v fs], [.inst 628 1, .dict [(q0, Str.ofString "memory", t0, .v (.ref mm)), (q1, Str.ofString "limits", t1, .v (.ref li)), (q2, Str.ofString "codes", t2, .v co), (q3, Str.ofString "frames", t3, .v fs), (q4, Str.ofString "ops", t4, .r 2), (q5, Str.ofString "operations", t5, .r 3), (q6, Str.ofString "io", t6, .r 4), (q7, Str.ofString "enter", t7, .v (.ref 637))] 8, .raw o4, .raw o5, .raw o6], [], [4, 3, 2, 1], [], fun _ => none⟩ _
  intro q8 t8
  intro q9 t9
  change exS _ c _ _ ⟨[x, dx, a4, a5, a6], bindRV fd_625.params [.r 0, .v (.ref mm), .v (.ref li), .v co, .v fs], [.inst 628 1, .dict [(q0, Str.ofString "memory", t0, .v (.ref mm)), (q1, Str.ofString "limits", t1, .v (.ref li)), (q2, Str.ofString "codes", t2, .v co), (q3, Str.ofString "frames", t3, .v fs), (q4, Str.ofString "ops", t4, .r 2), (q5, Str.ofString "operations", t5, .r 3), (q6, Str.ofString "io", t6, .r 4), (q7, Str.ofString "enter", t7, .v (.ref 637)), (q8, Str.ofString "world", t8, .v .none), (q9, Str.ofString "library", t9, .v .none)] 10, .raw o4, .raw o5, .raw o6], [], [4, 3, 2, 1], [], fun _ => none⟩ _
  intro a10 o10 n10 d10 q10 t10
  intro a11 o11 n11 d11 q11 t11
  change exS _ c _ _ ⟨[x, dx, a4, a5, a6, a10, a11], bindRV fd_625.params [.r 0, .v (.ref mm), .v (.ref li), .v co, .v fs], [.inst 628 1, .dict [(q0, Str.ofString "memory", t0, .v (.ref mm)), (q1, Str.ofString "limits", t1, .v (.ref li)), (q2, Str.ofString "codes", t2, .v co), (q3, Str.ofString "frames", t3, .v fs), (q4, Str.ofString "ops", t4, .r 2), (q5, Str.ofString "operations", t5, .r 3), (q6, Str.ofString "io", t6, .r 4), (q7, Str.ofString "enter", t7, .v (.ref 637)), (q8, Str.ofString "world", t8, .v .none), (q9, Str.ofString "library", t9, .v .none), (q10, Str.ofString "functions", t10, .r 5), (q11, Str.ofString "clears", t11, .r 6)] 12, .raw o4, .raw o5, .raw o6, .raw o10, .raw o11], [], [6, 5, 4, 3, 2, 1], [], fun _ => none⟩ _
  intro a12 o12 n12 d12 q12 t12
  intro a13 o13 n13 d13 q13 t13
  change exS _ c _ _ ⟨[x, dx, a4, a5, a6, a10, a11, a12, a13], bindRV fd_625.params [.r 0, .v (.ref mm), .v (.ref li), .v co, .v fs], [.inst 628 1, .dict [(q0, Str.ofString "memory", t0, .v (.ref mm)), (q1, Str.ofString "limits", t1, .v (.ref li)), (q2, Str.ofString "codes", t2, .v co), (q3, Str.ofString "frames", t3, .v fs), (q4, Str.ofString "ops", t4, .r 2), (q5, Str.ofString "operations", t5, .r 3), (q6, Str.ofString "io", t6, .r 4), (q7, Str.ofString "enter", t7, .v (.ref 637)), (q8, Str.ofString "world", t8, .v .none), (q9, Str.ofString "library", t9, .v .none), (q10, Str.ofString "functions", t10, .r 5), (q11, Str.ofString "clears", t11, .r 6), (q12, Str.ofString "places", t12, .r 7), (q13, Str.ofString "units", t13, .r 8)] 14, .raw o4, .raw o5, .raw o6, .raw o10, .raw o11, .raw o12, .raw o13], [], [8, 7, 6, 5, 4, 3, 2, 1], [], fun _ => none⟩ _
  intro a14 q14 t14
  intro a15 q15 t15
  change exS _ c _ _ ⟨[x, dx, a4, a5, a6, a10, a11, a12, a13, a14, a15], bindRV fd_625.params [.r 0, .v (.ref mm), .v (.ref li), .v co, .v fs], [.inst 628 1, .dict [(q0, Str.ofString "memory", t0, .v (.ref mm)), (q1, Str.ofString "limits", t1, .v (.ref li)), (q2, Str.ofString "codes", t2, .v co), (q3, Str.ofString "frames", t3, .v fs), (q4, Str.ofString "ops", t4, .r 2), (q5, Str.ofString "operations", t5, .r 3), (q6, Str.ofString "io", t6, .r 4), (q7, Str.ofString "enter", t7, .v (.ref 637)), (q8, Str.ofString "world", t8, .v .none), (q9, Str.ofString "library", t9, .v .none), (q10, Str.ofString "functions", t10, .r 5), (q11, Str.ofString "clears", t11, .r 6), (q12, Str.ofString "places", t12, .r 7), (q13, Str.ofString "units", t13, .r 8), (q14, Str.ofString "active", t14, .r 9), (q15, Str.ofString "transfers", t15, .r 10)] 16, .raw o4, .raw o5, .raw o6, .raw o10, .raw o11, .raw o12, .raw o13, .lst [] 0, .lst [] 0], [], [10, 9, 8, 7, 6, 5, 4, 3, 2, 1], [], fun _ => none⟩ _
  intro c16 q16 t16
  change EndX _ _ _ _ ⟨[x, dx, a4, a5, a6, a10, a11, a12, a13, a14, a15], bindRV fd_625.params [.r 0, .v (.ref mm), .v (.ref li), .v co, .v fs], [.inst 628 1, .dict [(q0, Str.ofString "memory", t0, .v (.ref mm)), (q1, Str.ofString "limits", t1, .v (.ref li)), (q2, Str.ofString "codes", t2, .v co), (q3, Str.ofString "frames", t3, .v fs), (q4, Str.ofString "ops", t4, .r 2), (q5, Str.ofString "operations", t5, .r 3), (q6, Str.ofString "io", t6, .r 4), (q7, Str.ofString "enter", t7, .v (.ref 637)), (q8, Str.ofString "world", t8, .v .none), (q9, Str.ofString "library", t9, .v .none), (q10, Str.ofString "functions", t10, .r 5), (q11, Str.ofString "clears", t11, .r 6), (q12, Str.ofString "places", t12, .r 7), (q13, Str.ofString "units", t13, .r 8), (q14, Str.ofString "active", t14, .r 9), (q15, Str.ofString "transfers", t15, .r 10), (q16, Str.ofString "steps", t16, .v (.int 0 c16))] 17, .raw o4, .raw o5, .raw o6, .raw o10, .raw o11, .raw o12, .raw o13, .lst [] 0, .lst [] 0], [], [10, 9, 8, 7, 6, 5, 4, 3, 2, 1], [], fun _ => none⟩
  refine EndX.out [1] [1] [a4, a5, a6, a10, a11, a12, a13, a14, a15] rfl rfl (fun _ h => h) rfl rfl rfl rfl rfl rfl fun D => ?_
  exact ⟨rfl, ofL [q0, q1, q2, q3, q4, q5, q6, q7, q8, q9, q10, q11, q12, q13, q14, q15, q16] 0, ofL [t0, t1, t2, t3, t4, t5, t6, t7, t8, t9, t10, t11, t12, t13, t14, t15, t16] 0, ofL [.none, .none, co, fs, .ref a4, .ref a5, .ref a6, .ref 637, .none, .none, .ref a10, .ref a11, .ref a12, .ref a13, .ref a14, .none, .none] .none, a15, c16, rfl⟩
omit HG in
theorem x_mach {c : XC} {frames : List Env} {base : Heap} {D U : Nat} {R : Int → List (Addr × Obj) → Prop} {st : XS} {K : RV → XS → Prop} (Y : Uses G c frames base D U R) {i j : Nat} {co fs : RV} (hw : st.wf = true) (h1 : (RV.r i).wf st.ob.length = true) (h2 : (RV.r j).wf st.ob.length = true) (hD : Nat.ble (D + 1) 800 = true) (hU : Nat.ble (U + 4) 2500 = true)
    (kk : ∀ x dx q t u tr tx, K (.r (st.ob.length + 1)) ((st.add dx (machE q t u (.r i) (.r j) (.v (.ref tr)) 0 tx)).add x (.inst 628 st.ob.length))) : DoC c (.ref 628) [.r i, .r j, co, fs] st K := by
  obtain ⟨m1, m2, m3⟩ := Y.HG.mkAt (C := 628) rfl
  refine ⟨fun Q s z S hq => ?_⟩
  have g : ∀ {v : RV} {dx : Addr}, v.wf st.ob.length = true → v.den (st.ρ ++ [dx]) = v.den st.ρ := fun h => RV.den_grow (Nat.le_of_eq S.len.symm) _ _ h
  refine (Do.make Y m1 m2 m3 (fun x dx hne => i_mach Y.HG (st.ρ.getD i 0) (st.ρ.getD j 0) (co.den st.ρ) (fs.den st.ρ) x dx hne) hD hU hw (fun x dx v out hp => ?_) (rvs := [.r i, .r j, co, fs])).run Q s z S hq
  obtain ⟨hv, q, t, u, tr, tx, rfl⟩ := hp
  refine ⟨hv, machE q t u (.r i) (.r j) (.v (.ref tr)) 0 tx, ?_, ?_, kk x dx q t u tr tx⟩
  · have : (machE q t u (.r i) (.r j) (.v (.ref tr)) 0 tx).den (st.ρ ++ [dx]) = (machE q t u (.v (.ref (st.ρ.getD i 0))) (.v (.ref (st.ρ.getD j 0))) (.v (.ref tr)) 0 tx).den [] := by
      show dictOf _ 17 = dictOf _ 17
      simp only [List.map_cons, List.map_nil, entry, g h1, g h2]
      rfl
    rw [this]; exact mS
  · refine XS.wf_add hw ?_
    have up : ∀ {v : RV}, v.wf st.ob.length = true → v.wf (st.ob.length + 1) = true := fun h => RV.wf_up (Nat.le_succ _) h
    simp only [RO.wf, List.all_cons, List.all_nil, up h1, up h2, Bool.true_and, Bool.and_true]
    rfl
end
end
section
noncomputable def stC (P : WP) (ti rl pls : Addr) (rvs pv its : List Value) (nr np n : Nat) (ps : Array Value) (x0 x : Int) (tm tg tx : Tok) (T : List (Addr × Obj)) (L : Addr) (o : Nat → Obj) (fo : Str → Option Value) : XS :=
  ⟨[P.a 0, P.a 1, P.a 2, P.a 3, P.a 4, P.a 5, P.a 6, P.a 7, P.a 8, P.a 9, P.a 10, P.a 11, P.a 12, P.a 13, P.a 14, P.a 15, ti, rl, pls], [(Str.ofString "many", .v (.int P.many tm)), (Str.ofString "most", .v (.int P.y (P.t 1 8))), (Str.ofString "gone", .v (.int x0 tg)), (Str.ofString "items", .r 15), (Str.ofString "rounds", .r 17), (Str.ofString "places", .r 18)], P.grd x tx its n ++ [.raw (tabObj ps), .lst rvs nr, .lst pv np], T, [1, 6, 16], ceL L o (some (.r 4)) none none (some (.r 0)) none, fo⟩
section
variable {G : GR} {c : XC} {base : Heap} {L : Addr}
theorem law_d (HY : GrY G.K) (h0 : c.pin = 0) (Y : Uses G c [] base 310 100 (fun _ _ => False)) (O : c.Ok xtL) (o : Nat → Obj) (ti il rl pls mm md lc : Addr) (items : List (Itm × Addr)) (ivs rvs pv its : List Value) (ni nr np n : Nat) (ps : Array Value) (m : Nat) (y x0 : Int) (tm ty tx : Tok) (q : Nat → Int) (t : Nat → Tok) (ch : Value) (T : List (Addr × Obj)) (fo : Str → Option Value)
    (k : ∀ (P : WP) (o' : Nat → Obj) tx' fo', P.many = m → P.y = y → P.items = items → P.xs = ivs → P.oE.IsDictOf (strKind PG G.w) [(Str.ofString "const", .ref 421), (Str.ofString "var", .ref 428)] → (P.a 7 == sysModules) = false → P.oF.IsDictOf (strKind PG G.w) [(Str.ofString "A", .ref (P.a 10)), (Str.ofString "I", .ref (P.a 13))] → (P.a 8 == sysModules) = false → P.oO.IsDictOf (intKind PG G.w) [(0, .ref 187)] → (P.a 9 == sysModules) = false →
      EvF c (execs (fd_745.body.drop 10) c.env) (stC P ti rl pls rvs pv its nr np n ps x0 x0 tm tx tx' T L o' fo') LawEnd) :
    EvF c (execs (fd_745.body.drop 6) c.env) (stB ti il rl pls mm md lc ivs rvs pv its ni nr np n ps m y x0 tm ty tx q t ch T L o fo) LawEnd := by
  refine exS_cut O (fd_745.body.drop 10) 60 ((fd_745.body.drop 6).take 4) _ _ ?_
  refine Do.callK (n := 40) O rfl ⟨rfl, x_limits HY Y rfl rfl rfl fun li ld ql tl => ?_⟩
  intro a1 o1 n1 d1
  refine Do.dictS O 40 rfl rfl rfl (by nofun) rfl fun ea eo hea => ?_
  intro t1 t2
  refine ⟨rfl, rfl, rfl, by show ([Str.ofString "const", Str.ofString "var"] : List Str).Nodup; decide +kernel, fun eo' he => ?_⟩
  intro a2 o2 n2 d2
  refine x_run Y rfl rfl rfl rfl rfl rfl fun rr rd qr tr ur fr op txr => ?_
  intro o3
  change exS _ c _ _ ⟨[ti, il, rl, pls, mm, md, lc, ld, li, a1, ea, a2, rd, rr], [(Str.ofString "many", .v (.int m tm)), (Str.ofString "most", .v (.int y ty)), (Str.ofString "gone", .v (.int x0 tx)), (Str.ofString "items", .r 1), (Str.ofString "rounds", .r 2), (Str.ofString "places", .r 3)], [.raw (tabObj ps), .lst ivs ni, .lst rvs nr, .lst pv np, .inst 253 5, memE q t (.r 6) ch, .lst its n, .dict (limE ql tl limU y ty) 8, .inst 607 7, .raw o1, .raw eo', .raw o2, .dict (runE qr tr ur (.r 4) (.r 8) (.r 10) (.v (.ref fr)) (.v (.ref op)) 0 txr) 16, .inst 370 12], T, [13, 12, 11, 10, 9, 8, 7, 0, 6], ceL L (fun | 1 => o3 | i => o i) (some (.r 4)) none none (some (.r 13)) none, fo⟩ _
  refine Do.dictI O 40 rfl rfl rfl (by nofun) rfl fun oa oo hoa => ?_
  intro t3
  refine ⟨rfl, rfl, rfl, by show ([0] : List Int).Nodup; decide, fun oo' ho => ?_⟩
  intro qa ta
  change exS _ c _ _ ⟨[ti, il, rl, pls, mm, md, lc, ld, li, a1, ea, a2, rd, rr, oa], [(Str.ofString "many", .v (.int m tm)), (Str.ofString "most", .v (.int y ty)), (Str.ofString "gone", .v (.int x0 tx)), (Str.ofString "items", .r 1), (Str.ofString "rounds", .r 2), (Str.ofString "places", .r 3)], [.raw (tabObj ps), .lst ivs ni, .lst rvs nr, .lst pv np, .inst 253 5, memE q t (.r 6) ch, .lst its n, .dict (limE ql tl limU y ty) 8, .inst 607 7, .raw o1, .raw eo', .raw o2, .dict (runE qr tr ur (.r 4) (.r 8) (.r 10) (.v (.ref fr)) (.r 14) 0 txr) 16, .inst 370 12, .raw oo'], T, [14, 13, 12, 11, 10, 9, 8, 7, 0, 6], ceL L (fun | 1 => o3 | i => o i) (some (.r 4)) none none (some (.r 13)) none, fo⟩ _
  refine Do.dictS O 40 rfl rfl rfl (by nofun) rfl fun fa ff hfa => ?_
  intro w0 u0 u1 u2 u3 D12 D11 D10 w1 u4 u5 u6 D14 D13
  refine ⟨rfl, rfl, rfl, by show ([Str.ofString "A", Str.ofString "I"] : List Str).Nodup; decide +kernel, fun ff' hf => ?_⟩
  intro qb tb
  change exS _ c _ _ ⟨[ti, il, rl, pls, mm, md, lc, ld, li, a1, ea, a2, rd, rr, oa, fa, D12, D11, D10, D14, D13], [(Str.ofString "many", .v (.int m tm)), (Str.ofString "most", .v (.int y ty)), (Str.ofString "gone", .v (.int x0 tx)), (Str.ofString "items", .r 1), (Str.ofString "rounds", .r 2), (Str.ofString "places", .r 3)], [.raw (tabObj ps), .lst ivs ni, .lst rvs nr, .lst pv np, .inst 253 5, memE q t (.r 6) ch, .lst its n, .dict (limE ql tl limU y ty) 8, .inst 607 7, .raw o1, .raw eo', .raw o2, .dict (runE qr tr ur (.r 4) (.r 8) (.r 10) (.r 15) (.r 14) 0 txr) 16, .inst 370 12, .raw oo', .raw ff', .tup [.v (.int 1 u3), .v (.int m tm)], .tup [.r 16], .tup [.v (.int 0 u0), .v (.int 3 u1), .v (.int 0 u2), .r 17], .tup [], .tup [.v (.int 0 u4), .v (.int 0 u5), .v (.int 0 u6), .r 19]], T, [20, 19, 18, 17, 16, 15, 14, 13, 12, 11, 10, 9, 8, 7, 0, 6], ceL L (fun | 1 => o3 | i => o i) (some (.r 4)) none none (some (.r 13)) none, fo⟩ _
  intro qc tc
  change EvF c _ ⟨[ti, il, rl, pls, mm, md, lc, ld, li, a1, ea, a2, rd, rr, oa, fa, D12, D11, D10, D14, D13], [(Str.ofString "many", .v (.int m tm)), (Str.ofString "most", .v (.int y ty)), (Str.ofString "gone", .v (.int x0 tx)), (Str.ofString "items", .r 1), (Str.ofString "rounds", .r 2), (Str.ofString "places", .r 3)], [.raw (tabObj ps), .lst ivs ni, .lst rvs nr, .lst pv np, .inst 253 5, memE q t (.r 6) ch, .lst its n, .dict (limE ql tl limU y ty) 8, .inst 607 7, .raw o1, .raw eo', .raw o2, .dict (runE qr tr ur (.r 4) (.r 8) (.r 10) (.r 15) (.r 14) x0 tx) 16, .inst 370 12, .raw oo', .raw ff', .tup [.v (.int 1 u3), .v (.int m tm)], .tup [.r 16], .tup [.v (.int 0 u0), .v (.int 3 u1), .v (.int 0 u2), .r 17], .tup [], .tup [.v (.int 0 u4), .v (.int 0 u5), .v (.int 0 u6), .r 19]], T, [20, 19, 18, 17, 16, 15, 14, 13, 12, 11, 10, 9, 8, 7, 0, 6], ceL L (fun | 1 => o3 | i => o i) (some (.r 4)) none none (some (.r 13)) none, fo⟩ _
  refine EvF.sel (st3 := stC ⟨ofL [rr, rd, li, ld, mm, md, lc, ea, fa, oa, D10, D11, D12, D13, D14, il] 0, (fun | 0 => qr | 1 => ql | 2 => q | _ => fun _ => 0), (fun | 0 => tr | 1 => (fun | 8 => ty | i => tl i) | 2 => t | _ => ofL [u0, u1, u2, u3, tm, u4, u5, u6] 0), (fun | 0 => ur | 1 => limU | _ => fun _ => .none), y, ch, eo', ff', oo', m, ivs, ni, items, ⟨0, 0, 0, 0, 0, 0, fun _ => 0, fun _ => 0, fun _ => 0, fun _ => 0⟩⟩ ti rl pls rvs pv its nr np n ps x0 x0 tm tx tx T L (fun | 1 => o3 | i => o i) _) h0 (ceL L (fun | 1 => o3 | i => o i) (some (.v (.ref mm))) none none (some (.v (.ref rr))) none) [13, 12, 8, 7, 4, 5, 6, 10, 15, 14, 18, 17, 16, 20, 19, 1, 0, 2, 3] [] rfl rfl rfl rfl rfl rfl rfl rfl (by decide) rfl (all_cons rfl (all_cons rfl (all_cons rfl (all_cons rfl (all_cons rfl (all_cons rfl all_nil)))))) (fun p hp => .inl hp) rfl ?_
  refine k _ _ tx _ rfl rfl rfl rfl ?_ hea ?_ hfa ?_ hoa
  · rw [Y.prog, Y.hw] at he; exact he
  · rw [Y.prog, Y.hw] at hf; exact hf
  · rw [Y.prog, Y.hw] at ho; exact ho
end
end
section
theorem turn_fr {g g1 h : Heap} {L : Addr} {m : Str → Option Value} (T : KtsTurn (frs []) g g1) (F : Fr g1 L h m) : Fr g L h m :=
  ⟨F.ns, fun b o e => F.keep b o (T.other b o e (by intro h; cases h)), T.size ▸ F.above⟩
theorem turn_news {g g1 h : Heap} {L : Addr} {news : List (Addr × Obj)} (T : KtsTurn (frs []) g g1) (N : News g1 L h news) : News g L h news := fun p hp => by
  refine ⟨(N p hp).1, (N p hp).2.1, ?_⟩
  cases q : g.get? p.1 with
  | none => rfl
  | some o =>
    have := T.other _ _ q (by intro h; cases h)
    rw [(N p hp).2.2] at this; cases this
end
section
noncomputable def stF (P : WP) (ti rl pls ld li a1 a2 md mc od ox oi b1 b4 b5 b6 b7 : Addr) (o1 o2 bo : Obj) (ql qm qo : Nat → Int) (tl tmm to : Nat → Tok) (um : Nat → Value) (rvs pv its : List Value) (nr np n : Nat) (ps : Array Value) (x0 x : Int) (tm tg tx c6 : Tok) (T : List (Addr × Obj)) (L : Addr) (o : Nat → Obj) (fo : Str → Option Value) : XS :=
  ⟨[P.a 0, P.a 1, P.a 2, P.a 3, P.a 4, P.a 5, P.a 6, P.a 7, P.a 8, P.a 9, P.a 10, P.a 11, P.a 12, P.a 13, P.a 14, P.a 15, ti, rl, pls, ld, li, a1, a2, md, mc, od, ox, oi, b1, b4, b5, b6, b7], [(Str.ofString "many", .v (.int P.many tm)), (Str.ofString "most", .v (.int P.y (P.t 1 8))), (Str.ofString "gone", .v (.int x0 tg)), (Str.ofString "places", .r 18), (Str.ofString "out", .r 26), (Str.ofString "due", .r 32)], P.grd x tx its n ++ [.raw (tabObj ps), .lst rvs nr, .lst pv np, .dict (limE ql tl limU P.y (P.t 1 8)) 8, .inst 607 19, .raw o1, .raw o2, machE qm tmm um (.r 4) (.r 20) (.r 31) x0 tg, .inst 628 23, .dict [(qo 0, Str.ofString "items", to 0, .r 27), (qo 1, Str.ofString "size", to 1, .v (.int 0 c6))] 2, .inst 675 25, .lst [] 0, .raw bo, .tup [], .tup [.r 26, .r 28, .r 29, .v .none], .lst [.ref b5] 0, .lst [] 0], T, [32, 31, 30, 29, 28, 27, 26, 25, 24, 23, 22, 21, 20, 19, 1, 6, 16], ceL L o (some (.r 4)) none (some (.r 24)) (some (.r 0)) none, fo⟩
section
variable {G : GR} {c : XC} {base : Heap} {L : Addr}
theorem law_f (HY : GrY G.K) (h0 : c.pin = 0) (Y : Uses G c [] base 310 100 (fun _ _ => False)) (O : c.Ok xtL) (o : Nat → Obj) (P : WP) (ti rl pls : Addr) (rvs pv its : List Value) (nr np n : Nat) (ps : Array Value) (x0 x : Int) (tm tg tx : Tok) (T : List (Addr × Obj)) (fo : Str → Option Value)
    (k : ∀ ld li a1 a2 md mc od ox oi b1 b4 b5 b6 b7 o1 o2 bo ql qm qo tl tmm to um c6 o' fo', EvF c (execs (fd_745.body.drop 17) c.env) (stF P ti rl pls ld li a1 a2 md mc od ox oi b1 b4 b5 b6 b7 o1 o2 bo ql qm qo tl tmm to um rvs pv its nr np n ps x0 x tm tg tx c6 T L o' fo') LawEnd) :
    EvF c (execs (fd_745.body.drop 12) c.env) (stC P ti rl pls rvs pv its nr np n ps x0 x tm tg tx T L o fo) LawEnd := by
  refine exS_cut O (fd_745.body.drop 17) 60 ((fd_745.body.drop 12).take 5) _ _ ?_
  refine Do.callK (n := 40) O rfl ⟨rfl, x_limits HY Y rfl rfl rfl fun li ld ql tl => ?_⟩
  intro a1 o1 n1 d1 a2 o2 n2 d2
  refine x_mach Y rfl rfl rfl rfl rfl fun mc md qm tmm um tr txm => ?_
  intro o3
  change exS _ c _ _ ⟨[P.a 0, P.a 1, P.a 2, P.a 3, P.a 4, P.a 5, P.a 6, P.a 7, P.a 8, P.a 9, P.a 10, P.a 11, P.a 12, P.a 13, P.a 14, P.a 15, ti, rl, pls, ld, li, a1, a2, md, mc], [(Str.ofString "many", .v (.int P.many tm)), (Str.ofString "most", .v (.int P.y (P.t 1 8))), (Str.ofString "gone", .v (.int x0 tg)), (Str.ofString "items", .r 15), (Str.ofString "rounds", .r 17), (Str.ofString "places", .r 18)], P.grd x tx its n ++ [.raw (tabObj ps), .lst rvs nr, .lst pv np, .dict (limE ql tl limU P.y (P.t 1 8)) 8, .inst 607 19, .raw o1, .raw o2, machE qm tmm um (.r 4) (.r 20) (.v (.ref tr)) 0 txm, .inst 628 23], T, [24, 23, 22, 21, 20, 19, 1, 6, 16], ceL L (fun | 2 => o3 | i => o i) (some (.r 4)) none (some (.r 24)) (some (.r 0)) none, fo⟩ _
  intro q4 t4
  change exS _ c _ _ ⟨[P.a 0, P.a 1, P.a 2, P.a 3, P.a 4, P.a 5, P.a 6, P.a 7, P.a 8, P.a 9, P.a 10, P.a 11, P.a 12, P.a 13, P.a 14, P.a 15, ti, rl, pls, ld, li, a1, a2, md, mc], [(Str.ofString "many", .v (.int P.many tm)), (Str.ofString "most", .v (.int P.y (P.t 1 8))), (Str.ofString "gone", .v (.int x0 tg)), (Str.ofString "items", .r 15), (Str.ofString "rounds", .r 17), (Str.ofString "places", .r 18)], P.grd x tx its n ++ [.raw (tabObj ps), .lst rvs nr, .lst pv np, .dict (limE ql tl limU P.y (P.t 1 8)) 8, .inst 607 19, .raw o1, .raw o2, machE qm tmm um (.r 4) (.r 20) (.v (.ref tr)) x0 tg, .inst 628 23], T, [24, 23, 22, 21, 20, 19, 1, 6, 16], ceL L (fun | 2 => o3 | i => o i) (some (.r 4)) none (some (.r 24)) (some (.r 0)) none, fo⟩ _
  refine DoC.cls Y 40 rfl rfl rfl rfl rfl rfl (fun _ _ _ _ _ _ _ _ _ => rfl) fun ox od c1 F1 B1 Y1 O1 hp => ?_
  intro oi q5 t5 c6 q6 t6
  change exS _ c _ _ ⟨[P.a 0, P.a 1, P.a 2, P.a 3, P.a 4, P.a 5, P.a 6, P.a 7, P.a 8, P.a 9, P.a 10, P.a 11, P.a 12, P.a 13, P.a 14, P.a 15, ti, rl, pls, ld, li, a1, a2, md, mc, od, ox, oi], [(Str.ofString "out", .r 26), (Str.ofString "many", .v (.int P.many tm)), (Str.ofString "most", .v (.int P.y (P.t 1 8))), (Str.ofString "gone", .v (.int x0 tg)), (Str.ofString "items", .r 15), (Str.ofString "rounds", .r 17), (Str.ofString "places", .r 18)], P.grd x tx its n ++ [.raw (tabObj ps), .lst rvs nr, .lst pv np, .dict (limE ql tl limU P.y (P.t 1 8)) 8, .inst 607 19, .raw o1, .raw o2, machE qm tmm um (.r 4) (.r 20) (.v (.ref tr)) x0 tg, .inst 628 23, .dict [(q5, Str.ofString "items", t5, .r 27), (q6, Str.ofString "size", t6, .v (.int 0 c6))] 2, .inst 675 25, .lst [] 0], T, [27, 26, 25, 24, 23, 22, 21, 20, 19, 1, 6, 16], ceL L (fun | 2 => o3 | i => o i) (some (.r 4)) none (some (.r 24)) (some (.r 0)) none, fo⟩ _
  intro b1 bo b2 b3 b4 b5 b6 q7 t7 b7
  refine EvF.sat (st3 := stF P ti rl pls ld li a1 a2 md mc od ox oi b1 b4 b5 b6 b7 o1 o2 bo ql qm (fun | 0 => q5 | _ => q6) tl tmm (fun | 0 => t5 | _ => t6) um rvs pv its nr np n ps x0 x tm tg tx c6 T L (fun | 2 => o3 | i => o i) _) (fun h S => Weak.sat (Weak.of (st3 := stF P ti rl pls ld li a1 a2 md mc od ox oi b1 b4 b5 b6 b7 o1 o2 bo ql qm (fun | 0 => q5 | _ => q6) tl tmm (fun | 0 => t5 | _ => t6) um rvs pv its nr np n ps x0 x tm tg tx c6 T L (fun | 2 => o3 | i => o i) _) 33 [] S.len rfl rfl rfl rfl rfl rfl (all_cons rfl (all_cons rfl (all_cons rfl (all_cons rfl (all_cons rfl (all_cons rfl all_nil)))))) (fun p hp => .inl hp) rfl) S) (ExtP.zeroC h0 rfl) ?_
  exact k _ _ _ _ _ _ _ _ _ _ _ _ _ _ _ _ _ _ _ _ _ _ _ _ _ _ _
end
end
section
theorem Next.sets {st : XS} {out : List (Addr × Obj)} (mui : List Nat) (ob' : List RO) (tl : List (Addr × Obj)) (hl : st.ρ.length = st.ob.length) (hw : st.wf = true) (D : Dis st) (A : CAp st) (hlen : ob'.length = st.ob.length) (hk : keepL mui 0 st.ob = keepL mui 0 (ob'.take st.ob.length))
    (ho : ∀ j ∈ mui, (st.ρ.getD j 0, (ob'.getD j (.raw default)).den st.ρ) ∈ out) (ht : ∀ p ∈ tl, p ∈ out ∧ NeAll p.1 (led st)) (hu : st.mu.all (fun i => Nat.blt i st.ob.length) = true) : Next st mui out ⟨st.ρ, st.fr, ob', tl ++ st.tl, st.mu, st.ce, st.fo⟩ := by
  have tlc : ∀ p ∈ st.ce.map (fun e => (e.a, e.o)) ++ (tl ++ st.tl), p ∈ tl ∨ p ∈ st.tlc := fun p hp => by
    rcases mA hp with h | h
    · exact .inr (mL _ h)
    · exact (mA h).imp id fun h => mR _ h
  refine ⟨⟨[], (List.append_nil _).symm⟩, rfl, rfl, hl.trans hlen.symm, hw, hk, fun p hp => (tlc p hp).elim (fun h => .inr (ht p h).1) .inl, rfl, fun e he => ⟨(A e he).1, fun p hp => ?_⟩, ho, fun j h1 h2 => absurd (show j < st.ob.length from hlen ▸ h2) (Nat.not_lt.mpr h1), fun j b hj hb => ⟨(D j b hj hb).1, fun p hp => ?_⟩⟩
  · rcases mA hp with h | h
    · exact fun q => ((ht p h).2.all (e.a, e.o) (mR _ (mL _ (List.mem_map.mpr ⟨e, he, rfl⟩)))) q.symm
    · exact (A e he).2 p h
  · rcases tlc p hp with h | h
    · exact fun q => ((ht p h).2.all _ (led_of hb (List.getElem?_eq_getElem (hl ▸ (gS hb).1)))) q.symm
    · exact (D j b hj hb).2 p h
theorem Next.mem {st st' : XS} {mui : List Nat} {out : List (Addr × Obj)} (X : Next st mui out st') (hl : st.ρ.length = st.ob.length) (D : Dis st) (hmi : mui.all (fun i => st.mu.contains i && Nat.blt i st.ob.length) = true) : ∀ q ∈ led st', q ∈ out ∨ (q ∈ led st ∧ q.1 ∉ mui.map fun i => st.ρ.getD i 0) := fun q hq' => by
  have mmem : ∀ i ∈ mui, i ∈ st.mu ∧ st.ρ[i]? = some (st.ρ.getD i 0) ∧ i < st.ob.length := fun i hi => by
    have h0 := aT hmi i hi
    obtain ⟨h1, h2⟩ := bA h0
    have h2 : i < st.ob.length := Nat.le_of_ble_eq_true h2
    exact ⟨by simpa using h1, getD_at (hl ▸ h2), h2⟩
  have hw2 := (bA (bA X.wf).2).1
  obtain ⟨as, hρ⟩ := X.as
  rcases led_at hq' with ⟨j, o, h1, h2, h3⟩ | h
  · have hj' : j < st'.ob.length := (gS h2).1
    have e1 : st'.ρ.getD j 0 = q.1 := by rw [List.getD_eq_getElem?_getD, h1]; rfl
    have e2 : (st'.ob.getD j (.raw default)).den st'.ρ = q.2 := by rw [List.getD_eq_getElem?_getD, h2, h3]; rfl
    rcases Nat.lt_or_ge j st.ob.length with q1 | q1
    · cases hc : mui.contains j with
      | true =>
        have := X.chg j (by simpa using hc)
        rw [e1, e2] at this
        exact .inl this
      | false =>
        have h4 := keep_is X.keep (List.getElem?_eq_getElem q1) hc
        rw [h4] at h2
        cases h2
        have h5 : st.ρ[j]? = some q.1 := by
          have h6 := getD_at (l := st.ρ) (j := j) (hl ▸ q1)
          have := pre_at hρ h6
          rw [h1] at this
          rw [h6, Option.some.inj this]
        have h7 := led_of (st := st) h5 (List.getElem?_eq_getElem q1)
        have ho : (st.ob[j]).den st'.ρ = (st.ob[j]).den st.ρ := by
          rw [hρ]
          exact RO.den_grow (Nat.le_of_eq hl.symm) as _ (aT hw2 _ (List.getElem_mem q1))
        rw [← ho, ← h3] at h7
        refine .inr ⟨h7, fun hm => ?_⟩
        obtain ⟨i, hi, e⟩ := mM hm
        obtain ⟨m1, m2, _⟩ := mmem i hi
        refine (D i _ m1 m2).1 j _ h5 (fun q => ?_) e.symm
        subst q
        simp at hc
        exact hc hi
    · have := X.new j q1 hj'
      rw [e1, e2] at this
      exact .inl this
  · rcases X.tl q h with h | h
    · refine .inr ⟨mR _ h, fun hm => ?_⟩
      obtain ⟨i, hi, e⟩ := mM hm
      obtain ⟨m1, m2, _⟩ := mmem i hi
      exact (D i _ m1 m2).2 q h e.symm
    · exact .inl h
set_option tactic.hygienic true in
theorem Sat.next {c : XC} {st st' : XS} {mui : List Nat} {out news : List (Addr × Obj)} {h h' : Heap} (S : Sat c st h) (X : Next st mui out st') (F : Fr c.h₀ c.L h' (frm st)) (N : News c.h₀ c.L h' news) (hm : ∀ q ∈ led st', q ∈ news) : Sat c st' h' := by
  obtain ⟨as, hρ⟩ := X.as
  exact ⟨by rw [frm_grow S.len X.wf hρ X.fr X.fo]; exact F, fun q hq => N q (hm q hq), X.len, X.dis, S.CE.grow S.len X.wf hρ X.ce X.cap⟩
set_option tactic.hygienic true in
theorem Sat.frame {c : XC} {st : XS} {h' : Heap} {m : Str → Option Value} {news : List (Addr × Obj)} (fr' : List (Str × RV)) (hl : st.ρ.length = st.ob.length) (D : Dis st) (C : CellsOk c st) (F : Fr c.h₀ c.L h' m) (N : News c.h₀ c.L h' news) (hm : ∀ q ∈ led st, q ∈ news) (hf : ∀ p ∈ fr', m p.1 = some (p.2.den st.ρ)) : Sat c { st with fr := fr', fo := m } h' := by
  have e : frm { st with fr := fr', fo := m } = m := funext fun y => by
    show (match fr'.lookup y with | some v => some (v.den st.ρ) | none => m y) = _
    cases q : fr'.lookup y with
    | none => rfl
    | some v => exact (hf (y, v) (look_mem2 q)).symm
  exact ⟨by rw [e]; exact F, fun q hq => N q (hm q hq), hl, D, ⟨C.cl, C.nm, C.ap, C.nd⟩⟩
theorem Sat.e {c : XC} {st : XS} {h : Heap} {E E' : Value → Shared → Prop} (S : Sat { c with E := E } st h) : Sat { c with E := E' } st h := ⟨S.F, S.N, S.len, S.D, ⟨S.CE.cl, S.CE.nm, S.CE.ap, S.CE.nd⟩⟩
theorem Ev.rel {c : XC} {t : Sem Value} {st : XS} {K : RV → XS → Prop} {E' : Value → Shared → Prop} (H : Ev { c with E := fun _ _ => False } t st K) : Ev { c with E := E' } t st K := fun Q s z S hq =>
  wpAny_noRaise (H Q s ⟨z.gens, z.drawn, z.os⟩ S.e fun v st' h' tk' hk S1 p => hq v st' h' tk' hk S1.e p)
theorem XC.Ok.cm {c : XC} {xt : XT} {E' : Value → Shared → Prop} (O : c.Ok xt) : XC.Ok { c with E := E' } { xt with cm := true } :=
  ⟨O.cs, O.gg, O.gb, nofun, O.hh, nofun, O.kf, O.X, O.T, O.gl, O.fs, O.me, O.cls, O.ca⟩
set_option tactic.hygienic true in
theorem EvF.swapE {c : XC} {xt : XT} {E' : Value → Shared → Prop} (O : c.Ok xt) {elts : List Expr} {kk : Nat} {tpos pos : Pos} {value : Expr} {names : List Str} {st : XS} {K : RF → XS → Prop} (hc : noComp value = true) (hw : swappedStores [.Tuple elts kk tpos] value { scope := xt.cs, locals := 0, globals := 0, cells := [] } = pure (some names))
    (H : Ev { c with E := E' } (eval value c.env) st fun v st1 => match tupRV v st1 with
      | some vs => (match Nat.beq names.length vs.length && vs.all (RV.wf st1.ob.length) with
        | true => exStores xt { c with E := fun _ _ => False } names.reverse vs.reverse st1 fun _ st2 => K .next st2
        | false => False)
      | none => False) : EvF { c with E := E' } (exec (.Assign [.Tuple elts kk tpos] value pos) c.env) st K := by
  refine fun Q s z S hq => Assign_Tuple_swapped (H _ s z S fun v st1 h1 tk1 H1 S1 p1 => ?_) (sole_no hc) ((swapped_of O.cs).trans hw)
  dsimp only at H1
  split at H1
  · rename_i vs hv
    obtain ⟨i, rfl, e1⟩ := tupRV_is hv
    split at H1
    · rename_i hb
      obtain ⟨hlen, hwf⟩ := bA hb
      have hlen : names.length = vs.length := Nat.eq_of_beq_eq_true hlen
      refine unpackItemsN_ (s := { s with heap := h1, toks := tk1 }) S1.F S1.N (S1.N.isTup (S1.mem e1)) O.hh (by rw [hlen]; simp) fun h2 F2 N2 => ?_
      have hv : ∀ v ∈ vs.reverse, v.wf st1.ρ.length = true := fun v hv' => by rw [S1.len]; exact aT hwf v (List.mem_reverse.mp hv')
      have := wpAny_noRaise (E := E') (bstores_ok O.never names.reverse vs.reverse st1 _ st1.ρ (by rw [List.length_reverse, List.length_reverse, hlen]) hv (List.prefix_refl _) H1 (fun _ => Q .next) { s with heap := h2, toks := tk1 } ⟨z.gens, z.drawn, z.os⟩ (Sat.e (E := E') ⟨F2, N2, S1.len, S1.D, ⟨S1.CE.cl, S1.CE.nm, S1.CE.ap, S1.CE.nd⟩⟩) fun _ st2 h3 tk3 H3 S3 p3 => hq .next st2 h3 tk3 H3 S3.e (p1.trans p3).p)
      rw [List.map_reverse] at this
      rw [List.map_reverse] at this
      rw [List.map_reverse]
      exact this
    · cases H1
  · cases H1
theorem store_F {M : Model} {A : Around} {E : Value → Shared → Prop} {s : Shared} {g : Heap} {L : Addr} {m : Str → Option Value} {news : List (Addr × Obj)} {env : Env} {y : Str} {v : Value} {Q : Unit → Shared → Prop} (F : Fr g L s.heap m) (N : News g L s.heap news) (hL : env.locals = L) (hk : env.scope.kind = .function) (hl : env.kindOf y = some .local)
    (h : ∀ h', Fr g L h' (fun z => if z = y then some v else m z) → News g L h' news → Q () { s with heap := h', toks := s.toks + 1 }) : wpAny M A (storeName env y v) Q E s := by
  subst hL
  exact wpAny_storeName_local hl F.ns (fun h' hn hs => h h' (F.set hn hs) (N.set hs)) (by rw [hk]; rfl)
theorem goes_F {M : Model} {A : Around} {E : Value → Shared → Prop} {s : Shared} {g : Heap} {L : Addr} {m : Str → Option Value} {news : List (Addr × Obj)} {env : Env} {y : Str} {pos : Pos} {Q : Unit → Shared → Prop} (F : Fr g L s.heap m) (N : News g L s.heap news) (hL : env.locals = L) (hk : env.scope.kind = .function) (hl : env.kindOf y = some .local)
    (h : ∀ h' v, Fr g L h' (fun z => if z = y then v else m z) → News g L h' news → Q () { s with heap := h', toks := s.toks + 1 }) : wpAny M A (do bindName env y .none; unbindBehindTheSuite env y pos) Q E s := by
  subst hL
  exact wpAny_nameGoes_keeps hl F.ns (by rw [hk]; rfl) fun h' v hn hs => h h' v (F.set hn hs) (N.set hs)
inductive TryR (T : List (Addr × Obj)) (y : Int) (acts : List Act) (x0 : Int) (v1 v2 : Value) : Prop
  | ok (fs : List El) (fd : Addr) (fv : List Value) (nf : Nat) (x : Int) (t : Tok) (hr : runA y acts x0 = .ok (fs, x)) (e1 : v1 = .ref fd) (e2 : v2 = .int x t) (hm : (fd, listOf fv.toArray nf) ∈ T) (hF : FoundAt T fs fv)
  | err (k : Int) (t : Tok) (hr : runA y acts x0 = .error k) (e1 : v1 = .none) (e2 : v2 = .int k t)
theorem ne_cmp {prog : Program} {w : World} {A : Around} {E : Value → Shared → Prop} {s : Shared} {a b : Value} {k : Bool} {Q : Value → Shared → Prop} (h : SeqAt.RcNeAt A s a b k) (hq : Q (.bool k) s) : wpAny (model prog w) A (compareOp .NotEq a b) Q E s := h prog w E Q hq
theorem x_neq {c : XC} {st : XS} {K : RV → XS → Prop} {a b : RV} (k : Bool) (h : ∀ s : Shared, Sat c st s.heap → SeqAt.RcNeAt c.A s (a.den st.ρ) (b.den st.ρ) k) (kk : K (.v (.bool k)) st) : Do c (compareOp .NotEq (a.den st.ρ) (b.den st.ρ)) st K :=
  ⟨fun Q s z S hq => ne_cmp (h s S) (hq (.v (.bool k)) st _ _ kk S (Ext.refl _))⟩
theorem due_same {A : Around} {s : Shared} {g : Heap} {L : Addr} {all T out : List (Addr × Obj)} {D rt : Addr} {v1 v2 : Value} {y x0 : Int} {acts : List Act} (N : News g L s.heap all) (hT : ∀ p ∈ T, p ∈ all) (ho : ∀ p ∈ out, p ∈ all) (hD : (D, tupO #[v1, v2]) ∈ all) (hR : TryR T y acts x0 v1 v2) (hu : A.units + 10 < cLine)
    (hd : DuePost T (runA y acts x0) (.ref rt) out) : SeqAt.RcNeAt A s (.ref D) (.ref rt) false := by
  rcases hR with ⟨fs, fd, fv, nf, x, t, hr, e1, e2, hm, hf⟩ | ⟨k, t, hr, e1, e2⟩
  · rcases hd with ⟨_, fs', g', tg, fd', fv', nf', tl, er, hr', eo, hf'⟩ | ⟨_, g', tg, er, hr', eo⟩
    · rw [hr] at hr'
      injection hr' with hr'
      injection hr' with ha hb
      cases er
      subst ha hb e1 e2 eo
      exact ne_found N N hu hD (ho _ mS) (hT _ hm) (ho _ (mC _ mS)) (hf.mono hT) (hf'.mono fun p hp => (mA hp).elim (fun h => ho _ (mC _ (mC _ h))) (hT p))
    · rw [hr] at hr'; cases hr'
  · rcases hd with ⟨_, fs', g', tg, fd', fv', nf', tl, er, hr', eo, hf'⟩ | ⟨_, g', tg, er, hr', eo⟩
    · rw [hr] at hr'; cases hr'
    · rw [hr] at hr'
      injection hr' with hr'
      cases er
      subst hr' e1 e2 eo
      exact ne_none N N hu hD (ho _ mS)
end
section
noncomputable def stE (P : WP) (ti rl pls : Addr) (rvs pv its : List Value) (nr np n : Nat) (ps : Array Value) (x0 x : Int) (tm tg tx : Tok) (v1 v2 : Value) (T : List (Addr × Obj)) (L : Addr) (o : Nat → Obj) (fo : Str → Option Value) : XS :=
  ⟨[P.a 0, P.a 1, P.a 2, P.a 3, P.a 4, P.a 5, P.a 6, P.a 7, P.a 8, P.a 9, P.a 10, P.a 11, P.a 12, P.a 13, P.a 14, P.a 15, ti, rl, pls], [(Str.ofString "many", .v (.int P.many tm)), (Str.ofString "most", .v (.int P.y (P.t 1 8))), (Str.ofString "gone", .v (.int x0 tg)), (Str.ofString "items", .r 15), (Str.ofString "rounds", .r 17), (Str.ofString "places", .r 18), (Str.ofString "found", .v v1), (Str.ofString "steps", .v v2)], P.grd x tx its n ++ [.raw (tabObj ps), .lst rvs nr, .lst pv np], T, [1, 6, 16], ceL L o (some (.r 4)) none none (some (.r 0)) none, fo⟩
inductive WalkE (c : XC) (base : Heap) (st : XS) (mu : List Addr) (rais : Int → List (Addr × Obj) → Prop) (e : Value) (s₁ : Shared) : Prop
  | mk (a : Addr) (k : Int) (out rest : List (Addr × Obj)) (h : Heap) (tk : Nat) (he : e = .ref a) (hs : s₁ = { c.s₀ with heap := h, toks := tk }) (hr : rais k out) (h1 : ∀ q ∈ led st, q ∈ rest ∨ q.1 ∈ mu) (RA : RaisedAt base c.h₀ c.fe [] c.L (frm st) (out ++ rest) h a k)
theorem Rest.eq {c : XC} {s : Shared} (z : Rest c s) (h : Heap) (tk : Nat) : ({ s with heap := h, toks := tk } : Shared) = { c.s₀ with heap := h, toks := tk } := by rw [z.gens, z.drawn, z.os]
set_option tactic.hygienic true in
theorem try_by {prog : Program} {w : World} {A : Around} {E E1 : Value → Shared → Prop} {s : Shared} {env : Env} {body : List Stmt} {h₀ : ExceptHandler} {hs : List ExceptHandler} {pos : Pos} {Q : Flow → Shared → Prop} (h : wpAny (model prog w) A (execs body env) (fun f s₁ => match f with | .next => wpAny (model prog w) A (execs [] env) Q E s₁ | f => Q f s₁) E1 s)
    (hE : ∀ e s₁, E1 e s₁ → wpAny (model prog w) A (noteFrame e env) (fun _ s₂ => wpAny (model prog w) A (setFlight e none) (fun _ s₃ => wpAny (model prog w) A (handleBy e env (h₀ :: hs)) Q E s₃) E s₂) E s₁) : wpAny (model prog w) A (exec (.Try body (h₀ :: hs) [] [] pos) env) Q E s :=
  wpAny_Try_except (wpAny_mono h (fun _ _ x => x) hE)
section
variable {G : GR} {c : XC} {base : Heap} {L : Addr}
set_option tactic.hygienic true in
theorem law_e1 (HX : GrX G.K) (h0 : c.pin = 0) (hfe : c.fe = c.env) (Y : Uses G c [] base 310 100 (fun _ _ => False)) (O : c.Ok xtL) (o : Nat → Obj) (P : WP) (ti rl pls : Addr) (rvs pv its : List Value) (nr np n : Nat) (ps : Array Value) (x0 : Int) (tm tg tx : Tok) (T : List (Addr × Obj)) (fo : Str → Option Value)
    (hP : P.Ok G.w T) (h20 : its.length = 20) (hx0 : 0 ≤ x0 ∧ x0 ≤ 2)
    (rest : List Stmt) (K0 K : RF → XS → Prop) (hK : ∀ st1, EvF c (execs rest c.env) st1 K0 → K .next st1) (k : ∀ x' tx' its' n' T' v1 v2 fo', its'.length = 20 → (∀ i : Nat, i ≠ 0 → its'[i]? = its[i]?) → (∀ p ∈ T, p ∈ T') → TryR T' P.y (itemsActs P.many P.items) x0 v1 v2 → EvF c (execs rest c.env) (stE P ti rl pls rvs pv its' nr np n' ps x0 x' tm tg tx' v1 v2 T' L o fo') K0) :
    DoF c (exec (fd_745.body.getD 10 (.Pass default)) c.env) (stC P ti rl pls rvs pv its nr np n ps x0 x0 tm tg tx T L o fo) K := by
  refine ⟨fun Q s z S hq => ?_⟩
  have hloc := O.lo rfl
  generalize hE1 : WalkE c base (stC P ti rl pls rvs pv its nr np n ps x0 x0 tm tg tx T L o fo) [P.a 1, P.a 6] (walkRais P its x0) = E1
  have Y' : Uses G { c with E := E1 } [] base 310 100 (fun _ _ => False) := ⟨Y.HG, Y.prog, Y.hw, Y.hK, Y.X, Y.B, Y.Ok, Y.hA, Y.fr, Y.ff, Y.kf, Y.hd, Y.hu, fun _ _ _ _ _ _ _ _ h => h.elim⟩
  refine try_by (E1 := E1) (wpAny_execs_cons (EvF.swapE (E' := E1) O (names := [Str.ofString "found", Str.ofString "steps"]) (K := K) rfl rfl ?_ _ s ⟨z.gens, z.drawn, z.os⟩ S.e fun f st1 h1 tk1 H1 S1 p1 => ?_)) fun e s₁ he => ?_
  · refine e1_ok (ih := fun e st K => Ev { c with E := E1 } (eval e c.env) st K) (it := fun _ _ _ => False) O.cm (fun _ _ _ h => h) (fun _ _ _ h => h.elim) _ _ _ ?_
    refine e1_ok (ih := fun e st K => Ev { c with E := E1 } (eval e c.env) st K) (it := fun _ _ _ => False) O.cm (fun _ _ _ h => h) (fun _ _ _ h => h.elim) _ _ _ ?_
    refine Ev.rel (exE_ok O.never 20 _ _ _ ?_)
    refine Ev.rel (exE_ok O.never 20 _ _ _ ?_)
    refine Ev.rel (exE_ok O.never 20 _ _ _ ?_)
    refine Do.useE Y' (fun hl D => c_walked Y.HG P T its n x0 tx hP h20 (by lia) (fun j b e hj => ?_) (fun j b e hj => ?_) (NeAll.of fun p hp => ?_) (NeAll.of fun p hp => ?_)) [1, 6] rfl rfl (fun hl => ?_) rfl rfl ?_ ?_ rfl
    · exact (D 1 _ (List.Mem.head _) rfl).1 j b (pre_at (as := [ti, rl, pls]) rfl e) hj
    · exact (D 6 _ (List.Mem.tail _ (List.Mem.head _)) rfl).1 j b (pre_at (as := [ti, rl, pls]) rfl e) hj
    · exact (D 1 _ (List.Mem.head _) rfl).2 p (mR _ hp)
    · exact (D 6 _ (List.Mem.tail _ (List.Mem.head _)) rfl).2 p (mR _ hp)
    · exact led_sub [ti, rl, pls] [.raw (tabObj ps), .lst rvs nr, .lst pv np] rfl rfl (fun p hp => mR _ hp) rfl rfl
    · rintro v out ⟨fs, fd, fv, nf, x', tx', its', n', T1, rfl, rfl, hf, hr, hx', h20', hi, hne⟩ hn D hl A
      refine ⟨.v (.ref fd), _, rfl, Next.sets [1, 6] (P.grd x' tx' its' n' ++ [.raw (tabObj ps), .lst rvs nr, .lst pv np]) ((fd, listOf fv.toArray nf) :: T1) hl rfl D A rfl rfl (all_cons (List.Mem.head _) (all_cons (List.Mem.tail _ (List.Mem.head _)) all_nil)) (fun p hp => ⟨mC _ (mC _ hp), (hn p (mC _ (mC _ hp))).resolve_left fun h => ?_⟩) rfl, ?_⟩
      · rcases mK h with h | h
        · exact (hne p hp).1 h
        · exact (hne p hp).2 (mG h)
      · refine Ev.rel (exE_ok O.never 20 _ _ _ ?_)
        intro a
        refine hK _ (EvF.sat (st3 := stE P ti rl pls rvs pv its' nr np n' ps x0 x' tm tg tx' (.ref fd) (.int x' tx') ((fd, listOf fv.toArray nf) :: (T1 ++ T)) L o _) (fun h S => Weak.sat (Weak.of (st3 := stE P ti rl pls rvs pv its' nr np n' ps x0 x' tm tg tx' (.ref fd) (.int x' tx') ((fd, listOf fv.toArray nf) :: (T1 ++ T)) L o _) 19 [] S.len rfl rfl rfl rfl rfl rfl (all_cons rfl (all_cons rfl (all_cons rfl (all_cons rfl (all_cons rfl (all_cons rfl (all_cons rfl (all_cons rfl all_nil)))))))) (fun _ h => .inl h) rfl) S) (ExtP.zeroC h0 rfl) (k _ _ _ _ _ _ _ _ h20' hi (fun p hp => mC _ (mR _ hp)) (.ok fs fd fv nf x' tx' hr rfl rfl (List.Mem.head _) (hf.mono fun p hp => mC _ hp))))
    · intro e k' out rest h tk s' z' hr D h1 h2 RA
      rw [← hE1]
      exact ⟨e, k', out, rest, h, tk, rfl, Rest.eq z' h tk, hr, h1, RA⟩
  · cases f with
    | next => exact wpAny_execs_nil (wpAny_execs_nil (hq .next st1 h1 tk1 H1 S1.e p1))
    | brk => exact hq .brk st1 h1 tk1 H1 S1.e p1
    | cont => exact hq .cont st1 h1 tk1 H1 S1.e p1
    | ret v => exact hq (.ret v) st1 h1 tk1 H1 S1.e p1
  · rw [← hE1] at he
    obtain ⟨e, k', out, rest', h, tk, rfl, rfl, ⟨hr, tx', its', n', rfl, h20', hi⟩, h1, RA⟩ := he
    obtain ⟨A₀, B⟩ := Y.B
    obtain ⟨mean, mg, mb, Ok⟩ := Y.Ok
    rw [hfe] at RA
    have hko : ∀ y, fd_745.scope.names.lookup y = some .local → c.env.kindOf y = some .local := fun y hy => by unfold Env.kindOf; rw [O.cs]; exact hy
    refine caught_as B (by rw [Y.fr, hfe]) (by rw [← hfe]; exact Y.ff) RA Ok.X Y.HG.c108 (fun g1 s1 Q1 E1' T1 B1 F1 hh => ?_) (fun h3 g1 oe dx q1 t1 v1 q2 t2 tk1 T0 B1 F1 c1 d1 f1 f2 N1 ne1 hne1 => ?_)
    · exact global_name Y.HG F1 (Ok.X.keeps B1.stays) (Ok.T.keeps B1.stays) rfl rfl O.kf (by unfold Env.kindOf; rw [O.cs]; rfl) O.gg rfl hh
    · obtain ⟨cdd, hcdd, hmr⟩ := HX.cd
      refine store_F F1 N1 hloc O.kf (hko _ rfl) fun h4 F4 N4 => ?_
      refine wpAny_execs_cons (Assign_Tuple_swapped (names := [Str.ofString "found", Str.ofString "steps"]) (Tuple_ (args_cons (PySem.wpAny_Constant_none (args_cons (Attribute_any_ (wpAny_Name (wpAny_loadName_local O.kf (hko _ rfl) (by rw [hloc]; exact F4.ns) (v := .ref e) rfl ?_) rfl) rfl) rfl)) rfl)) (sole_no rfl) ((swapped_of (env' := { scope := fd_745.scope, locals := 0, globals := 0, cells := [] }) O.cs).trans rfl))
      refine exc_get F4 (Ok.X.keeps B1.stays) N4 (List.Mem.head _) c1 d1 f1 (List.Mem.tail _ (List.Mem.head _)) HX.ga HX.gk hcdd hmr HX.hh Y.HG.x108.2.2.2.2.2 (v := .int _ tk1) rfl rfl ?_
      refine args_nil ?_
      refine kup_newTuple F4 N4 (fun D h5 F5 N5 l5 => ?_) (sz_ok (show 2 ≤ 1000 by decide))
      refine unpack_H F5 N5 rfl (List.Mem.tail _ (List.Mem.head _)) f2 (N5.isTup (List.Mem.head _)) rfl fun h6 F6 N6 => ?_
      refine assignInOrder_cons (bindName_ (store_F F6 N6 hloc O.kf (hko _ rfl) fun h7 F7 N7 => assignInOrder_cons (bindName_ (store_F F7 N7 hloc O.kf (hko _ rfl) fun h8 F8 N8 => assignInOrder_nil (wpAny_execs_nil ?_)))))
      refine goes_F F8 N8 hloc O.kf (hko _ rfl) fun h9 v9 F9 N9 => ?_
      show Q .next _
      have X := Next.sets (st := stC P ti rl pls rvs pv its nr np n ps x0 x0 tm tg tx T L o fo) (out := [(P.a 1, P.runO k' tx'), (P.a 6, listOf its'.toArray n')]) [1, 6] (P.grd k' tx' its' n' ++ [.raw (tabObj ps), .lst rvs nr, .lst pv np]) [] S.len rfl S.D S.CE.ap rfl rfl (all_cons (List.Mem.head _) (all_cons (List.Mem.tail _ (List.Mem.head _)) all_nil)) (fun p hp => nomatch hp) rfl
      have S9 := Sat.frame [(Str.ofString "many", .v (.int P.many tm)), (Str.ofString "most", .v (.int P.y (P.t 1 8))), (Str.ofString "gone", .v (.int x0 tg)), (Str.ofString "items", .r 15), (Str.ofString "rounds", .r 17), (Str.ofString "places", .r 18), (Str.ofString "found", .v .none), (Str.ofString "steps", .v (.int k' tk1))] X.len X.dis (S.CE.grow (as := []) S.len X.wf (List.append_nil _).symm X.ce X.cap) (turn_fr T0 F9) (turn_news T0 N9) (fun q hq => ?_) (all_cons rfl (all_cons rfl (all_cons rfl (all_cons rfl (all_cons rfl (all_cons rfl (all_cons rfl (all_cons rfl all_nil))))))))
      · exact Eq.mp (congrArg (Q .next) (Rest.eq z h9 _)) (hq .next _ h9 _ (hK _ (k k' tx' its' n' T .none (.int k' tk1) _ h20' hi (fun _ h => h) (.err k' tk1 hr rfl rfl))) S9 (ExtP.zeroC h0 rfl))
      · rcases X.mem S.len S.D rfl q hq with h | h
        · exact mC _ (mC _ (mC _ (mL _ h)))
        · exact mC _ (mC _ (mC _ (mR _ ((h1 q h.1).resolve_right h.2))))
end
end
section
section
variable {G : GR} {c : XC} {base : Heap} {L : Addr}
theorem law_e2 (h0 : c.pin = 0) (Y : Uses G c [] base 310 100 (fun _ _ => False)) (O : c.Ok xtL) (o : Nat → Obj) (P : WP) (ti rl pls : Addr) (rvs pv its : List Value) (nr np n : Nat) (ps : Array Value) (x0 x : Int) (tm tg tx : Tok) (v1 v2 : Value) (T : List (Addr × Obj)) (fo : Str → Option Value)
    (hm5 : P.many ≤ 5) (hit : ItemsAt T P.items P.xs) (hro : RoundsAt P.items rvs) (h3 : P.xs.length ≤ 3) (hpv : pv.length = P.many) (hpl : ∀ (i : Nat) v, pv[i]? = some v → IsPlace T (3 + (i : Int)) v) (hy : 1 ≤ P.y ∧ P.y ≤ 50) (hx0 : 0 ≤ x0 ∧ x0 ≤ 2) (hR : TryR T P.y (itemsActs P.many P.items) x0 v1 v2)
    (k : ∀ fo', EvF c (execs (fd_745.body.drop 12) c.env) (stC P ti rl pls rvs pv its nr np n ps x0 x tm tg tx T L o fo') LawEnd) :
    EvF c (execs (fd_745.body.drop 11) c.env) (stE P ti rl pls rvs pv its nr np n ps x0 x tm tg tx v1 v2 T L o fo) LawEnd := by
  refine exS_cut O (fd_745.body.drop 12) 60 ((fd_745.body.drop 11).take 1) _ _ ?_
  intro a1
  refine Do.use Y (fun hl D => c_due Y.HG ⟨P.a 15, rl, pls, P.xs, rvs, pv, P.ni, nr, np, P.many, P.items, P.y, P.t 1 8, T, runA P.y (itemsActs P.many P.items) x0⟩ x0 tg hit hro h3 hpv hpl hm5 (by lia) hy rfl) [] rfl rfl (fun hl => by exact all_cons (mem_led (i := 15) hl rfl) (all_cons (mem_led (i := 17) hl rfl) (all_cons (mem_led (i := 18) hl rfl) fun q hq => tl_mem hq))) rfl rfl ?_ (fun _ _ _ h => h.elim) rfl
  rintro v out hd hn D hl A
  obtain ⟨rt, rfl⟩ := hd.ref
  refine ⟨.v (.ref rt), _, rfl, Next.sets [] (P.grd x tx its n ++ [.raw (tabObj ps), .lst rvs nr, .lst pv np] ++ [.tup [.v v1, .v v2]]) out hl rfl D A rfl rfl all_nil (fun p hp => ⟨hp, (hn p hp).resolve_left fun h => nomatch h⟩) rfl, ?_⟩
  refine x_neq false (fun s S => due_same (T := T) (out := out) S.N (fun p hp => tl_mem (mR _ hp)) (fun p hp => tl_mem (mL _ hp)) (mem_led (i := 19) S.len rfl) hR (Nat.lt_of_le_of_lt (Nat.add_le_add_right Y.hu 10) (by decide)) hd) ?_
  exact EvF.sat (st3 := stC P ti rl pls rvs pv its nr np n ps x0 x tm tg tx T L o _) (fun h S => Weak.sat (Weak.of (st3 := stC P ti rl pls rvs pv its nr np n ps x0 x tm tg tx T L o _) 19 [] S.len rfl rfl rfl rfl rfl rfl (all_cons rfl (all_cons rfl (all_cons rfl (all_cons rfl (all_cons rfl (all_cons rfl all_nil)))))) (fun _ h => .inl (mR _ h)) rfl) S) (ExtP.zeroC h0 rfl) (k _)
theorem law_e (HX : GrX G.K) (h0 : c.pin = 0) (hfe : c.fe = c.env) (Y : Uses G c [] base 310 100 (fun _ _ => False)) (O : c.Ok xtL) (o : Nat → Obj) (P : WP) (ti rl pls : Addr) (rvs pv its : List Value) (nr np n : Nat) (ps : Array Value) (x0 : Int) (tm tg tx : Tok) (T : List (Addr × Obj)) (fo : Str → Option Value)
    (hP : P.Ok G.w T) (h20 : its.length = 20) (hx0 : 0 ≤ x0 ∧ x0 ≤ 2) (hro : RoundsAt P.items rvs) (hpv : pv.length = P.many) (hpl : ∀ (i : Nat) v, pv[i]? = some v → IsPlace T (3 + (i : Int)) v)
    (k : ∀ x' tx' its' n' T' fo', its'.length = 20 → (∀ i : Nat, i ≠ 0 → its'[i]? = its[i]?) → (∀ p ∈ T, p ∈ T') → EvF c (execs (fd_745.body.drop 12) c.env) (stC P ti rl pls rvs pv its' nr np n' ps x0 x' tm tg tx' T' L o fo') LawEnd) :
    EvF c (execs (fd_745.body.drop 10) c.env) (stC P ti rl pls rvs pv its nr np n ps x0 x0 tm tg tx T L o fo) LawEnd := by
  refine exS_cut O (fd_745.body.drop 11) 60 ((fd_745.body.drop 10).take 1) _ _ ?_
  refine law_e1 HX h0 hfe Y O o P ti rl pls rvs pv its nr np n ps x0 tm tg tx T fo hP h20 hx0 (fd_745.body.drop 11) LawEnd _ (fun st1 h => h) fun x' tx' its' n' T' v1 v2 fo' h20' hi hT hR => ?_
  exact law_e2 h0 Y O o P ti rl pls rvs pv its' nr np n' ps x0 x' tm tg tx' v1 v2 T' fo' hP.m5 (hP.it.mono hT) hro hP.l3 hpv (fun i v h => (hpl i v h).mono hT) hP.y hx0 hR fun fo' => k x' tx' its' n' T' fo' h20' hi hT
end
end
section
section
variable {prog : Program} {w : World} {A : Around} {frames : List Env} {base : Heap} {K : Frag} {p : Program} {loose : List Str} {mean : ExcName → Option Value} {mg mb : Str → Option Value}
  {sub : List (Addr × Obj)} {s : Shared} {R : Result → Shared → Prop} {name qual : Str} {params : Arguments} {body : Expr} {scope : Scope} {cl : List (Str × Addr)} {pm ctv : Value} {c' f : Addr} {oc : Obj} {vs : Array Value} {t : Tok} {args : Args} {binds : List (Str × Value)}
theorem enterL (C : Cx A frames base s.heap K p loose mean mg mb) (O : Own frames base s.heap sub)
    (ho : (f, kla_obj name qual params body scope cl pm c' ctv) ∈ sub) (hc : (c', oc) ∈ sub) (hd : oc.data = .fields vs) (hq : vs[1]? = some (.str qual t)) (hroom : A.depth < recursionLimit)
    (hbind : bindArgs (kla_fn name qual params body scope cl pm (.ref c') ctv) args = pure binds) (hloc : ∀ y ∈ binds, scope.names.lookup y.1 = some .local)
    (h : ∀ g L' h₁ tk, KeepBut s.heap g (sub.map (·.1)) → Fr g L' h₁ (fun y => binds.reverse.lookup y) → News g L' h₁ sub → Below A base frames g → K.In g → Top p loose mean mg mb g → (∀ p ∈ sub, p.1 < L') →
      wpAny (model prog w) (A.deeper (envX qual scope L' f (.ref c') cl)) (eval body (envX qual scope L' f (.ref c') cl))
        (fun v s' => R (.ok (.ret v)) s')
        (fun e s' => wpAny (model prog w) (A.deeper (envX qual scope L' f (.ref c') cl)) (leaving (envX qual scope L' f (.ref c') cl) e) (fun _ s'' => R (.error e) s'') (fun e' s'' => R (.error e') s'') s')
        { s with heap := h₁, toks := tk })
    (hco : scope.isCoroutine = false) (hgen : scope.isGenerator = false) (hk : scope.kind = .function)
    (hcell : ∀ x ∈ scope.names, x.2 ≠ .cell) : codeAny (model prog w) A (.call (.ref f) args) R s := by
  obtain ⟨B, X', T'⟩ := ground_sub C O
  refine kla_callFunE hroom (O _ ho).1 rfl hco hgen rfl ⟨c', oc, vs, t, rfl, (O _ hc).1, hd, hq⟩ ?_
  rw [hbind]
  refine wpAny_pure (wpAny_newFunctionEnv hcell hloc (fun h₁ hns hsb => ⟨(C.ok.T.nolimit.keeps C.st).fresh _ hsb, ?_⟩) hk)
  show codeAny _ _ (.expr body (envX qual scope s.heap.objs.size f (.ref c') cl)) _ _
  have hk₁ : ∀ b o, s.heap.get? b = some o → h₁.get? b = some o := fun b o e => hsb.extBut b o (Nat.ne_of_lt (Heap.lt_size e)) (Heap.get?_push_of_some _ e)
  exact kla_codeExpr (h _ s.heap.objs.size h₁ _ (fun b o e n => hideAll_get _ e n) ⟨hns, fun b o e => hk₁ b o (of_hideAll _ e), Nat.le_of_eq (hideAll_size _ _)⟩
    (fun q hq => ⟨hk₁ _ _ (O q hq).1, Nat.ne_of_lt (Heap.lt_size (O q hq).1), hideAll_none _ (List.mem_map_of_mem hq)⟩) B X' T' (fun q hq => Heap.lt_size (O q hq).1))
end
section
variable {prog : Program} {w : World} {K : Frag} {p : Program} {loose : List Str} {D U : Nat} {f : Value} {vs : List Value} {sub : List (Addr × Obj)} {mu : List Addr} {post : Value → List (Addr × Obj) → Prop}
theorem CtrH.use3 (C : CtrH prog w K p loose D U f vs sub mu post) {A₀ A : Around} {base g : Heap} {L : Addr} {m : Str → Option Value} {env : Env} {news : List (Addr × Obj)} {mean : ExcName → Option Value} {mg mb : Str → Option Value} {s : Shared} {Q E : Value → Shared → Prop}
    (B : Below A₀ base [] g) (F : Fr g L s.heap m) (N : News g L s.heap news) (Ok : BaseOk K p loose mean mg mb base)
    (hA : A.handled = none) (hAf : A.frames = some [env]) (hf : env.frame = some L) (hk : env.scope.kind = .function) (hd : A.depth ≤ D) (hu : A.units ≤ U) (hs : ∀ q ∈ sub, q ∈ news) {rest : List (Addr × Obj)} (hmu : ∀ a ∈ mu, a ∈ news.map (·.1)) (hr : ∀ q ∈ rest, q ∈ news) (hoff : ∀ q ∈ rest, q.1 ∉ mu)
    (k : ∀ v out h' tk, post v out → Fr g L h' m → News g L h' (out ++ rest) → (∀ q ∈ out, q.1 ∈ mu ∨ NeAll q.1 news) → Q v { s with heap := h', toks := tk }) : wpAny (model prog w) A (call f vs) Q E s := by
  have offL : L ∉ mu := fun q => by
    obtain ⟨x, hx, e⟩ := mM (hmu L q)
    exact (N x hx).2.1 e
  have offg : ∀ b o, g.get? b = some o → b ∉ mu := fun b o e q => by
    obtain ⟨x, hx, rfl⟩ := mM (hmu b q)
    rw [(N x hx).2.2] at e; cases e
  obtain ⟨oL, es, ep, hL, hLd, hLk, hLf⟩ := id F.ns
  have lt : ∀ b o, g.get? b = some o → b ≠ L := fun b o e q => Nat.lt_irrefl _ (Nat.lt_of_lt_of_le (q ▸ Heap.lt_size e) F.above)
  have inL : ∀ b, b ∈ frs [env] → b = L := fun b hm => by
    unfold frs at hm
    rw [List.filterMap_cons, hf] at hm
    exact mG hm
  have outs : ∀ q : Addr × Obj, (q.1 ∈ mu ∨ s.heap.get? q.1 = none) → q.1 ≠ L ∧ g.get? q.1 = none := fun q h1 => by
    rcases h1 with h1 | h1
    · obtain ⟨x, hx, e⟩ := mM (hmu _ h1)
      rw [← e]; exact (N x hx).2
    · refine ⟨fun e => ?_, ?_⟩
      · rw [e, hL] at h1; cases h1
      · cases hg : g.get? q.1 with
        | none => rfl
        | some o => have := F.keep _ _ hg; rw [h1] at this; cases this
  refine C A [env] base mean mg mb s Q E (cx_of B F Ok hA hAf hf hk) (own_of B N hf hs) hd hu fun v out h' tk kp ho hpost => ?_
  obtain ⟨sl, hsl⟩ := kp.2 _ _ hL offL
  refine k v out h' tk hpost ⟨⟨_, es, ep, hsl, hLd, hLk, hLf⟩, fun b o e => kp.1 _ _ (F.keep b o e) (offg b o e) (fun hm => lt b o e (inL b hm)), F.above⟩ (fun q hq => ?_) (fun q hq => ?_)
  · rcases mA hq with hq | hq
    · exact ⟨(ho q hq).1, outs q (ho q hq).2⟩
    · have n := N q (hr q hq)
      exact ⟨kp.1 _ _ n.1 (hoff q hq) (fun hm => n.2.1 (inL _ hm)), n.2⟩
  · rcases (ho q hq).2 with h1 | h1
    · exact .inl h1
    · refine .inr (NeAll.of fun x hx e => ?_)
      have := (N x hx).1
      rw [e, h1] at this; cases this
end
set_option tactic.hygienic true in
theorem Do.useH {c : XC} {G : GR} {base : Heap} {D U : Nat} {R : Int → List (Addr × Obj) → Prop} (Y : Uses G c [] base D U R) {D' U' : Nat} {f : Addr} {vs : List Value} {sub : List (Addr × Obj)} {mu : List Addr} {post : Value → List (Addr × Obj) → Prop}
    {st : XS} {K : RV → XS → Prop} (C : st.ρ.length = st.ob.length → Dis st → CAp st → (∀ e ∈ st.ce, e.dm = false → e.k = false → e.o.data = .cell (e.v.map (RV.den st.ρ))) → CtrH PG G.w G.K G.p G.loose D' U' (.ref f) vs sub mu post) (mui : List Nat) (hD : Nat.ble D D' = true) (hU : Nat.ble U U' = true) (hs : st.ρ.length = st.ob.length → ∀ q ∈ sub, q ∈ led st) (hmu : mu = mui.map fun i => st.ρ.getD i 0) (hmi : mui.all (fun i => st.mu.contains i && Nat.blt i st.ob.length) = true)
    (k : ∀ v out, post v out → (∀ q ∈ out, q.1 ∈ mu ∨ NeAll q.1 (led st)) → Dis st → st.ρ.length = st.ob.length → CAp st → ∃ rv st', v = rv.den st'.ρ ∧ Next st mui out st' ∧ K rv st') {rvs : List RV} (hv : rvs.map (RV.den st.ρ) = vs := by rfl) : DoC c (.ref f) rvs st K := by
  refine ⟨fun Q s z S hq => ?_⟩
  rw [hv]
  obtain ⟨A₀, B⟩ := Y.B
  obtain ⟨mean, mg, mb, Ok⟩ := Y.Ok
  have hprog := Y.prog
  have hw := Y.hw
  subst hmu
  have key := CtrH.use3 (C S.len S.D S.CE.ap fun e he hd hk => (S.CE.cl e he hd hk).2) (A := c.A) (env := c.fe) (s := s) (Q := Q) (E := c.E) B S.F S.N Ok Y.hA Y.fr Y.ff Y.kf (Nat.le_trans Y.hd (Nat.le_of_ble_eq_true hD)) (Nat.le_trans Y.hu (Nat.le_of_ble_eq_true hU)) (hs S.len) (rest := (led st).filter fun p => !((mui.map fun i => st.ρ.getD i 0).contains p.1))
    (fun a ha => by
      obtain ⟨i, hi, rfl⟩ := mM ha
      obtain ⟨_, h2⟩ := bA (aT hmi i hi)
      have h2 : i < st.ob.length := Nat.le_of_ble_eq_true h2
      exact List.mem_map.mpr ⟨_, led_of (getD_at (S.len ▸ h2)) (List.getElem?_eq_getElem h2), rfl⟩)
    (fun q hq => (List.mem_filter.mp hq).1) (fun q hq hm => by
      have := (List.mem_filter.mp hq).2
      simp only [Bool.not_eq_true', List.contains_eq_mem, decide_eq_false_iff_not] at this
      exact this hm)
    (fun v out h' tk hp F' N' hn => by
      obtain ⟨rv, st', rfl, X, hk⟩ := k v out hp hn S.D S.len S.CE.ap
      obtain ⟨as, hρ⟩ := X.as
      refine hq rv st' h' tk hk (S.next X F' N' fun q hq' => ?_) ⟨⟨as, hρ.symm⟩, by rw [X.ce]⟩
      rcases X.mem S.len S.D hmi q hq' with h | ⟨h, hm⟩
      · exact mL _ h
      · refine mR _ (List.mem_filter.mpr ⟨h, ?_⟩)
        simp only [Bool.not_eq_true', List.contains_eq_mem, decide_eq_false_iff_not]
        exact hm)
  rw [← hprog, ← hw] at key
  exact key
theorem updF_zip {d : Addr} {o : Obj} {tl : List (Addr × Obj)} (h4 : ∀ p ∈ tl, p.1 ≠ d) : ∀ {ρ : List Addr} {os : List Obj} {i : Nat}, ρ[i]? = some d → os[i]? = some o → (∀ j b, ρ[j]? = some b → j ≠ i → b ≠ d) → UpdF d o (ρ.zip os ++ tl) fun o' => ρ.zip (os.set i o') ++ tl
  | a :: ρ, x :: os, 0, h1, h2, h3 => by
    cases h1; cases h2
    refine .head fun p hp => ?_
    rcases mA hp with q | q
    · obtain ⟨j, hj⟩ := zip_at q
      exact h3 (j + 1) _ hj (Nat.succ_ne_zero _)
    · exact h4 p q
  | a :: ρ, x :: os, i + 1, h1, h2, h3 => .tail (h3 0 a rfl (Nat.succ_ne_zero _).symm) (updF_zip h4 h1 h2 fun j b hj hne => h3 (j + 1) b hj fun q => hne (Nat.succ.inj q))
  | [], _, _, h1, _, _ => by simp at h1
  | _ :: _, [], _, _, h2, _ => by simp at h2
theorem XS.wf_set {st : XS} {i : Nat} {o : RO} (hw : st.wf = true) (ho : o.wf st.ob.length = true) : (st.set i o).wf = true := by
  unfold XS.wf at hw ⊢
  obtain ⟨h1, h2⟩ := bA hw
  obtain ⟨h2, h3⟩ := bA h2
  have e : (st.set i o).ob.length = st.ob.length := List.length_set ..
  rw [e]
  refine Bool.and_eq_true_iff.mpr ⟨h1, Bool.and_eq_true_iff.mpr ⟨List.all_eq_true.mpr fun x hx => ?_, h3⟩⟩
  rcases List.mem_or_eq_of_mem_set hx with h | h
  · exact aT h2 x h
  · rw [h]; exact ho
section
variable {c : XC} {st : XS} {K : RV → XS → Prop} {params : Arguments} {body : Expr} {scope : Scope} {pos : Pos} {cn : Str} {cs : Scope} {a : Addr} {cl clos : List (Str × Addr)} {ps : Array Value} {i : Nat}
theorem den_last {st : XS} (hl : st.ρ.length = st.ob.length) (a : Addr) (o : RO) : RV.den (st.add a o).ρ (.r st.ob.length) = .ref a := by
  show Value.ref ((st.ρ ++ [a]).getD st.ob.length 0) = _
  rw [← hl]; simp
theorem x_lam {c0 P : Addr} (henv : c.env = envX cn cs c.L a (.ref c0) cl) (hC : CodeHd c.h₀ c0 P) (hT : ∃ p loose mean mg mb, Top p loose mean mg mb c.h₀) (hdef : defaultsOf params c.env = ([], [])) (hclos : closureFor scope c.env = pure clos)
    (hi : st.ob[i]? = some (.raw (tabObj ps))) (hρ : st.ρ[i]? = some P) (hm : st.mu.contains i = true) (ht : TriplesOk ps.toList) (hnf : codeAmong pos ps.toList = none) (hw : st.wf = true)
    (k : ∀ f c' oc vs t pm ctv, oc.data = .fields vs → vs[1]? = some (.str (c.env.qual ++ "<lambda>") t) → K (.r st.ob.length) ((st.set i (.raw (tabObj (ps ++ #[rawInt pos.line, rawInt pos.col, .ref c'])))).addT f (.raw (kla_obj "<lambda>" (c.env.qual ++ "<lambda>") params body scope clos pm c' ctv)) [(c', oc)])) :
    Do c (eval (.Lambda params body scope pos) c.env) st K := by
  refine ⟨fun Q s z S hq => kla_eval hdef ?_⟩
  obtain ⟨p, loose, mean, mg, mb, T⟩ := hT
  have im : i ∈ st.mu := by simpa using hm
  obtain ⟨d1, d2⟩ := S.D i _ im hρ
  have U : UpdF P (tabObj ps) (led st) fun o' => st.ρ.zip ((st.ob.map (RO.den st.ρ)).set i o') ++ st.tlc := updF_zip d2 hρ (by rw [List.getElem?_map, hi]; rfl) d1
  have key := kla_nest (M := model c.prog c.w) (A := c.A) (E := c.E) (s := s) (cn := cn) (cs := cs) (a := a) (cl := cl) (name := "<lambda>") (qual := c.env.qual ++ "<lambda>") (params := params) (body := body) (scope := scope) (pos := pos) (firstLine := pos.line) (Q := Q) S.F S.N T hC rfl U ht hnf (henv ▸ hclos) fun f c' oc vs t ctv h' tk F' N' hd hv l1 l2 => ?_
  · rw [← henv] at key; exact key
  · have e1 : ∀ o', st.ρ.zip ((st.ob.map (RO.den st.ρ)).set i o') ++ st.tlc = led (st.set i (.raw o')) := fun o' => by
      show _ = st.ρ.zip ((st.ob.set i (.raw o')).map (RO.den st.ρ)) ++ st.tlc
      rw [List.map_set]; rfl
    rw [e1] at N'
    have hl := S.len
    have S1 : Sat c (st.set i (.raw (tabObj (ps ++ #[rawInt pos.line, rawInt pos.col, .ref c'])))) h' := S.setTo F' (News.sub N' fun q hq => mC _ (mC _ hq))
    have low : ∀ q ∈ led (st.set i (.raw (tabObj (ps ++ #[rawInt pos.line, rawInt pos.col, .ref c'])))), q.1 < c' := fun q hq => by
      rcases led_at hq with ⟨j, o, g1, g2, _⟩ | h
      · have g1 : st.ρ[j]? = some q.1 := g1
        have := l1 _ (led_of g1 (List.getElem?_eq_getElem (hl ▸ (gS g1).1)))
        exact this
      · exact l1 q (mR _ h)
    have w1 := XS.wf_set (i := i) (o := .raw (tabObj (ps ++ #[rawInt pos.line, rawInt pos.col, .ref c']))) hw rfl
    have S3 := S1.addT w1 (a := f) (o := .raw (kla_obj "<lambda>" (c.env.qual ++ "<lambda>") params body scope clos ((mg "__name__").getD .none) c' ctv)) (tl := [(c', oc)]) S1.F (News.sub N' fun q hq => by
      rcases mK hq with h | h
      · exact h ▸ mS
      · rcases mA h with h | h
        · exact mC _ (mC _ h)
        · exact mG h ▸ mC _ mS) (NeAll.of fun q hq => Nat.ne_of_lt (Nat.lt_trans (low q hq) l2)) ⟨Nat.ne_of_lt l2, trivial⟩ (all_cons (NeAll.of fun q hq => Nat.ne_of_lt (low q hq)) all_nil)
    have := hq _ _ h' tk (k f c' oc vs t _ ctv hd hv) S3 ⟨List.prefix_append _ _, rfl⟩
    have e2 : (st.set i (.raw (tabObj (ps ++ #[rawInt pos.line, rawInt pos.col, .ref c'])))).ob.length = st.ob.length := List.length_set ..
    have e3 := den_last S1.len f (.raw (kla_obj "<lambda>" (c.env.qual ++ "<lambda>") params body scope clos ((mg "__name__").getD .none) c' ctv))
    rw [e2] at e3
    exact Eq.mp (congrArg (fun v => Q v _) e3) this
theorem x_lam2 {c0 P c' : Addr} (henv : c.env = envX cn cs c.L a (.ref c0) cl) (hC : CodeHd c.h₀ c0 P) (hT : ∃ p loose mean mg mb, Top p loose mean mg mb c.h₀) (hdef : defaultsOf params c.env = ([], [])) (hclos : closureFor scope c.env = pure clos)
    (hi : st.ob[i]? = some (.raw (tabObj ps))) (hρ : st.ρ[i]? = some P) (ht : TriplesOk ps.toList) (hf : codeAmong pos ps.toList = some (.ref c')) (hw : st.wf = true)
    (k : ∀ f pm ctv, K (.r st.ob.length) (st.add f (.raw (kla_obj "<lambda>" (c.env.qual ++ "<lambda>") params body scope clos pm c' ctv)))) :
    Do c (eval (.Lambda params body scope pos) c.env) st K := by
  refine ⟨fun Q s z S hq => kla_eval hdef ?_⟩
  obtain ⟨p, loose, mean, mg, mb, T⟩ := hT
  have key := kla_hit (M := model c.prog c.w) (A := c.A) (E := c.E) (s := s) (cn := cn) (cs := cs) (a := a) (cl := cl) (name := "<lambda>") (qual := c.env.qual ++ "<lambda>") (params := params) (body := body) (scope := scope) (pos := pos) (firstLine := pos.line) (Q := Q) S.F S.N T hC rfl (led_of hρ hi) ht hf (henv ▸ hclos) fun f ctv h' tk F' N' l1 => ?_
  · rw [← henv] at key; exact key
  · have S3 := S.add hw (a := f) (o := .raw (kla_obj "<lambda>" (c.env.qual ++ "<lambda>") params body scope clos ((mg "__name__").getD .none) c' ctv)) F' N' l1
    have := hq _ _ h' tk (k f _ ctv) S3 Ext.add
    rw [den_last S.len] at this
    exact this
end
theorem ex_goE {G : GR} (HG : GrF G.K) {A : Around} {E : Value → Shared → Prop} {g : Heap} {L af : Addr} {cn : Str} {cs : Scope} {ccd : Value} {cl : List (Str × Addr)} {p : Program} {loose : List Str} {mean : ExcName → Option Value} {mg mb : Str → Option Value} {prog : Program}
    {Q : Value → Shared → Prop} {s : Shared} {body : Expr} (n : Nat) (st : XS) (S : ∀ c : XC, c.h₀ = g → c.L = L → c.env = envX cn cs L af ccd cl → Sat c st s.heap) (X : G.K.In g) (T : Top p loose mean mg mb g) (po : PassesOwn (model prog G.w) A (envX cn cs L af ccd cl) E) (hk : cs.kind = .function) (hh : A.handled = none)
    {K : RV → XS → Prop} (hK : ∀ v st' h' tk', K v st' → Fr g L h' (frm st') → News g L h' (led st') → Dis st' → Q (v.den st'.ρ) { s with heap := h', toks := tk' })
    (H : ∀ c : XC, c = ⟨s, prog, G.w, A, E, G.K, g, L, envX cn cs L af ccd cl, envX cn cs L af ccd cl, 0⟩ → c.Ok ⟨cs, GL, FS, TAB, ME, false⟩ → exE ⟨cs, GL, FS, TAB, ME, false⟩ c n body st K) :
    wpAny (model prog G.w) A (eval body (envX cn cs L af ccd cl)) Q E s :=
  exE_ok (ok_of HG (s := s) po hk hh X T) n body st _ (H _ rfl (ok_of HG (s := s) po hk hh X T)) Q s ⟨rfl, rfl, rfl⟩ (S _ rfl rfl rfl) fun f st' h' tk' hk' S' _ => hK f st' h' tk' hk' S'.F S'.N S'.D
set_option tactic.hygienic true in
theorem CT.lam {G : GR} (HG : GrF G.K) {D U : Nat} {f : Addr} {sub : List (Addr × Obj)} {mu : List Addr} {post : Value → List (Addr × Obj) → Prop} {rais : Int → List (Addr × Obj) → Prop} {name qual : Str} {params : Arguments} {body : Expr} {scope : Scope} {cl : List (Str × Addr)} {pm ctv : Value} {c' : Addr} {oc : Obj} {vs : Array Value} {t : Tok}
    (n : Nat) (st : XS) (hs : ∀ q, q ∈ led st ↔ q ∈ sub) (ho : (f, kla_obj name qual params body scope cl pm c' ctv) ∈ sub) (hc : (c', oc) ∈ sub) (hd : oc.data = .fields vs) (hq : vs[1]? = some (.str qual t)) (hroom : D < recursionLimit) (hbind : bindArgs (kla_fn name qual params body scope cl pm (.ref c') ctv) ⟨[], []⟩ = pure [])
    (hco : scope.isCoroutine = false) (hgen : scope.isGenerator = false) (hk : scope.kind = .function) (hcell : ∀ x ∈ scope.names, x.2 ≠ .cell) (hfr : st.fr = []) (hfo : st.fo = fun _ => none) (hl : st.ρ.length = st.ob.length) (hD : Dis st)
    (hcl : ∀ e ∈ st.ce, e.k = false ∧ cl.lookup e.x = some e.a ∧ e.o.data = .cell (e.v.map (RV.den st.ρ))) (hap : CAp st) (hnd : (st.ce.map (·.a)).Nodup)
    (VC : ∀ (c : XC) (frames : List Env) (base : Heap), Uses G c frames base (D + 1) (U + 3) (ROwes sub mu rais) → c.Ok ⟨scope, GL, FS, TAB, ME, false⟩ → exE ⟨scope, GL, FS, TAB, ME, false⟩ c n body st fun v st' => EndX st mu post (.ret v) st') : CT G D U f [] sub mu post rais := by
  unfold CT
  refine Ctr.of_room ?_
  intro frames gd base mean mg mb s Q E C O _ he hr
  refine wpAny_call ?_
  refine enterL C O ho hc hd hq hroom hbind (fun _ h => nomatch h) ?_ hco hgen hk hcell
  intro g L' h₁ tk kg F N B X T l1
  refine ex_goE HG (K := fun v st' => EndX st mu post (.ret v) st') n st (fun c e1 e2 e3 => ?_) X T PassesOwn.leaving hk rfl (fun v st' h2 tk2 H F2 N2 D2 => ?_) fun c hc hO => ?_
  · subst e1 e2
    refine ⟨?_, fun q hq => N q ((hs q).1 hq), hl, hD, ⟨fun e he _ _ => ?_, fun e he _ hx => ?_, hap, hnd⟩⟩
    · have : frm st = fun y => ([] : List (Str × Value)).reverse.lookup y := funext fun y => (frm_none hfo y).trans (by rw [hfr]; rfl)
      rw [this]; exact F
    · rw [e3]; exact ⟨(hcl e he).2.1, (hcl e he).2.2⟩
    · rw [(hcl e he).1] at hx; cases hx
  · obtain ⟨out, h3, h4, h5⟩ := H.run D2
    exact Ends.close he O kg F2 N2 _ out (fun q hq => h3 q ((hs q).2 hq)) (fun q hq => ⟨(h4 q hq).1, (h4 q hq).2.imp id fun h x hx => h x ((hs x).2 hx)⟩) h5 rfl rfl rfl
  · subst hc
    refine VC _ frames base ⟨HG, rfl, rfl, rfl, X, ⟨_, B⟩, ⟨_, _, _, C.ok⟩, rfl, rfl, rfl, hk, Nat.le_refl _, Nat.le_refl _, ?_⟩ hO
    intro e k m news h2 tk2 s2 z ⟨out, r1, r2, r3, r4⟩ RA
    exact RaisedAt.close (s' := { s2 with heap := h2, toks := tk2 }) RA hr O kg B rfl rfl out r1 r2 r3 r4 z.gens z.drawn z.os
theorem x_neBool {c : XC} {st : XS} {K : RV → XS → Prop} {a b : Bool} (k : K (.v (.bool (a != b))) st) : Do c (compareOp .NotEq ((RV.v (.bool a)).den st.ρ) ((RV.v (.bool b)).den st.ρ)) st K :=
  ⟨fun Q s z S hq => PyProof.Rows.ne_bool (hq (.v (.bool (a != b))) _ _ _ k S (Ext.refl _))⟩
end
section
noncomputable def turnB : List Stmt := match fd_745.body.getD 17 (.Pass default) with
  | .For _ _ b _ _ => b
  | _ => []
noncomputable def lamP : Arguments × Expr × Scope × Pos := match turnB.getD 3 (.Pass default) with
  | .If (.Compare (.Call _ (.Lambda p b s q :: _) _ _) _ _ _) _ _ _ => (p, b, s, q)
  | _ => (⟨[], [], none, [], [], none, []⟩, .Constant .none 0 default, default, default)
noncomputable abbrev cloL (L : Addr) : List (Str × Addr) := [(Str.ofString "work", L + 1 + 1 + 1 + 1 + 1), (Str.ofString "run", L + 1 + 1 + 1 + 1), (Str.ofString "machine", L + 1 + 1 + 1)]
noncomputable abbrev ceM (L : Addr) (ow orr om : Obj) (w : Value) : List CE := [⟨Str.ofString "work", L + 1 + 1 + 1 + 1 + 1, ow, some (.v w), false, false⟩, ⟨Str.ofString "run", L + 1 + 1 + 1 + 1, orr, some (.r 15), false, false⟩, ⟨Str.ofString "machine", L + 1 + 1 + 1, om, some (.r 0), false, false⟩]
structure LP where
  (rr rd fr r2 r7 r9 : Addr)
  q : Nat → Int
  t : Nat → Tok
  u : Nat → Value
  x : Int
  tx : Tok
  oF : Obj
noncomputable abbrev LP.run (R : LP) (m f : Nat) : RO := .dict (runE R.q R.t R.u (.r m) (.v (.ref R.r2)) (.v (.ref R.r7)) (.r f) (.v (.ref R.r9)) R.x R.tx) 16
noncomputable abbrev QP.lam (Q : QP) (R : LP) (L : Addr) (ow orr om : Obj) (w : Value) (tx tz : Tok) (nw : Nat) (T : List (Addr × Obj)) : XS :=
  ⟨Q.P.rho ++ [Q.tr, Q.tt, Q.po, Q.pod, Q.oi, R.rr, R.rd, R.fr], [], Q.P.grd (.r 10) Q.x tx Q.its Q.n ++ [.lst [.ref Q.tt] Q.ntr, .tup [.r 12, .v Q.e1, .v Q.e2, .v .none], .inst 675 13, outE Q.q5 Q.t5 (.r 14) Q.z tz, .lst Q.ws nw, .inst 370 16, R.run 4 17, .raw R.oF], T, [1, 13, 14], ceM L ow orr om w, fun _ => none⟩
noncomputable abbrev QT.lam (Q : QT) (R : LP) (L : Addr) (ow orr om : Obj) (w : Value) (tx ta : Tok) (T : List (Addr × Obj)) : XS :=
  ⟨Q.P.rho ++ [Q.tr, Q.tt, Q.pi, Q.pid, Q.rl, R.rr, R.rd, R.fr], [], Q.P.grd (.r 10) Q.x tx Q.its Q.n ++ [.lst [.ref Q.tt] Q.ntr, .tup [.r 12, .v Q.e1, .v Q.e2, .v .none], .inst 710 13, inE Q.q5 Q.t5 (.r 14) 0 ta, .lst Q.rs Q.nr, .inst 370 16, R.run 4 17, .raw R.oF], T, [1, 6, 13], ceM L ow orr om w, fun _ => none⟩
inductive QP.post (Q : QP) : Value → List (Addr × Obj) → Prop
  | ok (us : List Value) (tl : List (Addr × Obj)) (u1 u2 u3 : Tok) (nw' : Nat) (hle : Q.x + Q.P.many ≤ Q.P.y) (hput : PutAt tl Q.zs us) (hne : ∀ p ∈ tl, p.1 ∉ [Q.P.a 1, Q.pod, Q.oi]) : QP.post Q (.int (-1) u3) ((Q.P.a 1, Q.P.machO (.ref Q.tr) (Q.x + Q.P.many) u1) :: (Q.pod, outO Q.q5 Q.t5 Q.oi (Q.z + Q.P.many) u2) :: (Q.oi, listOf (Q.ws ++ us).toArray nw') :: tl)
abbrev QP.rais (Q : QP) (tz : Tok) (nw : Nat) (k : Int) (out : List (Addr × Obj)) : Prop :=
  Q.P.y < Q.x + Q.P.many ∧ k = Q.P.y ∧ ∃ u1, out = [(Q.P.a 1, Q.P.machO (.ref Q.tr) (Q.x + Q.P.many) u1), (Q.pod, outO Q.q5 Q.t5 Q.oi Q.z tz), (Q.oi, listOf Q.ws.toArray nw)]
inductive QT.post (Q : QT) : Value → List (Addr × Obj) → Prop
  | ok (its' : List Value) (tl : List (Addr × Obj)) (u1 u2 u3 : Tok) (hle : Q.x + Q.P.many ≤ Q.P.y) (h20 : its'.length = 20) (hcl : CellsAt tl its' Q.zs) (hne : ∀ p ∈ tl, p.1 ∉ [Q.P.a 1, Q.P.a 6, Q.pid]) : QT.post Q (.int (-1) u3) ((Q.P.a 1, Q.P.machO (.ref Q.tr) (Q.x + Q.P.many) u1) :: (Q.P.a 6, listOf its'.toArray Q.n) :: (Q.pid, inO Q.q5 Q.t5 Q.rl Q.P.many u2) :: tl)
abbrev QT.rais (Q : QT) (ta : Tok) (k : Int) (out : List (Addr × Obj)) : Prop :=
  Q.P.y < Q.x + Q.P.many ∧ k = Q.P.y ∧ ∃ u1, out = [(Q.P.a 1, Q.P.machO (.ref Q.tr) (Q.x + Q.P.many) u1), (Q.P.a 6, listOf Q.its.toArray Q.n), (Q.pid, inO Q.q5 Q.t5 Q.rl 0 ta)]
theorem three {P : Addr × Obj → Prop} {a b c : Addr} {p : Addr × Obj} (h : p.1 ∈ [a, b, c]) (h1 : p.1 = a → P p) (h2 : p.1 = b → P p) (h3 : p.1 = c → P p) : P p := by
  rcases mK h with h | h
  · exact h1 h
  · rcases mK h with h | h
    · exact h2 h
    · exact h3 (mG h)
theorem off3_of {st : XS} {tl : List (Addr × Obj)} (i j k : Nat) {a b c : Addr} (hl : st.ρ.length = st.ob.length) (hi : st.ρ[i]? = some a) (hj : st.ρ[j]? = some b) (hk : st.ρ[k]? = some c) (h : ∀ p ∈ tl, ∀ y ∈ led st, y.1 ≠ p.1) : ∀ p ∈ tl, p.1 ∉ [a, b, c] := fun p hp hm => by
  have at_ : ∀ {m : Nat} {d : Addr}, st.ρ[m]? = some d → p.1 ≠ d := fun {m d} e q => by
    have hm : m < st.ob.length := hl ▸ (gS e).1
    exact h p hp _ (led_of e (List.getElem?_eq_getElem hm)) q.symm
  exact three (P := fun _ => False) hm (at_ hi) (at_ hj) (at_ hk)
theorem cells3 {L : Addr} {ow orr om : Obj} {w : Value} {ρ : List Addr} {rr mc : Addr} (h1 : ow.data = .cell (some w)) (h2 : orr.data = .cell (some (.ref rr))) (h3 : om.data = .cell (some (.ref mc))) (e1 : ρ.getD 15 0 = rr) (e2 : ρ.getD 0 0 = mc) : ∀ e ∈ ceM L ow orr om w, e.k = false ∧ (cloL L).lookup e.x = some e.a ∧ e.o.data = .cell (e.v.map (RV.den ρ)) := by
  subst e1 e2
  exact all_cons ⟨rfl, rfl, h1⟩ (all_cons ⟨rfl, rfl, h2⟩ (all_cons ⟨rfl, rfl, h3⟩ all_nil))
theorem cells_nd {L : Addr} {ow orr om : Obj} {w : Value} : ((ceM L ow orr om w).map (·.a)).Nodup := by
  show ([L + 1 + 1 + 1 + 1 + 1, L + 1 + 1 + 1 + 1, L + 1 + 1 + 1] : List Nat).Nodup
  refine List.nodup_cons.mpr ⟨fun h => ?_, List.nodup_cons.mpr ⟨fun h => ?_, List.nodup_cons.mpr ⟨List.not_mem_nil, List.nodup_nil⟩⟩⟩ <;> simp at h <;> exact absurd (show (L : Nat) + 1 + 1 = L from h) (by lia)
section
variable {G : GR} (HG : GrF G.K)
include HG
theorem lam_put (Q : QP) (R : LP) (L f c' ai : Addr) (ow orr om oc : Obj) (vs : Array Value) (qual : Str) (t tx tz : Tok) (pm ctv : Value) (nw : Nat) (T : List (Addr × Obj)) (hT : ∀ p ∈ Q.T0, p ∈ T) (hf : (f, kla_obj "<lambda>" qual lamP.1 lamP.2.1 lamP.2.2.1 (cloL L) pm c' ctv) ∈ T) (hc : (c', oc) ∈ T) (hd : oc.data = .fields vs) (hq : vs[1]? = some (.str qual t))
    (h1 : ow.data = .cell (some (.ref 575))) (h2 : orr.data = .cell (some (.ref R.rr))) (h3 : om.data = .cell (some (.ref (Q.P.a 0)))) (hF : R.oF.IsDictOf (strKind PG G.w) [(Str.ofString "A", .ref (Q.P.a 7)), (Str.ofString "I", .ref ai)])
    (hD : Dis (Q.lam R L ow orr om (.ref 575) tx tz nw T)) (hap : CAp (Q.lam R L ow orr om (.ref 575) tx tz nw T)) (h20 : Q.its.length = 20) (m5 : Q.P.many ≤ 5) (hx : 0 ≤ Q.x ∧ Q.x ≤ 800) (hy : 0 ≤ Q.P.y ∧ Q.P.y ≤ 900) (hz : 0 ≤ Q.z ∧ Q.z ≤ 100) (hw : Q.ws.length ≤ 100) (hcl : CellsAt Q.T0 Q.its Q.zs) (hzs : Q.zs.length = Q.P.many) :
    CT G 440 880 f [] (led (Q.lam R L ow orr om (.ref 575) tx tz nw T)) [Q.P.a 1, Q.pod, Q.oi] Q.post (Q.rais tz nw) := by
  refine CT.lam HG 20 _ (fun _ => Iff.rfl) (tl_mem hf) (tl_mem hc) hd hq (by decide) rfl rfl rfl rfl (by decide) rfl rfl rfl hD (cells3 h1 h2 h3 rfl rfl) hap cells_nd ?_
  intro c frames base Y O t1
  refine x_ditem (.r 7) (a := R.fr) (o := R.oF) (knd := strKind c.prog c.w) (key := Str.ofString "A") (kvs := [(Str.ofString "A", .ref (Q.P.a 7)), (Str.ofString "I", .ref ai)]) rfl (fun hl => mem_led (i := 17) hl rfl) (by rw [Y.prog, Y.hw]; exact hF) (strKind_is _ _ _ _) rfl rfl ?_
  intro vl
  refine Do.use Y (fun hl D => c_putall Y.HG { Q with vl := vl, nv := 0 } tx tz nw ?_) [1, 13, 14] rfl rfl (fun hl => ?_) rfl rfl ?_ ?_ rfl
  · have dn := fun (i j : Nat) {a b : Addr} hi ha hb hj => dis_at (a := a) (b := b) D i j hi ha hb hj
    exact ⟨⟨dn 1 0 rfl rfl rfl rfl, dn 1 2 rfl rfl rfl rfl, dn 1 3 rfl rfl rfl rfl, dn 1 4 rfl rfl rfl rfl, dn 1 5 rfl rfl rfl rfl, dn 1 6 rfl rfl rfl rfl, dn 1 7 rfl rfl rfl rfl, dn 1 8 rfl rfl rfl rfl, dn 1 9 rfl rfl rfl rfl⟩,
      ⟨dn 13 0 rfl rfl rfl rfl, dn 13 2 rfl rfl rfl rfl, dn 13 3 rfl rfl rfl rfl, dn 13 4 rfl rfl rfl rfl, dn 13 5 rfl rfl rfl rfl, dn 13 6 rfl rfl rfl rfl, dn 13 7 rfl rfl rfl rfl, dn 13 8 rfl rfl rfl rfl, dn 13 9 rfl rfl rfl rfl⟩,
      ⟨dn 14 0 rfl rfl rfl rfl, dn 14 2 rfl rfl rfl rfl, dn 14 3 rfl rfl rfl rfl, dn 14 4 rfl rfl rfl rfl, dn 14 5 rfl rfl rfl rfl, dn 14 6 rfl rfl rfl rfl, dn 14 7 rfl rfl rfl rfl, dn 14 8 rfl rfl rfl rfl, dn 14 9 rfl rfl rfl rfl⟩,
      ⟨dn 1 10 rfl rfl rfl rfl, dn 1 11 rfl rfl rfl rfl, dn 1 12 rfl rfl rfl rfl, dn 1 13 rfl rfl rfl rfl, dn 1 14 rfl rfl rfl rfl, dn 1 18 rfl rfl rfl rfl⟩,
      ⟨dn 13 10 rfl rfl rfl rfl, dn 13 11 rfl rfl rfl rfl, dn 13 12 rfl rfl rfl rfl, dn 13 14 rfl rfl rfl rfl, dn 13 18 rfl rfl rfl rfl⟩,
      ⟨dn 14 10 rfl rfl rfl rfl, dn 14 11 rfl rfl rfl rfl, dn 14 12 rfl rfl rfl rfl, dn 14 18 rfl rfl rfl rfl⟩,
      NeAll.of fun p hp => (D 1 _ (List.Mem.tail _ (List.Mem.head _)) rfl).2 p (mR _ (hT p hp)), NeAll.of fun p hp => (D 13 _ (List.Mem.tail _ (List.Mem.tail _ (List.Mem.head _))) rfl).2 p (mR _ (hT p hp)), NeAll.of fun p hp => (D 14 _ (List.Mem.tail _ (List.Mem.tail _ (List.Mem.tail _ (List.Mem.head _)))) rfl).2 p (mR _ (hT p hp)), h20, m5, hx, hy, hz, hw, hcl, hzs⟩
  · exact all_cons (mem_led (i := 0) hl rfl) (all_cons (mem_led (i := 1) hl rfl) (all_cons (mem_led (i := 2) hl rfl) (all_cons (mem_led (i := 3) hl rfl) (all_cons (mem_led (i := 4) hl rfl) (all_cons (mem_led (i := 5) hl rfl) (all_cons (mem_led (i := 6) hl rfl) (all_cons (mem_led (i := 7) hl rfl) (all_cons (mem_led (i := 8) hl rfl) (all_cons (mem_led (i := 9) hl rfl) (all_cons (mem_led (i := 10) hl rfl) (all_cons (mem_led (i := 11) hl rfl) (all_cons (mem_led (i := 12) hl rfl) (all_cons (mem_led (i := 13) hl rfl) (all_cons (mem_led (i := 14) hl rfl) (all_cons (mem_led (i := 18) hl rfl) fun q hq => tl_mem (hT q hq))))))))))))))))
  · rintro v out ⟨us, tl, u1, u2, u3, nw', hle, hput, hne⟩ hn D hl A
    have n3 := off3_of (st := { Q with vl := vl, nv := 0 }.st0 [] tx tz nw) 1 13 14 rfl rfl rfl rfl hne
    have n4 : ∀ p ∈ tl, NeAll p.1 _ := fun p hp => (hn p (mC _ (mC _ (mC _ hp)))).resolve_left (n3 p hp)
    refine ⟨.v (.int (-1) u3), _, rfl, Next.sets [1, 13, 14] (Q.P.grd (.r 10) (Q.x + Q.P.many) u1 Q.its Q.n ++ [.lst [.ref Q.tt] Q.ntr, .tup [.r 12, .v Q.e1, .v Q.e2, .v .none], .inst 675 13, outE Q.q5 Q.t5 (.r 14) (Q.z + Q.P.many) u2, .lst (Q.ws ++ us) nw', .inst 370 16, R.run 4 17, .raw R.oF, .lst [.ref (Q.P.a 7)] 0]) tl hl rfl D A rfl rfl (all_cons (List.Mem.head _) (all_cons (List.Mem.tail _ (List.Mem.head _)) (all_cons (List.Mem.tail _ (List.Mem.tail _ (List.Mem.head _))) all_nil))) (fun p hp => ⟨mC _ (mC _ (mC _ hp)), n4 p hp⟩) rfl, ?_⟩
    refine EndX.outF [1, 13, 14] [1, 13, 14] [vl] tl rfl rfl (fun p hp => ?_) rfl rfl rfl rfl rfl rfl (fun _ p hp => ⟨mR _ (mL _ hp), .inr fun x hx => (n4 p hp).all x ?_⟩) fun D => ⟨us, tl, u1, u2, u3, nw', hle, hput, n3⟩
    · exact (mA hp).elim (mL _) fun h => mR _ (mR _ h)
    · exact led_sub (st := Q.lam R L ow orr om (.ref 575) tx tz nw T) (st' := (Q.lam R L ow orr om (.ref 575) tx tz nw T).add vl (.lst [.ref (Q.P.a 7)] 0)) [vl] [.lst [.ref (Q.P.a 7)] 0] rfl rfl (fun p hp => hp) rfl rfl x hx
  · rintro k out rest ⟨hb, rfl, u1, rfl⟩ D g1 g2
    refine ROwes.pass (fun q hq => g1 q (led_sub (st := Q.lam R L ow orr om (.ref 575) tx tz nw T) (st' := (Q.lam R L ow orr om (.ref 575) tx tz nw T).add vl (.lst [.ref (Q.P.a 7)] 0)) [vl] [.lst [.ref (Q.P.a 7)] 0] rfl rfl (fun p hp => hp) rfl rfl q hq)) (all_cons (List.Mem.head _) (all_cons (List.Mem.tail _ (List.Mem.head _)) (all_cons (List.Mem.tail _ (List.Mem.tail _ (List.Mem.head _))) all_nil))) (all_cons (List.Mem.head _) (all_cons (List.Mem.tail _ (List.Mem.head _)) (all_cons (List.Mem.tail _ (List.Mem.tail _ (List.Mem.head _))) all_nil))) ⟨hb, rfl, u1, rfl⟩
theorem lam_take (Q : QT) (R : LP) (L f c' ai : Addr) (ow orr om oc : Obj) (vs : Array Value) (qual : Str) (t tx ta : Tok) (pm ctv : Value) (T : List (Addr × Obj)) (hT : ∀ p ∈ Q.T0, p ∈ T) (hf : (f, kla_obj "<lambda>" qual lamP.1 lamP.2.1 lamP.2.2.1 (cloL L) pm c' ctv) ∈ T) (hc : (c', oc) ∈ T) (hd : oc.data = .fields vs) (hq : vs[1]? = some (.str qual t))
    (h1 : ow.data = .cell (some (.ref 589))) (h2 : orr.data = .cell (some (.ref R.rr))) (h3 : om.data = .cell (some (.ref (Q.P.a 0)))) (hF : R.oF.IsDictOf (strKind PG G.w) [(Str.ofString "A", .ref (Q.P.a 7)), (Str.ofString "I", .ref ai)])
    (hD : Dis (Q.lam R L ow orr om (.ref 589) tx ta T)) (hap : CAp (Q.lam R L ow orr om (.ref 589) tx ta T)) (h20 : Q.its.length = 20) (m5 : Q.P.many ≤ 5) (hx : 0 ≤ Q.x ∧ Q.x ≤ 800) (hy : 0 ≤ Q.P.y ∧ Q.P.y ≤ 900) (hr : PutAt Q.T0 Q.zs Q.rs) (hzs : Q.zs.length = Q.P.many) :
    CT G 440 880 f [] (led (Q.lam R L ow orr om (.ref 589) tx ta T)) [Q.P.a 1, Q.P.a 6, Q.pid] Q.post (Q.rais ta) := by
  refine CT.lam HG 20 _ (fun _ => Iff.rfl) (tl_mem hf) (tl_mem hc) hd hq (by decide) rfl rfl rfl rfl (by decide) rfl rfl rfl hD (cells3 h1 h2 h3 rfl rfl) hap cells_nd ?_
  intro c frames base Y O t1
  refine x_ditem (.r 7) (a := R.fr) (o := R.oF) (knd := strKind c.prog c.w) (key := Str.ofString "A") (kvs := [(Str.ofString "A", .ref (Q.P.a 7)), (Str.ofString "I", .ref ai)]) rfl (fun hl => mem_led (i := 17) hl rfl) (by rw [Y.prog, Y.hw]; exact hF) (strKind_is _ _ _ _) rfl rfl ?_
  intro vl
  refine Do.use Y (fun hl D => c_takeall Y.HG { Q with vl := vl, nv := 0 } tx ta ?_) [1, 6, 13] rfl rfl (fun hl => ?_) rfl rfl ?_ ?_ rfl
  · have dn := fun (i j : Nat) {a b : Addr} hi ha hb hj => dis_at (a := a) (b := b) D i j hi ha hb hj
    exact ⟨⟨dn 1 0 rfl rfl rfl rfl, dn 1 2 rfl rfl rfl rfl, dn 1 3 rfl rfl rfl rfl, dn 1 4 rfl rfl rfl rfl, dn 1 5 rfl rfl rfl rfl, dn 1 6 rfl rfl rfl rfl, dn 1 7 rfl rfl rfl rfl, dn 1 8 rfl rfl rfl rfl, dn 1 9 rfl rfl rfl rfl⟩,
      ⟨dn 13 0 rfl rfl rfl rfl, dn 13 2 rfl rfl rfl rfl, dn 13 3 rfl rfl rfl rfl, dn 13 4 rfl rfl rfl rfl, dn 13 5 rfl rfl rfl rfl, dn 13 6 rfl rfl rfl rfl, dn 13 7 rfl rfl rfl rfl, dn 13 8 rfl rfl rfl rfl, dn 13 9 rfl rfl rfl rfl⟩,
      ⟨dn 6 0 rfl rfl rfl rfl, dn 6 2 rfl rfl rfl rfl, dn 6 3 rfl rfl rfl rfl, dn 6 4 rfl rfl rfl rfl, dn 6 5 rfl rfl rfl rfl, dn 6 7 rfl rfl rfl rfl, dn 6 8 rfl rfl rfl rfl, dn 6 9 rfl rfl rfl rfl⟩,
      ⟨dn 1 10 rfl rfl rfl rfl, dn 1 11 rfl rfl rfl rfl, dn 1 12 rfl rfl rfl rfl, dn 1 13 rfl rfl rfl rfl, dn 1 14 rfl rfl rfl rfl, dn 1 18 rfl rfl rfl rfl⟩,
      ⟨dn 13 10 rfl rfl rfl rfl, dn 13 11 rfl rfl rfl rfl, dn 13 12 rfl rfl rfl rfl, dn 13 14 rfl rfl rfl rfl, dn 13 18 rfl rfl rfl rfl⟩,
      ⟨dn 6 10 rfl rfl rfl rfl, dn 6 11 rfl rfl rfl rfl, dn 6 12 rfl rfl rfl rfl, dn 6 13 rfl rfl rfl rfl, dn 6 14 rfl rfl rfl rfl, dn 6 18 rfl rfl rfl rfl⟩,
      NeAll.of fun p hp => (D 1 _ (List.Mem.tail _ (List.Mem.head _)) rfl).2 p (mR _ (hT p hp)), NeAll.of fun p hp => (D 13 _ (List.Mem.tail _ (List.Mem.tail _ (List.Mem.tail _ (List.Mem.head _)))) rfl).2 p (mR _ (hT p hp)), NeAll.of fun p hp => (D 6 _ (List.Mem.tail _ (List.Mem.tail _ (List.Mem.head _))) rfl).2 p (mR _ (hT p hp)), h20, m5, hx, hy, hr, hzs⟩
  · exact all_cons (mem_led (i := 0) hl rfl) (all_cons (mem_led (i := 1) hl rfl) (all_cons (mem_led (i := 2) hl rfl) (all_cons (mem_led (i := 3) hl rfl) (all_cons (mem_led (i := 4) hl rfl) (all_cons (mem_led (i := 5) hl rfl) (all_cons (mem_led (i := 6) hl rfl) (all_cons (mem_led (i := 7) hl rfl) (all_cons (mem_led (i := 8) hl rfl) (all_cons (mem_led (i := 9) hl rfl) (all_cons (mem_led (i := 10) hl rfl) (all_cons (mem_led (i := 11) hl rfl) (all_cons (mem_led (i := 12) hl rfl) (all_cons (mem_led (i := 13) hl rfl) (all_cons (mem_led (i := 14) hl rfl) (all_cons (mem_led (i := 18) hl rfl) fun q hq => tl_mem (hT q hq))))))))))))))))
  · rintro v out ⟨its', tl, u1, u2, u3, hle, h20', hcl, hne⟩ hn D hl A
    have n3 := off3_of (st := { Q with vl := vl, nv := 0 }.st0 [] tx ta) 1 6 13 rfl rfl rfl rfl hne
    have n4 : ∀ p ∈ tl, NeAll p.1 _ := fun p hp => (hn p (mC _ (mC _ (mC _ hp)))).resolve_left (n3 p hp)
    refine ⟨.v (.int (-1) u3), _, rfl, Next.sets [1, 6, 13] (Q.P.grd (.r 10) (Q.x + Q.P.many) u1 its' Q.n ++ [.lst [.ref Q.tt] Q.ntr, .tup [.r 12, .v Q.e1, .v Q.e2, .v .none], .inst 710 13, inE Q.q5 Q.t5 (.r 14) Q.P.many u2, .lst Q.rs Q.nr, .inst 370 16, R.run 4 17, .raw R.oF, .lst [.ref (Q.P.a 7)] 0]) tl hl rfl D A rfl rfl (all_cons (List.Mem.head _) (all_cons (List.Mem.tail _ (List.Mem.head _)) (all_cons (List.Mem.tail _ (List.Mem.tail _ (List.Mem.head _))) all_nil))) (fun p hp => ⟨mC _ (mC _ (mC _ hp)), n4 p hp⟩) rfl, ?_⟩
    refine EndX.outF [1, 6, 13] [1, 6, 13] [vl] tl rfl rfl (fun p hp => ?_) rfl rfl rfl rfl rfl rfl (fun _ p hp => ⟨mR _ (mL _ hp), .inr fun x hx => (n4 p hp).all x ?_⟩) fun D => ⟨its', tl, u1, u2, u3, hle, h20', hcl, n3⟩
    · exact (mA hp).elim (mL _) fun h => mR _ (mR _ h)
    · exact led_sub (st := Q.lam R L ow orr om (.ref 589) tx ta T) (st' := (Q.lam R L ow orr om (.ref 589) tx ta T).add vl (.lst [.ref (Q.P.a 7)] 0)) [vl] [.lst [.ref (Q.P.a 7)] 0] rfl rfl (fun p hp => hp) rfl rfl x hx
  · rintro k out rest ⟨hb, rfl, u1, rfl⟩ D g1 g2
    refine ROwes.pass (fun q hq => g1 q (led_sub (st := Q.lam R L ow orr om (.ref 589) tx ta T) (st' := (Q.lam R L ow orr om (.ref 589) tx ta T).add vl (.lst [.ref (Q.P.a 7)] 0)) [vl] [.lst [.ref (Q.P.a 7)] 0] rfl rfl (fun p hp => hp) rfl rfl q hq)) (all_cons (List.Mem.head _) (all_cons (List.Mem.tail _ (List.Mem.head _)) (all_cons (List.Mem.tail _ (List.Mem.tail _ (List.Mem.head _))) all_nil))) (all_cons (List.Mem.head _) (all_cons (List.Mem.tail _ (List.Mem.head _)) (all_cons (List.Mem.tail _ (List.Mem.tail _ (List.Mem.head _))) all_nil))) ⟨hb, rfl, u1, rfl⟩
end
end
section
noncomputable def reps : Nat → Nat → List Int
  | 0, _ => []
  | i + 1, m => reps i m ++ zsF 40 m
theorem reps_len {i m : Nat} : (reps i m).length = i * m := by
  induction i with
  | zero => simp [reps]
  | succ i ih => rw [reps, List.length_append, ih, zsF_len, Nat.succ_mul]
def TabL (cq : Str) (i : Nat) (ps : Array Value) (T : List (Addr × Obj)) : Prop :=
  (i = 0 ∧ ps = #[]) ∨ ∃ c' oc vs t, ps = #[rawInt 558, rawInt 22, .ref c'] ∧ (c', oc) ∈ T ∧ oc.data = .fields vs ∧ vs[1]? = some (.str cq t)
theorem TabL.mono {cq : Str} {i j : Nat} {ps : Array Value} {T T' : List (Addr × Obj)} (h : TabL cq i ps T) (hT : ∀ p ∈ T, p ∈ T') (hi : i = 0 → j = 0) : TabL cq j ps T' := by
  rcases h with ⟨a, b⟩ | ⟨c', oc, vs, t, a, b, c, d⟩
  · exact .inl ⟨hi a, b⟩
  · exact .inr ⟨c', oc, vs, t, a, hT _ b, c, d⟩
theorem set_same {α : Type} : ∀ {l : List α} {i : Nat} {a : α}, l[i]? = some a → l.set i a = l
  | b :: l, 0, a, h => by cases h; rfl
  | b :: l, i + 1, a, h => by rw [List.set_cons_succ, set_same (l := l) (i := i) h]
  | [], _, _, h => by simp at h
structure LawX (G : GR) (c : XC) (base : Heap) (L : Addr) : Prop where
  h0 : c.pin = 0
  hfe : c.fe = c.env
  hL : c.L = L
  Y : Uses G c [] base 310 100 (fun _ _ => False)
  O : c.Ok xtL
  HX : GrX G.K
  HY : GrY G.K
  hC : CodeHd c.h₀ 744 742
  env : ∃ cn a, c.env = envX cn fd_745.scope L a (.ref 744) (cellsFrom (L + 1) fd_745.scope.names [])
theorem x_lamT {G : GR} {c : XC} {base : Heap} {L : Addr} (V : LawX G c base L) {st : XS} {K : RV → XS → Prop} {ps : Array Value} {i j : Nat} (hi : st.ob[i]? = some (.raw (tabObj ps))) (hρ : st.ρ[i]? = some 742) (hm : st.mu.contains i = true) (hw : st.wf = true) (tab : TabL (c.env.qual ++ "<lambda>") j ps st.tl)
    (k : ∀ f c' oc vs t pm ctv T', (c', oc) ∈ T' → oc.data = .fields vs → vs[1]? = some (.str (c.env.qual ++ "<lambda>") t) → (∀ p ∈ st.tl, p ∈ T') → K (.r st.ob.length) ⟨st.ρ ++ [f], st.fr, st.ob.set i (.raw (tabObj #[rawInt 558, rawInt 22, .ref c'])) ++ [.raw (kla_obj "<lambda>" (c.env.qual ++ "<lambda>") lamP.1 lamP.2.1 lamP.2.2.1 (cloL L) pm c' ctv)], T', st.ob.length :: st.mu, st.ce, st.fo⟩) :
    Do c (eval (.Lambda lamP.1 lamP.2.1 lamP.2.2.1 lamP.2.2.2) c.env) st K := by
  obtain ⟨cn, a, henv⟩ := V.env
  have henv' : c.env = envX cn fd_745.scope c.L a (.ref 744) (cellsFrom (L + 1) fd_745.scope.names []) := by rw [V.hL]; exact henv
  have hT : ∃ p loose mean mg mb, Top p loose mean mg mb c.h₀ := by
    obtain ⟨A₀, B⟩ := V.Y.B
    obtain ⟨mean, mg, mb, Ok⟩ := V.Y.Ok
    exact ⟨_, _, _, _, _, Ok.T.keeps B.stays⟩
  have hdef : defaultsOf lamP.1 c.env = ([], []) := rfl
  have hclos : closureFor lamP.2.2.1 c.env = pure (cloL L) := by
    rw [henv]
    exact clos_is (fun p hp hf => by
      rcases mK hp with rfl | hp
      · exact ⟨_, rfl⟩
      · rcases mK hp with rfl | hp
        · exact ⟨_, rfl⟩
        · cases mG hp; exact ⟨_, rfl⟩)
  rcases tab with ⟨_, rfl⟩ | ⟨c', oc, vs, t, rfl, h1, h2, h3⟩
  · refine x_lam henv' V.hC hT hdef hclos hi hρ hm trivial rfl hw fun f c' oc vs t pm ctv h1 h2 => ?_
    have := k f c' oc vs t pm ctv ((c', oc) :: st.tl) (List.Mem.head _) h1 h2 fun p hp => mC _ hp
    refine Eq.mp (congrArg (K _) ?_) this
    show XS.mk _ _ _ _ _ _ _ = XS.mk _ _ _ _ ((st.ob.set i _).length :: st.mu) _ _
    rw [List.length_set]
    rfl
  · refine x_lam2 (c' := c') henv' V.hC hT hdef hclos hi hρ (by simp [TriplesOk, rawInt]) rfl hw fun f pm ctv => ?_
    have := k f c' oc vs t pm ctv st.tl h1 h2 h3 fun p hp => hp
    rw [set_same hi] at this
    exact this
structure Sel (st st3 : XS) : Prop where
  dis : Dis st → Dis st3
  ap : CAp st → CAp st3
  led : ∀ q ∈ led st3, q ∈ led st
theorem Sel.of {st st3 : XS} (js : List Nat) (hl : st.ρ.length = st.ob.length) (h1 : st3.ρ = js.map fun j => st.ρ.getD j 0) (h2 : st3.ob.map (RO.den st3.ρ) = js.map fun j => (st.ob.getD j (.raw default)).den st.ρ) (hj : js.all (fun j => Nat.blt j st.ob.length) = true) (hn : js.Nodup)
    (hm : st3.mu.all (fun i => match js[i]? with
      | some j => st.mu.contains j
      | none => false) = true) (hc : ∀ e ∈ st3.ce, ∃ e' ∈ st.ce, e'.a = e.a ∧ e'.o = e.o)
    (ht : ∀ p ∈ st3.tl, p ∈ st.tl ∨ ∃ j, js.contains j = false ∧ j < st.ob.length ∧ p = (st.ρ.getD j 0, (st.ob.getD j (.raw default)).den st.ρ)) : Sel st st3 := by
  have obj : ∀ j, j < st.ob.length → st.ρ[j]? = some (st.ρ.getD j 0) ∧ st.ob[j]? = some (st.ob.getD j (.raw default)) := fun j hj => ⟨getD_at (hl ▸ hj), by rw [List.getD_eq_getElem?_getD, List.getElem?_eq_getElem hj]; rfl⟩
  have at3 : ∀ {i : Nat} {a : Addr}, st3.ρ[i]? = some a → ∃ j, js[i]? = some j ∧ j < st.ob.length ∧ st.ρ[j]? = some a := fun {i a} e => by
    rw [h1, List.getElem?_map] at e
    cases hji : js[i]? with
    | none => rw [hji] at e; cases e
    | some j =>
      rw [hji] at e
      have hlt : j < st.ob.length := Nat.le_of_ble_eq_true (aT hj j (List.mem_of_getElem? hji))
      exact ⟨j, rfl, hlt, by rw [(obj j hlt).1]; exact e⟩
  have tl1 : ∀ p ∈ st3.tlc, p ∈ st.tlc ∨ ∃ j, js.contains j = false ∧ j < st.ob.length ∧ p = (st.ρ.getD j 0, (st.ob.getD j (.raw default)).den st.ρ) := fun p hp => by
    rcases mA hp with hp | hp
    · obtain ⟨e, he, rfl⟩ := mM hp
      obtain ⟨e', he', g1, g2⟩ := hc e he
      exact .inl (mL _ (List.mem_map.mpr ⟨e', he', by rw [g1, g2]⟩))
    · exact (ht p hp).imp (mR _) id
  refine ⟨fun D i a hi ha => ?_, fun A e he => ?_, fun q hq => ?_⟩
  · have hi' := aT hm i hi
    obtain ⟨j, e1, e2, e3⟩ := at3 ha
    rw [e1] at hi'
    obtain ⟨d1, d2⟩ := D j a (by simpa using hi') e3
    refine ⟨fun i' b hb hne => ?_, fun p hp => ?_⟩
    · obtain ⟨j', f1, _, f3⟩ := at3 hb
      exact d1 j' b f3 fun e => hne (nodup_at hn (e ▸ f1) e1)
    · rcases tl1 p hp with h | ⟨j', hj', hjl, rfl⟩
      · exact d2 p h
      · refine d1 j' _ (obj j' hjl).1 fun e => ?_
        subst e
        have := List.mem_of_getElem? e1
        simp at hj'
        exact hj' this
  · obtain ⟨e', he', g1, _⟩ := hc e he
    obtain ⟨a1, a2⟩ := A e' he'
    rw [g1] at a1 a2
    refine ⟨fun j b hb => ?_, fun p hp => ?_⟩
    · obtain ⟨j', _, _, f3⟩ := at3 hb
      exact a1 j' b f3
    · rcases ht p hp with h | ⟨j', _, hjl, rfl⟩
      · exact a2 p h
      · exact a1 j' _ (obj j' hjl).1
  · rcases led_at hq with ⟨i, o, g1, g2, g3⟩ | h
    · obtain ⟨j, e1, e2, e3⟩ := at3 g1
      have e4 : (st3.ob.map (RO.den st3.ρ))[i]? = some (o.den st3.ρ) := by rw [List.getElem?_map, g2]; rfl
      rw [h2, List.getElem?_map, e1] at e4
      have := led_of e3 (obj j e2).2
      rw [show (st.ob.getD j (.raw default)).den st.ρ = o.den st3.ρ from Option.some.inj e4, ← g3] at this
      exact this
    · rcases tl1 q h with h | ⟨j, _, hjl, rfl⟩
      · exact mR _ h
      · exact led_of (obj j hjl).1 (obj j hjl).2
structure TP where
  M : MP
  R : LP
  (tr tt ox od oi du ti pls ai : Addr)
  (e1 e2 : Value)
  qo : Nat → Int
  to : Nat → Tok
  pv : List Value
  (np ntr : Nat)
  tm : Tok
noncomputable abbrev ceT (L : Addr) (o : Nat → Obj) (vw : Option RV) : List CE := ceL L o (some (.r 4)) none (some (.r 0)) (some (.r 17)) vw
noncomputable def vwOf : Nat → Option RV
  | 0 => none
  | _ + 1 => some (.v (.ref 575))
namespace TP
variable (Q : TP)
noncomputable abbrev rho : List Addr := [Q.M.a 0, Q.M.a 1, Q.M.a 2, Q.M.a 3, Q.M.a 4, Q.M.a 5, Q.M.a 6, Q.M.a 7, Q.M.a 8, Q.M.a 9, Q.tr, Q.tt, Q.ox, Q.od, Q.oi, Q.du, Q.ti, Q.R.rr, Q.R.rd, Q.R.fr, Q.pls]
noncomputable abbrev fr (g : Int) (tg : Tok) : List (Str × RV) := [(Str.ofString "many", .v (.int Q.M.many Q.tm)), (Str.ofString "most", .v (.int Q.M.y (Q.M.t 1 8))), (Str.ofString "gone", .v (.int g tg)), (Str.ofString "places", .r 20), (Str.ofString "out", .r 12), (Str.ofString "due", .r 15)]
noncomputable abbrev obT (tr : RV) (x : Int) (tx : Tok) (z : Int) (tz : Tok) (its : List Value) (n : Nat) (wl : List Value) (nw : Nat) (dv : List Value) (nd : Nat) (ps : Array Value) : List RO :=
  Q.M.grd tr x tx its n ++ [.lst [.ref Q.tt] Q.ntr, .tup [.r 12, .v Q.e1, .v Q.e2, .v .none], .inst 675 13, outE Q.qo Q.to (.r 14) z tz, .lst wl nw, .lst dv nd, .raw (tabObj ps), .inst 370 18, Q.R.run 4 19, .raw Q.R.oF, .lst Q.pv Q.np]
noncomputable abbrev ob (x : Int) (tx : Tok) (z : Int) (tz : Tok) (its : List Value) (n : Nat) (wl : List Value) (nw : Nat) (dv : List Value) (nd : Nat) (ps : Array Value) : List RO := Q.obT (.r 10) x tx z tz its n wl nw dv nd ps
noncomputable abbrev st (g : Int) (tg : Tok) (x : Int) (tx : Tok) (z : Int) (tz : Tok) (its : List Value) (n : Nat) (wl : List Value) (nw : Nat) (dv : List Value) (nd : Nat) (ps : Array Value) (ce : List CE) (T : List (Addr × Obj)) (fo : Str → Option Value) : XS :=
  ⟨Q.rho, Q.fr g tg, Q.ob x tx z tz its n wl nw dv nd ps, T, [1, 6, 13, 14, 15, 16], ce, fo⟩
noncomputable def stH (tr' : Addr) (g : Int) (tg : Tok) (x : Int) (tx : Tok) (z : Int) (tz : Tok) (its : List Value) (n : Nat) (wl : List Value) (nw : Nat) (dv : List Value) (nd : Nat) (ps : Array Value) (L : Addr) (o : Nat → Obj) (vw : Value) (T : List (Addr × Obj)) (fo : Str → Option Value) : XS :=
  ⟨[Q.ti, Q.M.a 4, Q.M.a 5, Q.M.a 6, Q.M.a 0, Q.M.a 1, Q.ox, Q.od, Q.oi, Q.du, Q.pls], [(Str.ofString "many", .v (.int Q.M.many Q.tm)), (Str.ofString "most", .v (.int Q.M.y (Q.M.t 1 8))), (Str.ofString "gone", .v (.int g tg)), (Str.ofString "places", .r 10), (Str.ofString "out", .r 6), (Str.ofString "due", .r 9)],
    [.raw (tabObj ps), .inst 253 2, memE (Q.M.q 2) (Q.M.t 2) (.r 3) Q.M.ch, .lst its n, .inst 628 5, machE (Q.M.q 0) (Q.M.t 0) (Q.M.u 0) (.r 1) (.v (.ref (Q.M.a 2))) (.v (.ref tr')) x tx, .inst 675 7, outE Q.qo Q.to (.r 8) z tz, .lst wl nw, .lst dv nd, .lst Q.pv Q.np], T, [], ceL L o (some (.r 1)) none (some (.r 4)) (some (.v (.ref Q.R.rr))) (some (.v vw)), fo⟩
noncomputable abbrev qp (its ws : List Value) (n : Nat) (x z : Int) (T : List (Addr × Obj)) : QP := ⟨Q.M, Q.tr, Q.tt, Q.ox, Q.od, Q.oi, 0, Q.e1, Q.e2, Q.qo, Q.to, its, ws, zsF 40 Q.M.many, n, Q.ntr, 0, x, z, T⟩
structure Ok (w : World) (T0 : List (Addr × Obj)) : Prop where
  ti : Q.ti = 742
  m5 : Q.M.many ≤ 5
  y : 1 ≤ Q.M.y ∧ Q.M.y ≤ 50
  hF : Q.R.oF.IsDictOf (strKind PG w) [(Str.ofString "A", .ref (Q.M.a 7)), (Str.ofString "I", .ref Q.ai)]
  pvl : Q.pv.length = Q.M.many
  pv : ∀ (i : Nat) v, Q.pv[i]? = some v → IsPlace T0 (3 + (i : Int)) v
inductive J (cq : Str) (T0 : List (Addr × Obj)) (L : Addr) (g0 : Int) (i : Nat) (st : XS) : Prop
  | mk (its : List Value) (n : Nat) (wl : List Value) (nw : Nat) (dv : List Value) (nd : Nat) (ps : Array Value) (tg tx tz : Tok) (o : Nat → Obj) (T : List (Addr × Obj)) (fo : Str → Option Value) (hs : st = Q.st (g0 + (i : Int) * Q.M.many) tg (g0 + (i : Int) * Q.M.many) tx ((i : Int) * Q.M.many) tz its n wl nw dv nd ps (ceT L o (vwOf i)) T fo)
    (hT : ∀ p ∈ T0, p ∈ T) (h20 : its.length = 20) (hc : CellsAt T its (zsF 40 Q.M.many)) (hw : PutAt T (reps i Q.M.many) wl) (hd : PutAt T (reps i Q.M.many) dv) (tab : TabL cq i ps T)
theorem J.of {Q : TP} {cq : Str} {T0 : List (Addr × Obj)} {L : Addr} {g0 : Int} {i : Nat} {g z : Int} {its : List Value} {n : Nat} {wl : List Value} {nw : Nat} {dv : List Value} {nd : Nat} {ps : Array Value} {tg tx tz : Tok} {o : Nat → Obj} {T : List (Addr × Obj)} {fo : Str → Option Value} (hg : g0 + (i : Int) * Q.M.many = g) (hz : (i : Int) * Q.M.many = z)
    (h1 : ∀ p ∈ T0, p ∈ T) (h2 : its.length = 20) (h3 : CellsAt T its (zsF 40 Q.M.many)) (h4 : PutAt T (reps i Q.M.many) wl) (h5 : PutAt T (reps i Q.M.many) dv) (h6 : TabL cq i ps T) : Q.J cq T0 L g0 i (Q.st g tg g tx z tz its n wl nw dv nd ps (ceT L o (vwOf i)) T fo) := by
  subst hg hz
  exact ⟨its, n, wl, nw, dv, nd, ps, tg, tx, tz, o, T, fo, rfl, h1, h2, h3, h4, h5, h6⟩
inductive H (T0 : List (Addr × Obj)) (gf : Int) (zs : List Int) (its wl dv : List Value) (T : List (Addr × Obj)) : Prop
  | mk (hT : ∀ p ∈ T0, p ∈ T) (h20 : its.length = 20) (hc : CellsAt T its (zsF (if gf ≤ Q.M.y then 70 else 40) Q.M.many)) (hw : PutAt T zs wl) (hd : PutAt T zs dv) (hz : zs.length ≤ 10)
end TP
end
section
def PutR (b : Int) (led : List (Addr × Obj)) (i : Nat) (v : Value) : Prop := ∃ p t t', v = .ref p ∧ (p, tupO #[.int 0 t, .int (b + (i : Int)) t']) ∈ led
theorem put_tag (b : Int) : CompTag (PutR b) := ⟨fun _ _ _ _ h ⟨p, t, t', x1, x2⟩ => ⟨p, t, t', x1, h _ x2⟩⟩
theorem PutR.at {b : Int} {m : Nat} {T ys} (h : AllAt (PutR b) T ys) (hl : ys.length = m) : PutAt T (zsF b m) ys := ⟨by rw [zsF_len, hl], fun i z v hz hv => by
  have hi : i < m := by
    have := (gS hz).1
    rwa [zsF_len] at this
  rw [zsF_get hi] at hz
  cases hz
  exact h i v hv⟩
section
variable {G : GR} {c : XC} {base : Heap} {L : Addr}
set_option tactic.hygienic true in
theorem turn_put (V : LawX G c base L) (Q : TP) (T0 : List (Addr × Obj)) (hQ : Q.Ok G.w T0) (g0 : Int) (hg0 : 0 ≤ g0 ∧ g0 ≤ 2) (i : Nat) (hi : i < 2) (I : Addr) (oI : Obj) (tv : Tok) (a21 : Addr)
    (its : List Value) (n : Nat) (wl : List Value) (nw : Nat) (dv : List Value) (nd : Nat) (ps : Array Value) (tg tx tz : Tok) (o : Nat → Obj) (T : List (Addr × Obj)) (fo : Str → Option Value)
    (hT : ∀ p ∈ T0, p ∈ T) (h20 : its.length = 20) (hc : CellsAt T its (zsF 40 Q.M.many)) (hw : PutAt T (reps i Q.M.many) wl) (hd : PutAt T (reps i Q.M.many) dv) (tab : TabL (c.env.qual ++ "<lambda>") i ps T)
    (rest : List Stmt) (TT : RF → XS → Prop) (hK : ∀ st1 : XS, EvF c (execs rest c.env) st1.pop LawEnd → TT .brk st1) (hinv : ∀ st2 : XS, Tn st2.pop (Q.J (c.env.qual ++ "<lambda>") T0 L g0 (i + 1)) → TT .next st2)
    (k : ∀ tr' gf tg' tx' z tz' zs its' n' wl' nw' dv' nd' ps' o' vw' T' fo', Q.H T0 gf zs its' wl' dv' T' → EvF c (execs rest c.env) (Q.stH tr' gf tg' gf tx' z tz' its' n' wl' nw' dv' nd' ps' L o' vw' T' fo') LawEnd) :
    exS xtL c 38 (turnB.drop 2) ⟨Q.rho ++ [a21], (Str.ofString "turn", .v (.int (0 + (i : Int)) tv)) :: Q.fr (g0 + (i : Int) * Q.M.many) tg, Q.ob (g0 + (i : Int) * Q.M.many) tx ((i : Int) * Q.M.many) tz its n wl nw dv nd ps ++ [.tup [.v (.ref 575), .v (.ref 575), .v (.ref 589)]], T, [21, 1, 6, 13, 14, 15, 16], ⟨"", I, oI, none, false, false⟩ :: ceT L o (some (.v (.ref 575))), fo⟩ TT := by
  have h0 := V.h0
  have Y := V.Y
  have O := V.O
  have hm5 := hQ.m5
  have hy := hQ.y
  have him : 0 ≤ (i : Int) * (Q.M.many : Int) ∧ (i : Int) * (Q.M.many : Int) ≤ 5 := by
    rcases (by lia : i = 0 ∨ i = 1) with e | e <;> subst e <;> simp <;> lia
  have hsucc : ((i + 1 : Nat) : Int) * (Q.M.many : Int) = (i : Int) * (Q.M.many : Int) + Q.M.many := by
    rw [show ((i + 1 : Nat) : Int) = (i : Int) + 1 by lia, Int.add_mul, Int.one_mul]
  generalize hxi : (i : Int) * (Q.M.many : Int) = xi at him hsucc ⊢
  have hwl : wl.length ≤ 5 := by
    rw [hw.1, reps_len]
    rcases (by lia : i = 0 ∨ i = 1) with e | e <;> subst e <;> simp <;> lia
  have hdl : dv.length ≤ 5 := by rw [hd.1, ← hw.1]; exact hwl
  intro t1
  refine x_lamT V (i := 16) (j := i) rfl (by show some Q.ti = _; rw [hQ.ti]) rfl rfl tab fun f c' oc vs t pm ctv T' k1 k2 k3 k4 => ?_
  change DoC c (.ref 740) [.r 22, .v (.int Q.M.y (Q.M.t 1 8))] ⟨Q.rho ++ [a21, f], (Str.ofString "gone", .v (.int (g0 + xi + Q.M.many) t1)) :: (Str.ofString "turn", .v (.int (0 + (i : Int)) tv)) :: Q.fr (g0 + xi) tg, Q.ob (g0 + xi) tx xi tz its n wl nw dv nd #[rawInt 558, rawInt 22, .ref c'] ++ [.tup [.v (.ref 575), .v (.ref 575), .v (.ref 589)], .raw (kla_obj "<lambda>" (c.env.qual ++ "<lambda>") lamP.1 lamP.2.1 lamP.2.2.1 (cloL L) pm c' ctv)], T', [22, 21, 1, 6, 13, 14, 15, 16], ⟨"", I, oI, none, false, false⟩ :: ceT L o (some (.v (.ref 575))), fo⟩ _
  let QQ := Q.qp its wl n (g0 + xi) xi T'
  let stL := QQ.lam Q.R L (o 0) (o 1) (o 2) (.ref 575) tx tz nw ((f, kla_obj "<lambda>" (c.env.qual ++ "<lambda>") lamP.1 lamP.2.1 lamP.2.2.1 (cloL L) pm c' ctv) :: T')
  have sel : Sel _ stL := Sel.of (st := ⟨Q.rho ++ [a21, f], (Str.ofString "gone", .v (.int (g0 + xi + Q.M.many) t1)) :: (Str.ofString "turn", .v (.int (0 + (i : Int)) tv)) :: Q.fr (g0 + xi) tg, Q.ob (g0 + xi) tx xi tz its n wl nw dv nd #[rawInt 558, rawInt 22, .ref c'] ++ [.tup [.v (.ref 575), .v (.ref 575), .v (.ref 589)], .raw (kla_obj "<lambda>" (c.env.qual ++ "<lambda>") lamP.1 lamP.2.1 lamP.2.2.1 (cloL L) pm c' ctv)], T', [22, 21, 1, 6, 13, 14, 15, 16], ⟨"", I, oI, none, false, false⟩ :: ceT L o (some (.v (.ref 575))), fo⟩) [0, 1, 2, 3, 4, 5, 6, 7, 8, 9, 10, 11, 12, 13, 14, 17, 18, 19] rfl rfl rfl rfl (by decide) rfl
    (all_cons ⟨_, List.Mem.tail _ (List.Mem.head _), rfl, rfl⟩ (all_cons ⟨_, List.Mem.tail _ (List.Mem.tail _ (List.Mem.head _)), rfl, rfl⟩ (all_cons ⟨_, List.Mem.tail _ (List.Mem.tail _ (List.Mem.tail _ (List.Mem.head _))), rfl, rfl⟩ all_nil)))
    (all_cons (.inr ⟨22, rfl, Nat.le_of_ble_eq_true rfl, rfl⟩) fun p hp => .inl hp)
  refine Do.useH Y (fun hl D A Cd => c_heard Y.HG V.HX f (led stL) [Q.M.a 1, Q.od, Q.oi] QQ.post (QQ.rais tz nw) Q.M.y (Q.M.t 1 8) (tl_mem (st := stL) (List.Mem.head _)) (lam_put Y.HG QQ Q.R L f c' Q.ai (o 0) (o 1) (o 2) oc vs (c.env.qual ++ "<lambda>") t tx tz pm ctv nw _ (fun p hp => mC _ hp) (List.Mem.head _) (mC _ k1) k2 k3 (Cd _ (List.Mem.tail _ (List.Mem.head _)) rfl rfl) (Cd _ (List.Mem.tail _ (List.Mem.tail _ (List.Mem.head _))) rfl rfl) (Cd _ (List.Mem.tail _ (List.Mem.tail _ (List.Mem.tail _ (List.Mem.head _)))) rfl rfl) hQ.hF (sel.dis D) (sel.ap A) h20 hm5 (by show 0 ≤ g0 + xi ∧ g0 + xi ≤ 800; lia) (by show 0 ≤ Q.M.y ∧ Q.M.y ≤ 900; lia) (by show 0 ≤ xi ∧ xi ≤ 100; lia) (by show wl.length ≤ 100; lia) (hc.mono k4) zsF_len) ?_ ?_ ?_) [1, 13, 14] rfl rfl (fun hl q hq => sel.led q hq) rfl rfl ?_ rfl
  · exact all_cons (led_adr (st := stL) (j := 1) rfl rfl) (all_cons (led_adr (st := stL) (j := 13) rfl rfl) (all_cons (led_adr (st := stL) (j := 14) rfl rfl) all_nil))
  · rintro v out ⟨us, tl, u1, u2, u3, nw', _, _, _⟩
    exact ⟨u3, rfl⟩
  · rintro k out ⟨_, rfl, u1, rfl⟩
    exact ⟨rfl, all_cons (List.Mem.head _) (all_cons (List.Mem.tail _ (List.Mem.head _)) (all_cons (List.Mem.tail _ (List.Mem.tail _ (List.Mem.head _))) all_nil))⟩
  · rintro r out hp hn D hl A
    rcases hp with ⟨rfl, v, us, tl, u1, u2, u3, nw', hle, hput, hne⟩ | ⟨rfl, hgt, -, u1, rfl⟩
    · have hle : g0 + xi + Q.M.many ≤ Q.M.y := hle
      have n4 : ∀ p ∈ tl, NeAll p.1 _ := fun p hp => (hn p (mC _ (mC _ (mC _ hp)))).resolve_left (hne p hp)
      refine ⟨.v (.bool true), _, rfl, Next.sets [1, 13, 14] (Q.ob (g0 + xi + Q.M.many) u1 (xi + Q.M.many) u2 its n (wl ++ us) nw' dv nd #[rawInt 558, rawInt 22, .ref c'] ++ [.tup [.v (.ref 575), .v (.ref 575), .v (.ref 589)], .raw (kla_obj "<lambda>" (c.env.qual ++ "<lambda>") lamP.1 lamP.2.1 lamP.2.2.1 (cloL L) pm c' ctv)]) tl hl rfl D A rfl rfl (all_cons (List.Mem.head _) (all_cons (List.Mem.tail _ (List.Mem.head _)) (all_cons (List.Mem.tail _ (List.Mem.tail _ (List.Mem.head _))) all_nil))) (fun p hp => ⟨mC _ (mC _ (mC _ hp)), n4 p hp⟩) rfl, ?_⟩
      refine x_neBool ?_
      refine iff' (by rw [decide_eq_true hle]; rfl) ?_
      refine iff' (decide_eq_false (by lia)) ?_
      intro t2
      refine ift (decide_eq_true (by lia)) ?_
      refine Do.comp O (PutR 40) (put_tag 40) 40 40 rfl rfl rfl rfl ?_
      refine x_range rfl fun r t8 t9 => ?_
      refine ⟨rfl, rfl, rfl, 23, Q.M.many, _, rfl, .rng 0 Q.M.many _ _ _ rfl (small_one (by decide) (by decide) (by lia) (by lia)) ((rangeSize_nat 0 Q.M.many).trans (by lia)) (by lia) rfl, fun c' C oC I oI D ys tl i w _ O' hi hw hl hA hn => ?_, fun D ys tl3 hl hA h1 h2 h3 => ?_⟩
      · obtain ⟨tw, rfl⟩ := hw
        intro a1 a2 a3 p
        refine ⟨⟨rfl, rfl, rfl, rfl⟩, rfl, ?_⟩
        refine ⟨p, a1, a3, rfl, ?_⟩
        rw [show (40 + (i : Int)) = 40 + (0 + (i : Int)) by lia]
        exact List.Mem.head _
      · refine x_iadd (i := 15) (j := 24) rfl rfl rfl (by lia) ?_
        refine hinv _ ⟨_, Weak.go (st3 := Q.st (g0 + xi + Q.M.many) t1 (g0 + xi + Q.M.many) u1 (xi + Q.M.many) u2 its n (wl ++ us) nw' (dv ++ ys) (if ys.length = 0 then nd else nd + 1) #[rawInt 558, rawInt 22, .ref c'] (ceT L o (some (.v (.ref 575)))) (tl3 ++ (tl ++ T')) _) 21 [] rfl, TP.J.of ?_ hsucc ?_ h20 ?_ ?_ ?_ (.inr ⟨c', oc, vs, t, rfl, mR _ (mR _ k1), k2, k3⟩)⟩
        · rw [hsucc, ← Int.add_assoc]
        · exact fun p hp => mR _ (mR _ (k4 p (hT p hp)))
        · exact hc.mono fun p hp => mR _ (mR _ (k4 p hp))
        · exact (hw.mono fun p hp => mR _ (mR _ (k4 p hp))).app (hput.mono fun p hp => mR _ (mL _ hp))
        · exact (hd.mono fun p hp => mR _ (mR _ (k4 p hp))).app ((PutR.at hA hl).mono fun p hp => mL _ hp)
    · have hgt : Q.M.y < g0 + xi + Q.M.many := hgt
      refine ⟨.v (.bool false), _, rfl, Next.sets [1, 13, 14] (Q.ob (g0 + xi + Q.M.many) u1 xi tz its n wl nw dv nd #[rawInt 558, rawInt 22, .ref c'] ++ [.tup [.v (.ref 575), .v (.ref 575), .v (.ref 589)], .raw (kla_obj "<lambda>" (c.env.qual ++ "<lambda>") lamP.1 lamP.2.1 lamP.2.2.1 (cloL L) pm c' ctv)]) [] hl rfl D A rfl rfl (all_cons (List.Mem.head _) (all_cons (List.Mem.tail _ (List.Mem.head _)) (all_cons (List.Mem.tail _ (List.Mem.tail _ (List.Mem.head _))) all_nil))) (fun p hp => nomatch hp) rfl, ?_⟩
      refine x_neBool ?_
      refine iff' (by rw [decide_eq_false (by lia)]; rfl) ?_
      refine ift (decide_eq_true (by lia)) ?_
      refine hK _ (EvF.sel (st3 := Q.stH Q.tr (g0 + xi + Q.M.many) t1 (g0 + xi + Q.M.many) u1 xi tz its n wl nw dv nd #[rawInt 558, rawInt 22, .ref c'] L o (.ref 575) T' _) h0 (ceL L o (some (.v (.ref (Q.M.a 4)))) none (some (.v (.ref (Q.M.a 0)))) (some (.v (.ref Q.R.rr))) (some (.v (.ref 575)))) [16, 4, 5, 6, 0, 1, 12, 13, 14, 15, 20] [] rfl rfl rfl rfl rfl rfl rfl rfl (by decide) rfl (all_cons rfl (all_cons rfl (all_cons rfl (all_cons rfl (all_cons rfl (all_cons rfl all_nil)))))) (fun p hp => .inl hp) rfl (k _ _ _ _ _ _ (reps i Q.M.many) _ _ _ _ _ _ _ _ _ _ _ ⟨fun p hp => k4 p (hT p hp), h20, ?_, hw.mono k4, hd.mono k4, ?_⟩))
      · rw [if_neg (by lia)]; exact hc.mono k4
      · rw [← hw.1]; lia
end
end
section
section
variable {G : GR} {c : XC} {base : Heap} {L : Addr}
set_option tactic.hygienic true in
theorem turn_take (V : LawX G c base L) (Q : TP) (T0 : List (Addr × Obj)) (hQ : Q.Ok G.w T0) (g0 : Int) (hg0 : 0 ≤ g0 ∧ g0 ≤ 2) (I : Addr) (oI : Obj) (tv : Tok) (a21 : Addr) (g z : Int) (hg : 0 ≤ g ∧ g ≤ 12)
    (its : List Value) (n : Nat) (wl : List Value) (nw : Nat) (dv : List Value) (nd : Nat) (ps : Array Value) (tg tx tz : Tok) (o : Nat → Obj) (T : List (Addr × Obj)) (fo : Str → Option Value)
    (hT : ∀ p ∈ T0, p ∈ T) (h20 : its.length = 20) (hc : CellsAt T its (zsF 40 Q.M.many)) (hw : PutAt T (reps 2 Q.M.many) wl) (hd : PutAt T (reps 2 Q.M.many) dv) (tab : TabL (c.env.qual ++ "<lambda>") 2 ps T)
    (rest : List Stmt) (TT : RF → XS → Prop) (hK : ∀ st1 : XS, EvF c (execs rest c.env) st1.pop LawEnd → TT .brk st1) (hinv : ∀ st2 : XS, Tn st2.pop (fun st3 => EvF c (execs rest c.env) st3 LawEnd ∧ st3.ce.map CE.key = (ceT L o none).map CE.key) → TT .next st2)
    (k : ∀ tr' gf tg' tx' z tz' zs its' n' wl' nw' dv' nd' ps' o' vw' T' fo', Q.H T0 gf zs its' wl' dv' T' → EvF c (execs rest c.env) (Q.stH tr' gf tg' gf tx' z tz' its' n' wl' nw' dv' nd' ps' L o' vw' T' fo') LawEnd) :
    exS xtL c 39 (turnB.drop 1) ⟨Q.rho ++ [a21], (Str.ofString "turn", .v (.int (0 + ((2 : Nat) : Int)) tv)) :: Q.fr g tg, Q.ob g tx z tz its n wl nw dv nd ps ++ [.tup [.v (.ref 575), .v (.ref 575), .v (.ref 589)]], T, [21, 1, 6, 13, 14, 15, 16], ⟨"", I, oI, none, false, false⟩ :: ceT L o (some (.v (.ref 589))), fo⟩ TT := by
  have h0 := V.h0
  have Y := V.Y
  have O := V.O
  have hm5 := hQ.m5
  have hy := hQ.y
  have hwl : wl.length ≤ 10 := by rw [hw.1, reps_len]; lia
  have hdl : dv.length ≤ 10 := by rw [hd.1, reps_len]; lia
  intro t0
  refine Do.comp O (PutR 70) (put_tag 70) 40 40 rfl rfl rfl rfl ?_
  refine x_range rfl fun r t8 t9 => ?_
  refine ⟨rfl, rfl, rfl, 22, Q.M.many, _, rfl, .rng 0 Q.M.many _ _ _ rfl (small_one (by decide) (by decide) (by lia) (by lia)) ((rangeSize_nat 0 Q.M.many).trans (by lia)) (by lia) rfl, fun c' C oC I oI D ys tl i w _ O' hi hw hl hA hn => ?_, fun D ys tl3 hl0 hA h1 h2 h3 => ?_⟩
  · obtain ⟨tw, rfl⟩ := hw
    intro a1 a2 a3 p
    refine ⟨⟨rfl, rfl, rfl, rfl⟩, rfl, ?_⟩
    refine ⟨p, a1, a3, rfl, ?_⟩
    rw [show (70 + (i : Int)) = 70 + (0 + (i : Int)) by lia]
    exact List.Mem.head _
  · refine DoC.cls Y 40 rfl rfl rfl rfl rfl rfl (fun _ _ _ _ _ _ _ _ _ => rfl) fun pi pid c1 F1 B1 Y1 O1 hp => ?_
    intro q5 t5 ta q6 t6
    change exE xtL c _ (.Dict [] [] _) ⟨Q.rho ++ [a21, r, D, pid, pi], (Str.ofString "turn", .v (.int (0 + ((2 : Nat) : Int)) tv)) :: Q.fr g tg, Q.ob g tx z tz its n wl nw dv nd ps ++ [.tup [.v (.ref 575), .v (.ref 575), .v (.ref 589)], .raw (rngO Q.M.many t8 Q.tm t9), .lst ys ys.length, .dict [(q5, Str.ofString "record", t5, .r 23), (q6, Str.ofString "at", t6, .v (.int 0 ta))] 2, .inst 710 24], tl3 ++ T, [25, 24, 23, 22, 21, 1, 6, 13, 14, 15, 16], ⟨"", I, oI, none, false, false⟩ :: ceT L o (some (.v (.ref 589))), fo⟩ _
    intro a26 o26 n26 d26
    intro a27 tt tr q7 t7
    change exS xtL c 38 (turnB.drop 2) ⟨Q.rho ++ [a21, r, D, pid, pi, a26, a27, tt, tr], (Str.ofString "turn", .v (.int (0 + ((2 : Nat) : Int)) tv)) :: Q.fr g tg, Q.obT (.r 29) g tx z tz its n wl nw dv nd ps ++ [.tup [.v (.ref 575), .v (.ref 575), .v (.ref 589)], .raw (rngO Q.M.many t8 Q.tm t9), .lst ys ys.length, .dict [(q5, Str.ofString "record", t5, .r 23), (q6, Str.ofString "at", t6, .v (.int 0 ta))] 2, .inst 710 24, .raw o26, .tup [], .tup [.r 25, .r 26, .r 27, .v .none], .lst [.ref tt] 0], tl3 ++ T, [29, 28, 27, 26, 25, 24, 23, 22, 21, 1, 6, 13, 14, 15, 16], ⟨"", I, oI, none, false, false⟩ :: ceT L o (some (.v (.ref 589))), fo⟩ TT
    intro t1
    refine x_lamT V (i := 16) (j := 2) rfl (by show some Q.ti = _; rw [hQ.ti]) rfl rfl (tab.mono (fun p hp => mR _ hp) id) fun f c' oc vs t pm ctv T' k1 k2 k3 k4 => ?_
    have k4' : ∀ p ∈ T, p ∈ T' := fun p hp => k4 p (mR _ hp)
    change DoC c (.ref 740) [.r 30, .v (.int Q.M.y (Q.M.t 1 8))] ⟨Q.rho ++ [a21, r, D, pid, pi, a26, a27, tt, tr] ++ [f], (Str.ofString "gone", .v (.int (g + Q.M.many) t1)) :: (Str.ofString "turn", .v (.int (0 + ((2 : Nat) : Int)) tv)) :: Q.fr g tg, Q.obT (.r 29) g tx z tz its n wl nw dv nd #[rawInt 558, rawInt 22, .ref c'] ++ [.tup [.v (.ref 575), .v (.ref 575), .v (.ref 589)], .raw (rngO Q.M.many t8 Q.tm t9), .lst ys ys.length, .dict [(q5, Str.ofString "record", t5, .r 23), (q6, Str.ofString "at", t6, .v (.int 0 ta))] 2, .inst 710 24, .raw o26, .tup [], .tup [.r 25, .r 26, .r 27, .v .none], .lst [.ref tt] 0] ++ [.raw (kla_obj "<lambda>" (c.env.qual ++ "<lambda>") lamP.1 lamP.2.1 lamP.2.2.1 (cloL L) pm c' ctv)], T', [30, 29, 28, 27, 26, 25, 24, 23, 22, 21, 1, 6, 13, 14, 15, 16], ⟨"", I, oI, none, false, false⟩ :: ceT L o (some (.v (.ref 589))), fo⟩ _
    let QQ : QT := ⟨Q.M, tr, tt, pi, pid, D, 0, .ref a26, .ref a27, (fun | 0 => q5 | _ => q6), (fun | 0 => t5 | _ => t6), its, ys, zsF 70 Q.M.many, n, 0, ys.length, 0, g, T'⟩
    let stL := QQ.lam Q.R L (o 0) (o 1) (o 2) (.ref 589) tx ta ((f, kla_obj "<lambda>" (c.env.qual ++ "<lambda>") lamP.1 lamP.2.1 lamP.2.2.1 (cloL L) pm c' ctv) :: T')
    have sel : Sel _ stL := Sel.of (st := ⟨Q.rho ++ [a21, r, D, pid, pi, a26, a27, tt, tr] ++ [f], (Str.ofString "gone", .v (.int (g + Q.M.many) t1)) :: (Str.ofString "turn", .v (.int (0 + ((2 : Nat) : Int)) tv)) :: Q.fr g tg, Q.obT (.r 29) g tx z tz its n wl nw dv nd #[rawInt 558, rawInt 22, .ref c'] ++ [.tup [.v (.ref 575), .v (.ref 575), .v (.ref 589)], .raw (rngO Q.M.many t8 Q.tm t9), .lst ys ys.length, .dict [(q5, Str.ofString "record", t5, .r 23), (q6, Str.ofString "at", t6, .v (.int 0 ta))] 2, .inst 710 24, .raw o26, .tup [], .tup [.r 25, .r 26, .r 27, .v .none], .lst [.ref tt] 0] ++ [.raw (kla_obj "<lambda>" (c.env.qual ++ "<lambda>") lamP.1 lamP.2.1 lamP.2.2.1 (cloL L) pm c' ctv)], T', [30, 29, 28, 27, 26, 25, 24, 23, 22, 21, 1, 6, 13, 14, 15, 16], ⟨"", I, oI, none, false, false⟩ :: ceT L o (some (.v (.ref 589))), fo⟩) [0, 1, 2, 3, 4, 5, 6, 7, 8, 9, 29, 28, 25, 24, 23, 17, 18, 19] rfl rfl rfl rfl (by decide) rfl
      (all_cons ⟨_, List.Mem.tail _ (List.Mem.head _), rfl, rfl⟩ (all_cons ⟨_, List.Mem.tail _ (List.Mem.tail _ (List.Mem.head _)), rfl, rfl⟩ (all_cons ⟨_, List.Mem.tail _ (List.Mem.tail _ (List.Mem.tail _ (List.Mem.head _))), rfl, rfl⟩ all_nil)))
      (all_cons (.inr ⟨30, rfl, Nat.le_of_ble_eq_true rfl, rfl⟩) fun p hp => .inl hp)
    refine Do.useH Y (fun hl D A Cd => c_heard Y.HG V.HX f (led stL) [Q.M.a 1, Q.M.a 6, pid] QQ.post (QQ.rais ta) Q.M.y (Q.M.t 1 8) (tl_mem (st := stL) (List.Mem.head _)) (lam_take Y.HG QQ Q.R L f c' Q.ai (o 0) (o 1) (o 2) oc vs (c.env.qual ++ "<lambda>") t tx ta pm ctv _ (fun p hp => mC _ hp) (List.Mem.head _) (mC _ k1) k2 k3 (Cd _ (List.Mem.tail _ (List.Mem.head _)) rfl rfl) (Cd _ (List.Mem.tail _ (List.Mem.tail _ (List.Mem.head _))) rfl rfl) (Cd _ (List.Mem.tail _ (List.Mem.tail _ (List.Mem.tail _ (List.Mem.head _)))) rfl rfl) hQ.hF (sel.dis D) (sel.ap A) h20 hm5 (by show 0 ≤ g ∧ g ≤ 800; lia) (by show 0 ≤ Q.M.y ∧ Q.M.y ≤ 900; lia) ((PutR.at hA hl0).mono fun p hp => k4 p (mL _ hp)) zsF_len) ?_ ?_ ?_) [1, 6, 24] rfl rfl (fun hl q hq => sel.led q hq) rfl rfl ?_ rfl
    · exact all_cons (led_adr (st := stL) (j := 1) rfl rfl) (all_cons (led_adr (st := stL) (j := 6) rfl rfl) (all_cons (led_adr (st := stL) (j := 13) rfl rfl) all_nil))
    · rintro v out ⟨its', tl, u1, u2, u3, _, _, _, _⟩
      exact ⟨u3, rfl⟩
    · rintro k out ⟨_, rfl, u1, rfl⟩
      exact ⟨rfl, (all_cons (List.Mem.head _) (all_cons (List.Mem.tail _ (List.Mem.head _)) (all_cons (List.Mem.tail _ (List.Mem.tail _ (List.Mem.head _))) all_nil)))⟩
    · rintro r' out hp hn Di hl A
      rcases hp with ⟨rfl, v, its', tl, u1, u2, u3, hle, h20', hcl, hne⟩ | ⟨rfl, hgt, -, u1, rfl⟩
      · have hle : g + Q.M.many ≤ Q.M.y := hle
        have n4 : ∀ p ∈ tl, NeAll p.1 _ := fun p hp => (hn p (mC _ (mC _ (mC _ hp)))).resolve_left (hne p hp)
        refine ⟨.v (.bool true), _, rfl, Next.sets [1, 6, 24] (Q.obT (.r 29) (g + Q.M.many) u1 z tz its' n wl nw dv nd #[rawInt 558, rawInt 22, .ref c'] ++ [.tup [.v (.ref 575), .v (.ref 575), .v (.ref 589)], .raw (rngO Q.M.many t8 Q.tm t9), .lst ys ys.length, .dict [(q5, Str.ofString "record", t5, .r 23), (q6, Str.ofString "at", t6, .v (.int Q.M.many u2))] 2, .inst 710 24, .raw o26, .tup [], .tup [.r 25, .r 26, .r 27, .v .none], .lst [.ref tt] 0] ++ [.raw (kla_obj "<lambda>" (c.env.qual ++ "<lambda>") lamP.1 lamP.2.1 lamP.2.2.1 (cloL L) pm c' ctv)]) tl hl rfl Di A rfl rfl (all_cons (List.Mem.head _) (all_cons (List.Mem.tail _ (List.Mem.head _)) (all_cons (List.Mem.tail _ (List.Mem.tail _ (List.Mem.head _))) all_nil))) (fun p hp => ⟨mC _ (mC _ (mC _ hp)), n4 p hp⟩) rfl, ?_⟩
        refine x_neBool ?_
        refine iff' (by rw [decide_eq_true hle]; rfl) ?_
        refine iff' (decide_eq_false (by lia)) ?_
        intro t2 a31
        refine x_iadd (i := 15) (j := 31) rfl rfl rfl (by show dv.length + 0 ≤ 1000; lia) ?_
        refine hinv _ ⟨_, Weak.refl rfl, (EvF.sel (st3 := Q.stH tr (g + Q.M.many) t1 (g + Q.M.many) u1 z tz its' n wl nw (dv ++ []) nd #[rawInt 558, rawInt 22, .ref c'] L o (.ref 589) (tl ++ T') _) h0 (ceL L o (some (.v (.ref (Q.M.a 4)))) none (some (.v (.ref (Q.M.a 0)))) (some (.v (.ref Q.R.rr))) (some (.v (.ref 589)))) [16, 4, 5, 6, 0, 1, 12, 13, 14, 15, 20] [] rfl rfl rfl rfl rfl rfl rfl rfl (by decide) rfl (all_cons rfl (all_cons rfl (all_cons rfl (all_cons rfl (all_cons rfl (all_cons rfl all_nil)))))) (fun p hp => .inl hp) rfl (k _ _ _ _ _ _ (reps 2 Q.M.many) _ _ _ _ _ _ _ _ _ _ _ ⟨fun p hp => mR _ (k4' p (hT p hp)), h20', ?_, hw.mono fun p hp => mR _ (k4' p hp), ?_, ?_⟩)), rfl⟩
        · rw [if_pos hle]; exact hcl.mono fun p hp => mL _ hp
        · rw [List.append_nil]; exact hd.mono fun p hp => mR _ (k4' p hp)
        · rw [← hw.1]; exact hwl
      · have hgt : Q.M.y < g + Q.M.many := hgt
        refine ⟨.v (.bool false), _, rfl, Next.sets [1, 6, 24] (Q.obT (.r 29) (g + Q.M.many) u1 z tz its n wl nw dv nd #[rawInt 558, rawInt 22, .ref c'] ++ [.tup [.v (.ref 575), .v (.ref 575), .v (.ref 589)], .raw (rngO Q.M.many t8 Q.tm t9), .lst ys ys.length, .dict [(q5, Str.ofString "record", t5, .r 23), (q6, Str.ofString "at", t6, .v (.int 0 ta))] 2, .inst 710 24, .raw o26, .tup [], .tup [.r 25, .r 26, .r 27, .v .none], .lst [.ref tt] 0] ++ [.raw (kla_obj "<lambda>" (c.env.qual ++ "<lambda>") lamP.1 lamP.2.1 lamP.2.2.1 (cloL L) pm c' ctv)]) [] hl rfl Di A rfl rfl (all_cons (List.Mem.head _) (all_cons (List.Mem.tail _ (List.Mem.head _)) (all_cons (List.Mem.tail _ (List.Mem.tail _ (List.Mem.head _))) all_nil))) (fun p hp => nomatch hp) rfl, ?_⟩
        refine x_neBool ?_
        refine iff' (by rw [decide_eq_false (by lia)]; rfl) ?_
        refine ift (decide_eq_true (by lia)) ?_
        refine hK _ (EvF.sel (st3 := Q.stH tr (g + Q.M.many) t1 (g + Q.M.many) u1 z tz its n wl nw dv nd #[rawInt 558, rawInt 22, .ref c'] L o (.ref 589) T' _) h0 (ceL L o (some (.v (.ref (Q.M.a 4)))) none (some (.v (.ref (Q.M.a 0)))) (some (.v (.ref Q.R.rr))) (some (.v (.ref 589)))) [16, 4, 5, 6, 0, 1, 12, 13, 14, 15, 20] [] rfl rfl rfl rfl rfl rfl rfl rfl (by decide) rfl (all_cons rfl (all_cons rfl (all_cons rfl (all_cons rfl (all_cons rfl (all_cons rfl all_nil)))))) (fun p hp => .inl hp) rfl (k _ _ _ _ _ _ (reps 2 Q.M.many) _ _ _ _ _ _ _ _ _ _ _ ⟨fun p hp => k4' p (hT p hp), h20, ?_, hw.mono k4', hd.mono k4', ?_⟩))
        · rw [if_neg (by lia)]; exact hc.mono k4'
        · rw [← hw.1]; exact hwl
end
end
section
noncomputable def tpM (P : WP) (mc md li ld : Addr) (ql qm : Nat → Int) (tl tmm : Nat → Tok) (um : Nat → Value) : MP :=
  ⟨ofL [mc, md, li, ld, P.a 4, P.a 5, P.a 6, P.a 10, P.a 11, P.a 12] 0, (fun | 0 => qm | 1 => ql | _ => P.q 2), (fun | 0 => tmm | 1 => (fun | 8 => P.t 1 8 | i => tl i) | 2 => P.t 2 | _ => P.t 3), (fun | 0 => um | _ => limU), P.y, P.ch, P.many⟩
noncomputable def tpQ (P : WP) (ti pls ld li md mc od ox oi b1 b4 b5 b6 b7 : Addr) (ql qm qo : Nat → Int) (tl tmm to : Nat → Tok) (um : Nat → Value) (pv : List Value) (np : Nat) (x : Int) (tm tx : Tok) : TP :=
  ⟨tpM P mc md li ld ql qm tl tmm um, ⟨P.a 0, P.a 1, P.a 8, P.a 2, P.a 7, P.a 9, P.q 0, P.t 0, P.u 0, x, tx, P.oF⟩, b6, b5, ox, od, oi, b7, ti, pls, P.a 13, .ref b1, .ref b4, qo, to, pv, np, 0, tm⟩
section
variable {G : GR} {c : XC} {base : Heap} {L : Addr}
def TurnI (c : XC) (Q : TP) (cq : Str) (T0 : List (Addr × Obj)) (L : Addr) (g0 : Int) (o : Nat → Obj) (i : Nat) (st : XS) : Prop :=
  (i < 3 ∧ Q.J cq T0 L g0 i st) ∨ (i = 3 ∧ EvF c (execs (fd_745.body.drop 18) c.env) st LawEnd ∧ st.ce.map CE.key = (ceT L o none).map CE.key)
theorem law_g1 (V : LawX G c base L) (Q : TP) (T0 : List (Addr × Obj)) (hQ : Q.Ok G.w T0) (g0 : Int) (hg0 : 0 ≤ g0 ∧ g0 ≤ 2) (its : List Value) (n : Nat) (ps : Array Value) (tg tx tz : Tok) (o : Nat → Obj) (fo : Str → Option Value)
    (h20 : its.length = 20) (hc : CellsAt T0 its (zsF 40 Q.M.many)) (hps : ps = #[])
    (k : ∀ tr' gf tg' tx' z tz' zs its' n' wl' nw' dv' nd' ps' o' vw' T' fo', Q.H T0 gf zs its' wl' dv' T' → EvF c (execs (fd_745.body.drop 18) c.env) (Q.stH tr' gf tg' gf tx' z tz' its' n' wl' nw' dv' nd' ps' L o' vw' T' fo') LawEnd) :
    EvF c (execs (fd_745.body.drop 17) c.env) (Q.st g0 tg g0 tx 0 tz its n [] 0 [] 0 ps (ceT L o none) T0 fo) LawEnd := by
  have h0 := V.h0
  have Y := V.Y
  have O := V.O
  refine exS_cut O (fd_745.body.drop 18) 60 ((fd_745.body.drop 17).take 1) _ _ ?_
  intro t3
  refine x_range rfl fun r t8 t9 => ?_
  refine DoI.range O 40 (TurnI c Q (c.env.qual ++ "<lambda>") T0 L g0 o) rfl rfl 3 (small_one (by decide) (by decide) (by lia) (by lia)) ((rangeSize_nat 0 3).trans (by lia)) (fun i st1 hI => ?_) ⟨_, Weak.go (st3 := Q.st g0 tg g0 tx 0 tz its n [] 0 [] 0 ps (ceT L o none) T0 _) 21 [] rfl, .inl ⟨by lia, TP.J.of (by simp) (by simp) (fun _ h => h) h20 hc ⟨rfl, fun i z v h _ => by simp [reps] at h⟩ ⟨rfl, fun i z v h _ => by simp [reps] at h⟩ (.inl ⟨rfl, hps⟩)⟩⟩ (fun i tv I oI st1 hi hI TT hTT => ?_) (fun st1 hI => ?_)
  · rcases hI with ⟨_, its, n, wl, nw, dv, nd, ps, tg, tx, tz, o', T, fo, rfl, -⟩ | ⟨_, _, h⟩
    · exact ExtP.zeroC h0 rfl
    · exact ExtP.zeroC h0 h
  · rcases hI with ⟨_, its, n, wl, nw, dv, nd, ps, tg, tx, tz, o', T, fo, rfl, hT, h20, hc, hw, hd, tab⟩ | ⟨e, _⟩
    · rcases (by lia : i = 0 ∨ i = 1 ∨ i = 2) with e | e | e <;> subst e
      · intro a21 oW t2
        exact turn_put V Q T0 hQ g0 hg0 0 (by lia) I oI tv a21 its n wl nw dv nd ps tg tx tz (fun | 0 => oW | i => o' i) T fo hT h20 hc hw hd tab (fd_745.body.drop 18) TT (fun _ h => hTT.bk h) (fun _ h => hTT.nx (h.mono fun _ h => .inl ⟨by lia, h⟩)) k
      · intro a21 oW t2
        exact turn_put V Q T0 hQ g0 hg0 1 (by lia) I oI tv a21 its n wl nw dv nd ps tg tx tz (fun | 0 => oW | i => o' i) T fo hT h20 hc hw hd tab (fd_745.body.drop 18) TT (fun _ h => hTT.bk h) (fun _ h => hTT.nx (h.mono fun _ h => .inl ⟨by lia, h⟩)) k
      · intro a21 oW
        have hm5 := hQ.m5
        exact turn_take V Q T0 hQ g0 hg0 I oI tv a21 _ _ (by lia) its n wl nw dv nd ps tg tx tz (fun | 0 => oW | i => o' i) T fo hT h20 hc hw hd tab (fd_745.body.drop 18) TT (fun _ h => hTT.bk h) (fun _ h => hTT.nx (h.mono fun _ h => .inr ⟨rfl, h.1, h.2⟩)) k
    · lia
  · rcases hI with ⟨e, _⟩ | ⟨_, h, _⟩
    · lia
    · exact h
end
end
section
section
variable {G : GR} {c : XC} {base : Heap} {L : Addr}
theorem law_g (V : LawX G c base L) (o : Nat → Obj) (P : WP) (ti rl pls ld li a1 a2 md mc od ox oi b1 b4 b5 b6 b7 : Addr) (o1 o2 bo : Obj) (ql qm qo : Nat → Int) (tl tmm to : Nat → Tok) (um : Nat → Value) (rvs pv its : List Value) (nr np n : Nat) (ps : Array Value) (x0 x : Int) (tm tg tx c6 : Tok) (T : List (Addr × Obj)) (fo : Str → Option Value)
    (hti : ti = 742) (hps : ps = #[]) (hm5 : P.many ≤ 5) (hy : 1 ≤ P.y ∧ P.y ≤ 50) (hx0 : 0 ≤ x0 ∧ x0 ≤ 2) (hF : P.oF.IsDictOf (strKind PG G.w) [(Str.ofString "A", .ref (P.a 10)), (Str.ofString "I", .ref (P.a 13))]) (hpv : pv.length = P.many) (hpl : ∀ (i : Nat) v, pv[i]? = some v → IsPlace T (3 + (i : Int)) v) (h20 : its.length = 20) (hc : CellsAt T its (zsF 40 P.many))
    (k : ∀ (Q : TP), Q.M.many = P.many → Q.M.y = P.y → Q.Ok G.w T → ∀ tr' gf tg' tx' z tz' zs its' n' wl' nw' dv' nd' ps' o' vw' T' fo', Q.H T gf zs its' wl' dv' T' → EvF c (execs (fd_745.body.drop 18) c.env) (Q.stH tr' gf tg' gf tx' z tz' its' n' wl' nw' dv' nd' ps' L o' vw' T' fo') LawEnd) :
    EvF c (execs (fd_745.body.drop 17) c.env) (stF P ti rl pls ld li a1 a2 md mc od ox oi b1 b4 b5 b6 b7 o1 o2 bo ql qm qo tl tmm to um rvs pv its nr np n ps x0 x tm tg tx c6 T L o fo) LawEnd := by
  have hQ : (tpQ P ti pls ld li md mc od ox oi b1 b4 b5 b6 b7 ql qm qo tl tmm to um pv np x tm tx).Ok G.w T := ⟨hti, hm5, hy, hF, hpv, hpl⟩
  refine EvF.sel (st3 := (tpQ P ti pls ld li md mc od ox oi b1 b4 b5 b6 b7 ql qm qo tl tmm to um pv np x tm tx).st x0 tg x0 tg 0 c6 its n [] 0 [] 0 ps (ceT L o none) T _) V.h0 (ceL L o (some (.v (.ref (P.a 4)))) none (some (.v (.ref mc))) (some (.v (.ref (P.a 0)))) none) [24, 23, 20, 19, 4, 5, 6, 10, 11, 12, 31, 30, 26, 25, 27, 32, 16, 0, 1, 8, 18] [] rfl rfl rfl rfl rfl rfl rfl rfl (by decide) rfl (all_cons rfl (all_cons rfl (all_cons rfl (all_cons rfl (all_cons rfl (all_cons rfl all_nil)))))) (fun p hp => .inl hp) rfl ?_
  exact law_g1 V _ T hQ x0 hx0 its n ps tg tg c6 o _ h20 hc hps (k _ rfl rfl hQ)
end
end
section
def TellR (b : Int) (_ : List (Addr × Obj)) (i : Nat) (v : Value) : Prop := ∃ t, v = .int (b + (i : Int)) t
theorem tell_tag (b : Int) : CompTag (TellR b) := ⟨fun _ _ _ _ _ h => h⟩
theorem Do.andT {c : XC} {xt : XT} (O : c.Ok xt) (n : Nat) {e1 e2 : Expr} {rest : List Expr} {pos : Pos} {st : XS} {K : RV → XS → Prop} (H : exE xt c n e1 st fun v st1 => v = .v (.bool true) ∧ Do c (eval (.BoolOp .And (e2 :: rest) pos) c.env) st1 K) : Do c (eval (.BoolOp .And (e1 :: e2 :: rest) pos) c.env) st K :=
  ⟨fun Q s z S hq => BoolOp_and (exE_ok O n _ _ _ H _ s z S fun v st1 h1 tk1 H1 S1 p1 => by
    obtain ⟨rfl, H1⟩ := H1
    exact wpAny_truthy_bool (by rw [if_pos rfl]; exact H1.run.then z.to S1 p1 hq))⟩
theorem Do.one {c : XC} {xt : XT} (O : c.Ok xt) (n : Nat) {e : Expr} {pos : Pos} {st : XS} {K : RV → XS → Prop} (H : exE xt c n e st K) : Do c (eval (.BoolOp .And [e] pos) c.env) st K := ⟨fun Q s z S hq => BoolOp_one (exE_ok O n _ _ _ H Q s z S hq)⟩
theorem eq_cmp {prog : Program} {w : World} {A : Around} {E : Value → Shared → Prop} {s : Shared} {a b : Value} {k : Bool} {Q : Value → Shared → Prop} (h : SeqAt.RcAt A s a b k) (hq : Q (.bool k) s) : wpAny (model prog w) A (compareOp .Eq a b) Q E s := h prog w E Q hq
theorem x_eqv {c : XC} {st : XS} {K : RV → XS → Prop} {a b : RV} (k : Bool) (h : ∀ s : Shared, Sat c st s.heap → SeqAt.RcAt c.A s (a.den st.ρ) (b.den st.ρ) k) (kk : K (.v (.bool k)) st) : Do c (compareOp .Eq (a.den st.ρ) (b.den st.ρ)) st K :=
  ⟨fun Q s z S hq => eq_cmp (h s S) (hq (.v (.bool k)) st _ _ kk S (Ext.refl _))⟩
section
open PySem.SeqAt
variable {A : Around} {s : Shared} {g : Heap} {L : Addr} {T : List (Addr × Obj)}
theorem rc_puts {a b : Addr} {n m : Nat} {zs : List Int} {xs ys : List Value} (N : News g L s.heap T) (ha : (a, listOf xs.toArray n) ∈ T) (hb : (b, listOf ys.toArray m) ∈ T) (h1 : PutAt T zs xs) (h2 : PutAt T zs ys) (hu : A.units + 10 < cLine) : RcAt A s (.ref a) (.ref b) true := by
  refine rc_lists (list_is N ha) (list_is N hb) (by lia) (by rw [List.size_toArray, List.size_toArray, h1.1, h2.1]) fun j q1 q2 => ?_
  have q1' : j < xs.length := by simpa using q1
  have q2' : j < ys.length := by simpa using q2
  have hz : j < zs.length := by rw [← h1.1]; exact q1'
  obtain ⟨p, t, t', e1, m1⟩ := h1.2 j _ _ (List.getElem?_eq_getElem hz) (List.getElem?_eq_getElem q1')
  obtain ⟨p', u, u', e2, m2⟩ := h2.2 j _ _ (List.getElem?_eq_getElem hz) (List.getElem?_eq_getElem q2')
  have e1 : xs.toArray[j] = .ref p := by simpa using e1
  have e2 : ys.toArray[j] = .ref p' := by simpa using e2
  rw [e1, e2]
  exact eq_refs (rc_tuples (tup_is N m1) (tup_is N m2) (by show A.units + 1 < _; lia) rfl fun j a b => match j, a with
    | 0, _ => eq_int
    | 1, _ => eq_int)
theorem rc_tells {a b : Addr} {n m : Nat} {z : Int} {T1 T2 : List (Addr × Obj)} {xs ys : List Value} (N : News g L s.heap T) (ha : (a, listOf xs.toArray n) ∈ T) (hb : (b, listOf ys.toArray m) ∈ T) (h1 : AllAt (TellR z) T1 xs) (h2 : AllAt (TellR z) T2 ys) (hl : xs.length = ys.length) (hu : A.units + 10 < cLine) : RcAt A s (.ref a) (.ref b) true := by
  refine rc_lists (list_is N ha) (list_is N hb) (by lia) (by rw [List.size_toArray, List.size_toArray, hl]) fun j q1 q2 => ?_
  have q1' : j < xs.length := by simpa using q1
  have q2' : j < ys.length := by simpa using q2
  obtain ⟨t, e1⟩ := h1 j _ (List.getElem?_eq_getElem q1')
  obtain ⟨u, e2⟩ := h2 j _ (List.getElem?_eq_getElem q2')
  have e1 : xs.toArray[j] = .int (z + j) t := by simpa using e1
  have e2 : ys.toArray[j] = .int (z + j) u := by simpa using e2
  rw [e1, e2]
  exact eq_int
end
section
variable {G : GR} {c : XC} {base : Heap} {L : Addr}
theorem law_h (V : LawX G c base L) (Q : TP) (T0 : List (Addr × Obj)) (hQ : Q.Ok G.w T0) (tr' : Addr) (gf : Int) (tg tx : Tok) (z : Int) (tz : Tok) (zs : List Int) (its : List Value) (n : Nat) (wl : List Value) (nw : Nat) (dv : List Value) (nd : Nat) (ps : Array Value) (o : Nat → Obj) (vw : Value) (T : List (Addr × Obj)) (fo : Str → Option Value) (H : Q.H T0 gf zs its wl dv T) :
    EvF c (execs (fd_745.body.drop 18) c.env) (Q.stH tr' gf tg gf tx z tz its n wl nw dv nd ps L o vw T fo) LawEnd := by
  have Y := V.Y
  have O := V.O
  have hm5 := hQ.m5
  obtain ⟨hT, h20, hc, p1, p2, hz⟩ := H
  have hpv := hQ.pvl
  have hu : c.A.units + 10 < cLine := Nat.lt_of_le_of_lt (Nat.add_le_add_right Y.hu 10) (by decide)
  generalize hb : (if gf ≤ Q.M.y then (70 : Int) else 40) = b at hc
  refine exS_ok O 60 (fd_745.body.drop 18) _ _ ?_
  refine DoF.comp O (TellR b) (tell_tag b) 40 40 rfl rfl rfl rfl rfl rfl rfl ?_
  refine ⟨rfl, rfl, rfl, 10, Q.pv.length, _, rfl, .lst Q.pv Q.np rfl (by lia) rfl rfl, fun c' C oC I oI D ys tl i w hc' O' hi hw hl hA hn => ?_, fun D ys tl hl hA h1 h2 h3 => ?_⟩
  · have Y' : Uses G c' [] base 310 100 (fun _ _ => False) := by
      obtain ⟨E', rfl⟩ := hc'
      exact ⟨Y.HG, Y.prog, Y.hw, Y.hK, Y.X, Y.B, Y.Ok, Y.hA, Y.fr, Y.ff, Y.kf, Y.hd, Y.hu, fun _ _ _ _ _ _ _ _ h => h.elim⟩
    obtain ⟨pp, pe, q0, q1, q2, rfl, hpp, -⟩ := hQ.pv i w hw
    obtain ⟨cc, w1, w2, hcc, hct⟩ := hc i _ (zsF_get (by lia))
    refine u_load Y' (Q.M.q 2) (Q.M.t 2) (im := 1) (idd := 2) (il := 3) (k := 3 + i) (its := its) (cc := cc) (v := b + (i : Int)) rfl rfl rfl rfl (fun _ => tl_mem (mR _ (hT _ hpp))) (by lia) (by lia) hcc (fun _ => tl_mem (mR _ hct)) rfl rfl ?_
    exact ⟨⟨rfl, rfl, rfl, rfl⟩, rfl, w2, rfl⟩
  · intro oi'
    refine Do.andT O 40 ?_
    refine x_eqv true (fun s S => rc_puts S.N (mem_led (i := 8) S.len rfl) (mem_led (i := 9) S.len rfl) (p1.mono fun p hp => tl_mem (mR _ hp)) (p2.mono fun p hp => tl_mem (mR _ hp)) hu) ⟨rfl, ?_⟩
    refine Do.andT O 40 ?_
    refine Do.comp O (TellR b) (tell_tag b) 40 40 rfl rfl rfl rfl ?_
    refine x_range rfl fun r t8 t9 => ?_
    refine ⟨rfl, rfl, rfl, 12, Q.M.many, _, rfl, .rng 0 Q.M.many _ _ _ rfl (small_one (by decide) (by decide) (by lia) (by lia)) ((rangeSize_nat 0 Q.M.many).trans (by lia)) (by lia) rfl, fun c' C oC I oI D2 ys2 tl2 i w hc' O' hi hw hl hA hn => ?_, fun D2 ys2 tl2 hl2 hA2 h1 h2 h3 => ?_⟩
    · obtain ⟨tw, rfl⟩ := hw
      refine ifc (fun hle => ?_) (fun hle => ?_)
      · intro a1 a2
        refine ⟨⟨rfl, rfl, rfl, rfl⟩, rfl, a2, ?_⟩
        rw [← hb, if_pos (of_decide_eq_true hle), Int.zero_add]; rfl
      · intro a1 a2
        refine ⟨⟨rfl, rfl, rfl, rfl⟩, rfl, a2, ?_⟩
        rw [← hb, if_neg (of_decide_eq_false hle), Int.zero_add]; rfl
    · refine x_eqv true (fun s S => rc_tells S.N (mem_led (i := 11) S.len rfl) (mem_led (i := 13) S.len rfl) hA hA2 (by lia) hu) ⟨rfl, ?_⟩
      refine Do.one O 40 ?_
      have e : (gf == gf) = true := by simp
      show LawEnd (.ret (.v (.bool (gf == gf)))) _
      rw [e]
      exact ⟨rfl, ps, rfl, by show some Q.ti = _; rw [hQ.ti]⟩
end
end
section
section
variable {G : GR} {c : XC} {base : Heap} {L : Addr}
theorem law_all (V : LawX G c base L) (o : Nat → Obj) (sl : Addr) (xs : List Value) (hxs : c.h₀.IsList sl xs.toArray) (hint : ∀ (i : Nat) v, xs[i]? = some v → ∃ z t, v = .int z t) (h63 : xs.length ≤ 63) :
    EvF c (execs fd_745.body c.env) ⟨[742], [(Str.ofString "script", .v (.ref sl))], [.raw (tabObj #[])], [], [0], ceL L o none none none none none, fun _ => none⟩ LawEnd := by
  refine law_a V.h0 V.Y V.O o sl xs hxs hint h63 fun o1 il rl items ivs rvs ni nr m y x0 tm ty tx T1 fo1 hm hy hx hit hro h3 => ?_
  obtain ⟨m, rfl⟩ : ∃ k : Nat, m = k := ⟨m.toNat, by lia⟩
  refine law_b V.h0 V.Y V.O o1 742 il rl items ivs rvs ni nr #[] m y x0 tm ty tx T1 fo1 hm fun o2 pls mm md lc pv np n q t ch tl fo2 hpv hA => ?_
  have hpv : pv.length = m := by rw [hpv]; lia
  have hpl : ∀ (i : Nat) v, pv[i]? = some v → IsPlace (tl ++ T1) (3 + (i : Int)) v := fun i v h => (show IsPlace tl (3 + (i : Int)) v from hA i v h).mono fun p hp => mL _ hp
  refine law_c V.h0 V.Y V.O o2 742 il rl pls mm md lc ivs rvs pv ni nr np n #[] m y x0 tm ty tx q t ch (tl ++ T1) fo2 (by lia) hpv hpl fun its T2 fo3 hT2 h20 hc => ?_
  refine law_d V.HY V.h0 V.Y V.O o2 742 il rl pls mm md lc items ivs rvs pv its ni nr np n #[] m y x0 tm ty tx q t ch T2 fo3 fun P o3 tx2 fo4 e1 e2 e3 e4 hE sE hF sF hO sO => ?_
  have hit2 : ItemsAt T2 items ivs := hit.mono fun p hp => hT2 p (mR _ hp)
  have hP : P.Ok G.w T2 := ⟨by lia, by rw [e3, e4]; exact hit2, by rw [e4]; exact h3, by lia, hE, sE, hF, sF, hO, sO⟩
  refine law_e V.HX V.h0 V.hfe V.Y V.O o3 P 742 rl pls rvs pv its nr np n #[] x0 tm tx tx2 T2 fo4 hP h20 hx (by rw [e3]; exact hro) (by rw [e1]; exact hpv) (fun i v h => (hpl i v h).mono hT2) fun x' tx' its' n' T3 fo5 h20' hi hT3 => ?_
  refine law_f V.HY V.h0 V.Y V.O o3 P 742 rl pls rvs pv its' nr np n' #[] x0 x' tm tx tx' T3 fo5 fun ld li a1 a2 md2 mc od ox oi b1 b4 b5 b6 b7 oa ob bo ql qm qo tl2 tmm to um c6 o4 fo6 => ?_
  refine law_g V o4 P 742 rl pls ld li a1 a2 md2 mc od ox oi b1 b4 b5 b6 b7 oa ob bo ql qm qo tl2 tmm to um rvs pv its' nr np n' #[] x0 x' tm tx tx' c6 T3 fo6 rfl rfl hP.m5 hP.y hx hF (by rw [e1]; exact hpv) (fun i v h => (hpl i v h).mono fun p hp => hT3 p (hT2 p hp)) h20' (fun j z hz => ?_) fun Q hQm hQy hQ tr' gf tg' tx'' z tz' zs its'' n'' wl' nw' dv' nd' ps' o' vw' T' fo' H => law_h V Q T3 hQ tr' gf tg' tx'' z tz' zs its'' n'' wl' nw' dv' nd' ps' o' vw' T' fo' H
  rw [e1] at hz
  obtain ⟨cc, k1, k2, g1, g2⟩ := hc j z hz
  exact ⟨cc, k1, k2, (hi (3 + j) (by lia)).trans g1, hT3 _ g2⟩
end
end
section
theorem law_fin {K : Frag} (HG : GrF K) (HX : GrX K) (HY : GrY K) {w : World} {loose : List Str} {mean : ExcName → Option Value} {mg mb : Str → Option Value} {g : Heap} {L fa sl : Addr} {cn : Str} {s : Shared} {Q : Flow → Shared → Prop} {E : Value → Shared → Prop} {xs : List Value} {zs : List Int} {o5 o4 o3 o2 o1 : Obj}
    (X : K.In g) (T : Top topProg loose mean mg mb g) (B : Below callerA g [] g) (F : Fr g L s.heap (bindL (envOfC cn fd_745.scope L fa (.ref 744)).kindOf [(Str.ofString "script", .ref sl)] fun _ => none)) (N : News g L s.heap [(L + 1 + 1 + 1 + 1 + 1, o5), (L + 1 + 1 + 1 + 1, o4), (L + 1 + 1 + 1, o3), (L + 1 + 1, o2), (L + 1, o1), (742, tabObj #[])])
    (Y : CellsAre (bindC (envOfC cn fd_745.scope L fa (.ref 744)).kindOf [(Str.ofString "script", .ref sl)] fun _ => none) (cellsFrom (L + 1) fd_745.scope.names []) [(L + 1 + 1 + 1 + 1 + 1, o5), (L + 1 + 1 + 1 + 1, o4), (L + 1 + 1 + 1, o3), (L + 1 + 1, o2), (L + 1, o1)])
    (hl : g.IsList sl xs.toArray) (hC : CodeHd g 744 742) (hI : IntsAre xs zs) (h63 : ¬ ((63 : Nat) : Int) < (zs.length : Int)) (l0 : 742 < L)
    (hQ : ∀ h' tk m ps news, Fr g L h' m → News g L h' news → (742, tabObj ps) ∈ news → Q (.ret (.bool true)) { s with heap := h', toks := tk })
    (po : PassesOwn (model PG w) (callerA.deeper (envOfC cn fd_745.scope L fa (.ref 744))) (envOfC cn fd_745.scope L fa (.ref 744)) E) :
    wpAny (model PG w) (callerA.deeper (envOfC cn fd_745.scope L fa (.ref 744))) (execs fd_745.body (envOfC cn fd_745.scope L fa (.ref 744))) Q E s := by
  have hx : xs.length ≤ 63 := by
    have := hI.length
    lia
  refine law_go (G := ⟨K, topProg, loose, w⟩) (p := topProg) (loose := loose) (d := fd_745) (cdv := .ref 744) (qual := cn) (af := fa) (base := g) (frames := []) (D := 310) (U := 100) (sub := [(742, tabObj #[])]) HG ⟨[742], [(Str.ofString "script", .v (.ref sl))], [.raw (tabObj #[])], [], [0], [], fun _ => none⟩ [] LawEnd (by decide +kernel) ?_ rfl rfl F N Y ?_ B ⟨X, T⟩ X T ?_ rfl (all_cons rfl (all_cons rfl (all_cons rfl (all_cons rfl (all_cons rfl all_nil))))) rfl (fun _ => Iff.rfl) rfl rfl ?_ po rfl (by show callerA.depth + 1 ≤ 310; decide) (by show callerA.units + 3 ≤ 100; decide) (fun f st' h' tk' H F' N' => ?_) fun c o Yc O e1 e2 e3 e4 e5 => ?_
  · show ([L + 1 + 1 + 1 + 1 + 1, L + 1 + 1 + 1 + 1, L + 1 + 1 + 1, L + 1 + 1, L + 1] : List Nat).Nodup
    simp
    lia
  · exact fun n a h => (all_cons (P := fun p : Str × Addr => @LT.lt Nat _ L p.2) (by show @LT.lt Nat _ L (L + 1 + 1 + 1 + 1 + 1); lia) (all_cons (by show @LT.lt Nat _ L (L + 1 + 1 + 1 + 1); lia) (all_cons (by show @LT.lt Nat _ L (L + 1 + 1 + 1); lia) (all_cons (by show @LT.lt Nat _ L (L + 1 + 1); lia) (all_cons (by show @LT.lt Nat _ L (L + 1); lia) all_nil))))) (n, a) h
  · exact all_cons l0 all_nil
  · exact Dis.of ⟨⟨⟨trivial, trivial⟩, all_nil⟩, trivial⟩
  · obtain ⟨rfl, ps, h1, h2⟩ := H
    exact hQ h' tk' _ ps _ F' N' (led_of h2 h1)
  · subst e1
    exact law_all (base := c.h₀) ⟨e5, e3, e4, Yc, O, HX, HY, hC, cn, fa, e2⟩ o sl xs hl (fun i v h => ints_at hI i v h) hx
end
theorem clsOk_of {K : Frag} {C : Addr} {names : List Str} (h1 : findIn K (.ref C) "__setattr__" = some (some (.builtin "object.__setattr__"))) (h2 : plainOver K C = true) (h3 : hasDictIn K C = true) (h4 : plainGet K C "x" = true) (h5 : ∀ x ∈ names, takerIn K C x = some none ∧ findIn K (.ref C) x = some none) : ClsOk K C names :=
  ⟨h1, h2, h3, fun _ => h4, fun x hx => (h5 x hx).1, fun x hx => (h5 x hx).2⟩
end Mine
namespace Mine.main
theorem tw10044588960856096794:True:=⟨⟩
theorem tw10047389527955405517:True:=⟨⟩
theorem tw10092017014551392330:True:=⟨⟩
theorem tw10094358506670053839:True:=⟨⟩
theorem tw10114013102757674387:True:=⟨⟩
theorem tw10123989817122485451:True:=⟨⟩
theorem tw10149618387772673413:True:=⟨⟩
theorem tw10159738436595150677:True:=⟨⟩
theorem tw10169072693733980587:True:=⟨⟩
theorem tw10177057350305019805:True:=⟨⟩
theorem tw10199874654664476236:True:=⟨⟩
theorem tw10204856939554784155:True:=⟨⟩
theorem tw10210597933619972095:True:=⟨⟩
theorem tw10231336680788121439:True:=⟨⟩
theorem tw10234815189450012239:True:=⟨⟩
theorem tw1027651156746619712:True:=⟨⟩
theorem tw10283388844273144081:True:=⟨⟩
theorem tw10334261112615635914:True:=⟨⟩
theorem tw10363585996791799541:True:=⟨⟩
theorem tw10391951854915411234:True:=⟨⟩
theorem tw104360540948158410:True:=⟨⟩
theorem tw10453263994017694363:True:=⟨⟩
theorem tw10455743928339290457:True:=⟨⟩
theorem tw10463206416058312583:True:=⟨⟩
theorem tw1054321117371714560:True:=⟨⟩
theorem tw10564528347858357063:True:=⟨⟩
theorem tw10609540516017602915:True:=⟨⟩
theorem tw10625486282989778954:True:=⟨⟩
theorem tw10642606787283503386:True:=⟨⟩
theorem tw10652611922669240339:True:=⟨⟩
theorem tw10652863235454686790:True:=⟨⟩
theorem tw10663580350406149668:True:=⟨⟩
theorem tw10665089971535097683:True:=⟨⟩
theorem tw10665469846841522134:True:=⟨⟩
theorem tw10707853282979444102:True:=⟨⟩
theorem tw10717781254789130011:True:=⟨⟩
theorem tw10813080517026676716:True:=⟨⟩
theorem tw10821422270917381399:True:=⟨⟩
theorem tw10825838108423173272:True:=⟨⟩
theorem tw10864377008497418100:True:=⟨⟩
theorem tw10876229203375891673:True:=⟨⟩
theorem tw10876375607700338302:True:=⟨⟩
theorem tw10877679251791092727:True:=⟨⟩
theorem tw1092785777240315536:True:=⟨⟩
theorem tw10928175160051115300:True:=⟨⟩
theorem tw10953687544409504101:True:=⟨⟩
theorem tw1098248734344127483:True:=⟨⟩
theorem tw10992214633131536827:True:=⟨⟩
theorem tw1099256609624015869:True:=⟨⟩
theorem tw11003572833241299968:True:=⟨⟩
theorem tw11020365191643786025:True:=⟨⟩
theorem tw11041547156204584376:True:=⟨⟩
theorem tw11086099901593105684:True:=⟨⟩
theorem tw11092141859048813250:True:=⟨⟩
theorem tw11120327062377616369:True:=⟨⟩
theorem tw11135027115929721415:True:=⟨⟩
theorem tw11156056980113079860:True:=⟨⟩
theorem tw1118068078248606362:True:=⟨⟩
theorem tw11181722664286889309:True:=⟨⟩
theorem tw11218778669853930896:True:=⟨⟩
theorem tw11221353774195762014:True:=⟨⟩
theorem tw11239335112260394413:True:=⟨⟩
theorem tw11251407683458634364:True:=⟨⟩
theorem tw11261727412033496967:True:=⟨⟩
theorem tw11273777480241942364:True:=⟨⟩
theorem tw1130211791997205004:True:=⟨⟩
theorem tw11311155076762098589:True:=⟨⟩
theorem tw11374851513655246148:True:=⟨⟩
theorem tw11399646045708457374:True:=⟨⟩
theorem tw11403851563620829512:True:=⟨⟩
theorem tw11409991511011244131:True:=⟨⟩
theorem tw1142173933681417890:True:=⟨⟩
theorem tw11476092923266045095:True:=⟨⟩
theorem tw11487549891475536569:True:=⟨⟩
theorem tw11501822485730972192:True:=⟨⟩
theorem tw1150287232629052791:True:=⟨⟩
theorem tw11531331273489700057:True:=⟨⟩
theorem tw11544348965984651327:True:=⟨⟩
theorem tw11554813239044494598:True:=⟨⟩
theorem tw1156462466702112376:True:=⟨⟩
theorem tw1157997071576566072:True:=⟨⟩
theorem tw11595355409239048105:True:=⟨⟩
theorem tw11632677888051885312:True:=⟨⟩
theorem tw11646826074482590764:True:=⟨⟩
theorem tw11652434378139913451:True:=⟨⟩
theorem tw11692516046256081784:True:=⟨⟩
theorem tw11712081513822626495:True:=⟨⟩
theorem tw11716418206903941319:True:=⟨⟩
theorem tw11752208632293872130:True:=⟨⟩
theorem tw11774690029378154688:True:=⟨⟩
theorem tw11785714552879321826:True:=⟨⟩
theorem tw1178595665728414349:True:=⟨⟩
theorem tw1179016188013280949:True:=⟨⟩
theorem tw11815829001073249272:True:=⟨⟩
theorem tw11857135199678951331:True:=⟨⟩
theorem tw11967333016625521393:True:=⟨⟩
theorem tw1198661942849946583:True:=⟨⟩
theorem tw11987853993630220354:True:=⟨⟩
theorem tw12027323910402764344:True:=⟨⟩
theorem tw12057704586751987240:True:=⟨⟩
theorem tw12077450504624328385:True:=⟨⟩
theorem tw12093647306153771053:True:=⟨⟩
theorem tw12205347405646519318:True:=⟨⟩
theorem tw12222963475772708484:True:=⟨⟩
theorem tw12252054271945606052:True:=⟨⟩
theorem tw12273490649430754879:True:=⟨⟩
theorem tw12277023271486646383:True:=⟨⟩
theorem tw12298629886278197574:True:=⟨⟩
theorem tw12343854547171428336:True:=⟨⟩
theorem tw12361340156312767134:True:=⟨⟩
theorem tw1236483940969888574:True:=⟨⟩
theorem tw1242282695825638017:True:=⟨⟩
theorem tw12431731261707249289:True:=⟨⟩
theorem tw12450111651097656602:True:=⟨⟩
theorem tw12455012482086183272:True:=⟨⟩
theorem tw12483276189755474720:True:=⟨⟩
theorem tw12518504611687188807:True:=⟨⟩
theorem tw12543713266681445118:True:=⟨⟩
theorem tw1255815211270559930:True:=⟨⟩
theorem tw12564604832814323664:True:=⟨⟩
theorem tw12594366453804578888:True:=⟨⟩
theorem tw12608185968620612914:True:=⟨⟩
theorem tw1261021989165538067:True:=⟨⟩
theorem tw12623159325031504133:True:=⟨⟩
theorem tw12646911602827044314:True:=⟨⟩
theorem tw12653679108036650311:True:=⟨⟩
theorem tw12670839924663504800:True:=⟨⟩
theorem tw12692632004510240207:True:=⟨⟩
theorem tw12747388180105724736:True:=⟨⟩
theorem tw12748397558918655664:True:=⟨⟩
theorem tw1277820614484962519:True:=⟨⟩
theorem tw12800608258095302798:True:=⟨⟩
theorem tw12839114828313443825:True:=⟨⟩
theorem tw12872379398031375081:True:=⟨⟩
theorem tw12885385263037960081:True:=⟨⟩
theorem tw1289389943133740499:True:=⟨⟩
theorem tw12900284412222446716:True:=⟨⟩
theorem tw12909650291622432550:True:=⟨⟩
theorem tw12915833801598196605:True:=⟨⟩
theorem tw12922898485456448571:True:=⟨⟩
theorem tw12927740378394474205:True:=⟨⟩
theorem tw12941917028564957548:True:=⟨⟩
theorem tw12974819211118642341:True:=⟨⟩
theorem tw12992176717851604617:True:=⟨⟩
theorem tw1306636233014830658:True:=⟨⟩
theorem tw13077236301305049449:True:=⟨⟩
theorem tw13110970153573199417:True:=⟨⟩
theorem tw13116522157475607773:True:=⟨⟩
theorem tw13132915859168520264:True:=⟨⟩
theorem tw13148611719377898607:True:=⟨⟩
theorem tw13154001654789283132:True:=⟨⟩
theorem tw13157206579259725088:True:=⟨⟩
theorem tw13180746182150919023:True:=⟨⟩
theorem tw1319676515408343850:True:=⟨⟩
theorem tw13219505800766818778:True:=⟨⟩
theorem tw13224007501803129859:True:=⟨⟩
theorem tw13260870731297125680:True:=⟨⟩
theorem tw13270728482189477470:True:=⟨⟩
theorem tw13293747886898857621:True:=⟨⟩
theorem tw13348322127785295214:True:=⟨⟩
theorem tw13402765919934010277:True:=⟨⟩
theorem tw13406003279186336099:True:=⟨⟩
theorem tw13465503431842376007:True:=⟨⟩
theorem tw13503263706703578961:True:=⟨⟩
theorem tw13547569757486424058:True:=⟨⟩
theorem tw13590572293223372214:True:=⟨⟩
theorem tw13591255225166038476:True:=⟨⟩
theorem tw13597483153833180358:True:=⟨⟩
theorem tw13626721169425172152:True:=⟨⟩
theorem tw13642826006792871662:True:=⟨⟩
theorem tw13667920496262714385:True:=⟨⟩
theorem tw13676971244355772609:True:=⟨⟩
theorem tw13693970394777133609:True:=⟨⟩
theorem tw13724616953566380437:True:=⟨⟩
theorem tw1372806426800153423:True:=⟨⟩
theorem tw13777938177461255882:True:=⟨⟩
theorem tw13797323745857372409:True:=⟨⟩
theorem tw13803360072150633466:True:=⟨⟩
theorem tw13838900630717943254:True:=⟨⟩
theorem tw1390771862084280389:True:=⟨⟩
theorem tw13967159077662900211:True:=⟨⟩
theorem tw13972245371655741198:True:=⟨⟩
theorem tw13974046611088194958:True:=⟨⟩
theorem tw13980345723018547825:True:=⟨⟩
theorem tw13989496423458381343:True:=⟨⟩
theorem tw14009396871252706886:True:=⟨⟩
theorem tw14027531716089632829:True:=⟨⟩
theorem tw14060465935940456498:True:=⟨⟩
theorem tw14064073609400967072:True:=⟨⟩
theorem tw14079133448124963078:True:=⟨⟩
theorem tw14080665800827857628:True:=⟨⟩
theorem tw14091239562226147355:True:=⟨⟩
theorem tw14097447854668400296:True:=⟨⟩
theorem tw1409966394225722968:True:=⟨⟩
theorem tw14161005256144132680:True:=⟨⟩
theorem tw1416440070973091865:True:=⟨⟩
theorem tw14218914174604095658:True:=⟨⟩
theorem tw14235155234550121937:True:=⟨⟩
theorem tw14247123612743402574:True:=⟨⟩
theorem tw1429040668314091153:True:=⟨⟩
theorem tw14311760430882083916:True:=⟨⟩
theorem tw14364048958407549093:True:=⟨⟩
theorem tw14368271195830560734:True:=⟨⟩
theorem tw1439166485080882:True:=⟨⟩
theorem tw14406990849044604362:True:=⟨⟩
theorem tw14439473939278146460:True:=⟨⟩
theorem tw14457758005677747962:True:=⟨⟩
theorem tw14492832472218066102:True:=⟨⟩
theorem tw14504180641510445567:True:=⟨⟩
theorem tw1453356044741674121:True:=⟨⟩
theorem tw1454224541498743561:True:=⟨⟩
theorem tw14560460549640227032:True:=⟨⟩
theorem tw14562738103837258888:True:=⟨⟩
theorem tw14635473669698735251:True:=⟨⟩
theorem tw14640416626631428029:True:=⟨⟩
theorem tw14662554035588321541:True:=⟨⟩
theorem tw14666387041718499266:True:=⟨⟩
theorem tw14672674291997333471:True:=⟨⟩
theorem tw1469836325065767749:True:=⟨⟩
theorem tw14722489848711283861:True:=⟨⟩
theorem tw14759895335926876869:True:=⟨⟩
theorem tw14771111431291430275:True:=⟨⟩
theorem tw14814594519894181452:True:=⟨⟩
theorem tw14864641218109852296:True:=⟨⟩
theorem tw14907226015203709474:True:=⟨⟩
theorem tw14909365282108701170:True:=⟨⟩
theorem tw1496695287857109588:True:=⟨⟩
theorem tw15023316991559800185:True:=⟨⟩
theorem tw1504049600530537962:True:=⟨⟩
theorem tw15059693217772790739:True:=⟨⟩
theorem tw15060185592220127646:True:=⟨⟩
theorem tw15062679425460387418:True:=⟨⟩
theorem tw15079240505294077160:True:=⟨⟩
theorem tw15109750227778091905:True:=⟨⟩
theorem tw15131278010643852716:True:=⟨⟩
theorem tw15136431859952498927:True:=⟨⟩
theorem tw1519992759497675636:True:=⟨⟩
theorem tw15225127925928830808:True:=⟨⟩
theorem tw15270170921892066516:True:=⟨⟩
theorem tw15277975159832343749:True:=⟨⟩
theorem tw15303317825217679618:True:=⟨⟩
theorem tw15352771483252387427:True:=⟨⟩
theorem tw15356762974548107741:True:=⟨⟩
theorem tw15365013842991253249:True:=⟨⟩
theorem tw15387884906608193903:True:=⟨⟩
theorem tw15410482203810522393:True:=⟨⟩
theorem tw15438212644395081984:True:=⟨⟩
theorem tw1545906260438175962:True:=⟨⟩
theorem tw15465920861327815835:True:=⟨⟩
theorem tw15485851114877660061:True:=⟨⟩
theorem tw15491723280356408159:True:=⟨⟩
theorem tw15510692781650021527:True:=⟨⟩
theorem tw15514936471743626214:True:=⟨⟩
theorem tw15554039934745177238:True:=⟨⟩
theorem tw15558288988949320067:True:=⟨⟩
theorem tw15580989882048331800:True:=⟨⟩
theorem tw15589955886551607785:True:=⟨⟩
theorem tw15595112118272840620:True:=⟨⟩
theorem tw15608450976537380609:True:=⟨⟩
theorem tw15616401959046598769:True:=⟨⟩
theorem tw15624239662980076321:True:=⟨⟩
theorem tw15632155201295862456:True:=⟨⟩
theorem tw15643365686152983790:True:=⟨⟩
theorem tw15734200111481486640:True:=⟨⟩
theorem tw15734660467963936456:True:=⟨⟩
theorem tw15768048840197415361:True:=⟨⟩
theorem tw15803610866087392283:True:=⟨⟩
theorem tw15806524323241146399:True:=⟨⟩
theorem tw15808693924575374263:True:=⟨⟩
theorem tw1587290215689348708:True:=⟨⟩
theorem tw15955573374722617477:True:=⟨⟩
theorem tw16008252555379753968:True:=⟨⟩
theorem tw16008457594558532635:True:=⟨⟩
theorem tw16022572192331126682:True:=⟨⟩
theorem tw16026485685270457870:True:=⟨⟩
theorem tw16035907590883218939:True:=⟨⟩
theorem tw16046730324260685337:True:=⟨⟩
theorem tw16049902774474827687:True:=⟨⟩
theorem tw16136984950599521427:True:=⟨⟩
theorem tw1615045767204293396:True:=⟨⟩
theorem tw16187894506366716058:True:=⟨⟩
theorem tw16193401482309157537:True:=⟨⟩
theorem tw16251939892948500945:True:=⟨⟩
theorem tw1628013610222277130:True:=⟨⟩
theorem tw16320215318167395912:True:=⟨⟩
theorem tw16320729459185622934:True:=⟨⟩
theorem tw16411370214107742406:True:=⟨⟩
theorem tw16452447596832230105:True:=⟨⟩
theorem tw16480584520131690045:True:=⟨⟩
theorem tw16508919721030705984:True:=⟨⟩
theorem tw16519101796099990279:True:=⟨⟩
theorem tw16572128252103988241:True:=⟨⟩
theorem tw16656740534632174751:True:=⟨⟩
theorem tw16676564476587882173:True:=⟨⟩
theorem tw16689149305811164139:True:=⟨⟩
theorem tw16721930046160240684:True:=⟨⟩
theorem tw1677766988990989824:True:=⟨⟩
theorem tw16778611742570070204:True:=⟨⟩
theorem tw1678875084529416142:True:=⟨⟩
theorem tw16806246253224384389:True:=⟨⟩
theorem tw16817993663026736274:True:=⟨⟩
theorem tw16819838333489098493:True:=⟨⟩
theorem tw16826212616301561204:True:=⟨⟩
theorem tw16922381011570985944:True:=⟨⟩
theorem tw16948680386487030729:True:=⟨⟩
theorem tw16950194794029067938:True:=⟨⟩
theorem tw16952715711813285254:True:=⟨⟩
theorem tw16959884160788844718:True:=⟨⟩
theorem tw16965079339398995527:True:=⟨⟩
theorem tw17016820405989369747:True:=⟨⟩
theorem tw17057053908230417247:True:=⟨⟩
theorem tw17091655785135471103:True:=⟨⟩
theorem tw17118054049896295152:True:=⟨⟩
theorem tw17128291446047057950:True:=⟨⟩
theorem tw1714950047550659301:True:=⟨⟩
theorem tw17201416709059790184:True:=⟨⟩
theorem tw17223442867436993403:True:=⟨⟩
theorem tw17236958762192778904:True:=⟨⟩
theorem tw17268439761433841065:True:=⟨⟩
theorem tw17272174723667511238:True:=⟨⟩
theorem tw17275675667316583603:True:=⟨⟩
theorem tw17290568124846718506:True:=⟨⟩
theorem tw17292155258170135553:True:=⟨⟩
theorem tw17298425922696826006:True:=⟨⟩
theorem tw17336282652733537790:True:=⟨⟩
theorem tw17353955331779342651:True:=⟨⟩
theorem tw17403364634526059139:True:=⟨⟩
theorem tw17438294365789470252:True:=⟨⟩
theorem tw17450470499104002142:True:=⟨⟩
theorem tw17453503289922162039:True:=⟨⟩
theorem tw17456035664235451855:True:=⟨⟩
theorem tw17477492558424962760:True:=⟨⟩
theorem tw17510229520200029679:True:=⟨⟩
theorem tw17537897236906676801:True:=⟨⟩
theorem tw17561526911342447988:True:=⟨⟩
theorem tw17644181745481072423:True:=⟨⟩
theorem tw17679725944135375923:True:=⟨⟩
theorem tw17695171507069755227:True:=⟨⟩
theorem tw17708487481403421675:True:=⟨⟩
theorem tw17715262827843222689:True:=⟨⟩
theorem tw17725498274588495791:True:=⟨⟩
theorem tw17737603089517620647:True:=⟨⟩
theorem tw1777545030009416734:True:=⟨⟩
theorem tw17864028415675338326:True:=⟨⟩
theorem tw17871620999419790863:True:=⟨⟩
theorem tw17876540633158874278:True:=⟨⟩
theorem tw17906638245316424091:True:=⟨⟩
theorem tw17958375852430007124:True:=⟨⟩
theorem tw17973828388622989381:True:=⟨⟩
theorem tw18031918436515192882:True:=⟨⟩
theorem tw18063282731904131703:True:=⟨⟩
theorem tw18120430973489738927:True:=⟨⟩
theorem tw18134284020713443437:True:=⟨⟩
theorem tw18165044119631177899:True:=⟨⟩
theorem tw18178676814319149831:True:=⟨⟩
theorem tw18190005008629794160:True:=⟨⟩
theorem tw18195925520682101353:True:=⟨⟩
theorem tw18218335207050127959:True:=⟨⟩
theorem tw18238007617527299592:True:=⟨⟩
theorem tw18284262389922463811:True:=⟨⟩
theorem tw18287795668848337631:True:=⟨⟩
theorem tw18302796317244248524:True:=⟨⟩
theorem tw18315214858253571532:True:=⟨⟩
theorem tw18325589031809861271:True:=⟨⟩
theorem tw18332899500509843999:True:=⟨⟩
theorem tw18344032359734412310:True:=⟨⟩
theorem tw18385570937342765463:True:=⟨⟩
theorem tw18392154025008590481:True:=⟨⟩
theorem tw18418235949754561950:True:=⟨⟩
theorem tw18421580907717582127:True:=⟨⟩
theorem tw18425317256667529438:True:=⟨⟩
theorem tw18428669670746838259:True:=⟨⟩
theorem tw18431692314602308842:True:=⟨⟩
theorem tw1850612553970854742:True:=⟨⟩
theorem tw1980160206288974728:True:=⟨⟩
theorem tw2007339730380871907:True:=⟨⟩
theorem tw2019394398466159022:True:=⟨⟩
theorem tw2110754180369666209:True:=⟨⟩
theorem tw2167601570988920834:True:=⟨⟩
theorem tw2173562974560187446:True:=⟨⟩
theorem tw2195194259037543316:True:=⟨⟩
theorem tw221909299271738847:True:=⟨⟩
theorem tw2225956059507018244:True:=⟨⟩
theorem tw223528310411579522:True:=⟨⟩
theorem tw2238316416991798583:True:=⟨⟩
theorem tw2279707942289718827:True:=⟨⟩
theorem tw2287757881348798766:True:=⟨⟩
theorem tw2341703837736514645:True:=⟨⟩
theorem tw2406621943657119228:True:=⟨⟩
theorem tw2433702464844828792:True:=⟨⟩
theorem tw244467455267321384:True:=⟨⟩
theorem tw2456247091588846565:True:=⟨⟩
theorem tw2496676261509829067:True:=⟨⟩
theorem tw2524017781993486291:True:=⟨⟩
theorem tw2544328076492683441:True:=⟨⟩
theorem tw2566753976717531306:True:=⟨⟩
theorem tw2583023086579268501:True:=⟨⟩
theorem tw2647654807098235363:True:=⟨⟩
theorem tw2704602940660078815:True:=⟨⟩
theorem tw2714283472998740243:True:=⟨⟩
theorem tw2724176850512262202:True:=⟨⟩
theorem tw2729793432009153956:True:=⟨⟩
theorem tw2744014450722944760:True:=⟨⟩
theorem tw2750411421705246143:True:=⟨⟩
theorem tw2759098988195820126:True:=⟨⟩
theorem tw2852251193174398662:True:=⟨⟩
theorem tw2895952525429962455:True:=⟨⟩
theorem tw2900998541784483753:True:=⟨⟩
theorem tw2906824675625879941:True:=⟨⟩
theorem tw2921958311620399285:True:=⟨⟩
theorem tw302440914744352476:True:=⟨⟩
theorem tw3027586509356016917:True:=⟨⟩
theorem tw3045742163950154196:True:=⟨⟩
theorem tw3073057795933904074:True:=⟨⟩
theorem tw3137596982192898869:True:=⟨⟩
theorem tw3160845607165458772:True:=⟨⟩
theorem tw3234112476842188716:True:=⟨⟩
theorem tw3298483428156984901:True:=⟨⟩
theorem tw3299218664060906527:True:=⟨⟩
theorem tw330327031418712150:True:=⟨⟩
theorem tw3305931106042330821:True:=⟨⟩
theorem tw3314904115985164895:True:=⟨⟩
theorem tw3343439749351644125:True:=⟨⟩
theorem tw33456957511925785:True:=⟨⟩
theorem tw3370190323706015969:True:=⟨⟩
theorem tw3394367416137920725:True:=⟨⟩
theorem tw341453280667917650:True:=⟨⟩
theorem tw3454311308915712629:True:=⟨⟩
theorem tw3464709057266567092:True:=⟨⟩
theorem tw3466206800631347469:True:=⟨⟩
theorem tw3532412968194664532:True:=⟨⟩
theorem tw3549514262204291990:True:=⟨⟩
theorem tw3583811862363856187:True:=⟨⟩
theorem tw358491910552652209:True:=⟨⟩
theorem tw3613476055612923068:True:=⟨⟩
theorem tw3626430660855392483:True:=⟨⟩
theorem tw3627144658338631552:True:=⟨⟩
theorem tw365850788961202214:True:=⟨⟩
theorem tw3706830351922483016:True:=⟨⟩
theorem tw372505627349444580:True:=⟨⟩
theorem tw3748114642381145586:True:=⟨⟩
theorem tw3796207824708393856:True:=⟨⟩
theorem tw3829396358689915599:True:=⟨⟩
theorem tw3848698983108048278:True:=⟨⟩
theorem tw3864431920445960829:True:=⟨⟩
theorem tw3867218068155391060:True:=⟨⟩
theorem tw387501639795913443:True:=⟨⟩
theorem tw3894110980201357972:True:=⟨⟩
theorem tw3905226178654972811:True:=⟨⟩
theorem tw3911810758690780188:True:=⟨⟩
theorem tw3934531018447913466:True:=⟨⟩
theorem tw3958507339218470045:True:=⟨⟩
theorem tw3960113756560652017:True:=⟨⟩
theorem tw3994622017586750766:True:=⟨⟩
theorem tw4026956272090484662:True:=⟨⟩
theorem tw4038153913678941442:True:=⟨⟩
theorem tw4039676971129161736:True:=⟨⟩
theorem tw4072190877284726289:True:=⟨⟩
theorem tw4088224383575840552:True:=⟨⟩
theorem tw4126091431370883743:True:=⟨⟩
theorem tw4139100593308808776:True:=⟨⟩
theorem tw4189750870438640210:True:=⟨⟩
theorem tw4261964983698606537:True:=⟨⟩
theorem tw4297412468100583042:True:=⟨⟩
theorem tw4310270188432123100:True:=⟨⟩
theorem tw4324958949535026087:True:=⟨⟩
theorem tw4365514962571936147:True:=⟨⟩
theorem tw4413345314126155841:True:=⟨⟩
theorem tw4452170602077327944:True:=⟨⟩
theorem tw4458048076830672230:True:=⟨⟩
theorem tw4490809748136132443:True:=⟨⟩
theorem tw4500915450034043215:True:=⟨⟩
theorem tw451873465583785326:True:=⟨⟩
theorem tw452746233719593009:True:=⟨⟩
theorem tw453184122279072053:True:=⟨⟩
theorem tw4544244032028310869:True:=⟨⟩
theorem tw4573282807186111410:True:=⟨⟩
theorem tw4585930131862741453:True:=⟨⟩
theorem tw4605139254293405059:True:=⟨⟩
theorem tw4637267157515435788:True:=⟨⟩
theorem tw4638281056170512193:True:=⟨⟩
theorem tw4650958065196391918:True:=⟨⟩
theorem tw4651154628705390771:True:=⟨⟩
theorem tw4681395471914393968:True:=⟨⟩
theorem tw471287901995484742:True:=⟨⟩
theorem tw4749052000479324790:True:=⟨⟩
theorem tw4766233809647381661:True:=⟨⟩
theorem tw4812270449578504274:True:=⟨⟩
theorem tw4839478117068044826:True:=⟨⟩
theorem tw48596604365144762:True:=⟨⟩
theorem tw4900431672193113347:True:=⟨⟩
theorem tw4917070330192852093:True:=⟨⟩
theorem tw4946776927847147119:True:=⟨⟩
theorem tw4948327476702027199:True:=⟨⟩
theorem tw49674306023711395:True:=⟨⟩
theorem tw4990475226369331113:True:=⟨⟩
theorem tw5061512775090418087:True:=⟨⟩
theorem tw5084117380071580128:True:=⟨⟩
theorem tw5102693214775723256:True:=⟨⟩
theorem tw5160751907100791332:True:=⟨⟩
theorem tw5181119749688162637:True:=⟨⟩
theorem tw5203219222101121401:True:=⟨⟩
theorem tw52199770228462824:True:=⟨⟩
theorem tw5240536507193477226:True:=⟨⟩
theorem tw5240779543111244032:True:=⟨⟩
theorem tw5243159528196176124:True:=⟨⟩
theorem tw5287059835090251167:True:=⟨⟩
theorem tw5309058905264134205:True:=⟨⟩
theorem tw5363903885879670357:True:=⟨⟩
theorem tw5372645768047454471:True:=⟨⟩
theorem tw5378808338967829844:True:=⟨⟩
theorem tw5396188567872606041:True:=⟨⟩
theorem tw5396361742852586263:True:=⟨⟩
theorem tw5400957986263281647:True:=⟨⟩
theorem tw5401703158475992631:True:=⟨⟩
theorem tw5418533224930618480:True:=⟨⟩
theorem tw5436221411167023694:True:=⟨⟩
theorem tw544890216719031943:True:=⟨⟩
theorem tw5450094653865882931:True:=⟨⟩
theorem tw5456330333991267789:True:=⟨⟩
theorem tw5473700226181020891:True:=⟨⟩
theorem tw5517759331935216279:True:=⟨⟩
theorem tw5532463470591059822:True:=⟨⟩
theorem tw5571399437266216444:True:=⟨⟩
theorem tw5585478044538960755:True:=⟨⟩
theorem tw5602234197418806665:True:=⟨⟩
theorem tw5613160597433933154:True:=⟨⟩
theorem tw5623159541915647742:True:=⟨⟩
theorem tw5638201095994319732:True:=⟨⟩
theorem tw5649967823195072380:True:=⟨⟩
theorem tw5665406974723832613:True:=⟨⟩
theorem tw5665735395497279834:True:=⟨⟩
theorem tw5677329702179833609:True:=⟨⟩
theorem tw5781596087445459943:True:=⟨⟩
theorem tw5790326737455844299:True:=⟨⟩
theorem tw5797031442667253490:True:=⟨⟩
theorem tw5837888446457221635:True:=⟨⟩
theorem tw5871769198996169552:True:=⟨⟩
theorem tw5921134243170700561:True:=⟨⟩
theorem tw5995161000843957690:True:=⟨⟩
theorem tw6006917696076858104:True:=⟨⟩
theorem tw6014477861935438640:True:=⟨⟩
theorem tw6044114016751833949:True:=⟨⟩
theorem tw6053611964639427726:True:=⟨⟩
theorem tw6075091234017535682:True:=⟨⟩
theorem tw6112859857366181021:True:=⟨⟩
theorem tw615022311325290198:True:=⟨⟩
theorem tw6161133996638707016:True:=⟨⟩
theorem tw6164561884633627433:True:=⟨⟩
theorem tw6183352029847204284:True:=⟨⟩
theorem tw6214117541549086881:True:=⟨⟩
theorem tw6237627108579964202:True:=⟨⟩
theorem tw6334894449686545209:True:=⟨⟩
theorem tw6361450105264607166:True:=⟨⟩
theorem tw6385024630547198690:True:=⟨⟩
theorem tw6389877041954997217:True:=⟨⟩
theorem tw6449824600675878752:True:=⟨⟩
theorem tw645136716886899192:True:=⟨⟩
theorem tw6455149578367423246:True:=⟨⟩
theorem tw6508729118710982530:True:=⟨⟩
theorem tw6511744376749373798:True:=⟨⟩
theorem tw6519269512792494810:True:=⟨⟩
theorem tw6541472054586571296:True:=⟨⟩
theorem tw6545385358150927430:True:=⟨⟩
theorem tw6557543464795787104:True:=⟨⟩
theorem tw656089360051881306:True:=⟨⟩
theorem tw65644731488775911:True:=⟨⟩
theorem tw6565609875121592624:True:=⟨⟩
theorem tw6584820252761975732:True:=⟨⟩
theorem tw6596593509180878263:True:=⟨⟩
theorem tw6632538468102435922:True:=⟨⟩
theorem tw6635558491612396129:True:=⟨⟩
theorem tw6655696309031964122:True:=⟨⟩
theorem tw6657087868060814:True:=⟨⟩
theorem tw6660377722381337597:True:=⟨⟩
theorem tw6663778134991626487:True:=⟨⟩
theorem tw6674386428176565332:True:=⟨⟩
theorem tw6674893403203295414:True:=⟨⟩
theorem tw6690441779611380620:True:=⟨⟩
theorem tw6696893160125735727:True:=⟨⟩
theorem tw6702130215012162313:True:=⟨⟩
theorem tw6741292078354696603:True:=⟨⟩
theorem tw6788530277367551627:True:=⟨⟩
theorem tw6788695710022549768:True:=⟨⟩
theorem tw6855474311058116810:True:=⟨⟩
theorem tw6862268138105152660:True:=⟨⟩
theorem tw6862492499505807319:True:=⟨⟩
theorem tw6877560268529008848:True:=⟨⟩
theorem tw6880717277089553138:True:=⟨⟩
theorem tw6886502059237256666:True:=⟨⟩
theorem tw6907636171062424033:True:=⟨⟩
theorem tw7019240024125815769:True:=⟨⟩
theorem tw7074144079889050967:True:=⟨⟩
theorem tw7081896930658353201:True:=⟨⟩
theorem tw7083192437325867461:True:=⟨⟩
theorem tw7093617532817203218:True:=⟨⟩
theorem tw7108953243070827183:True:=⟨⟩
theorem tw7153082081811710619:True:=⟨⟩
theorem tw716429049611869786:True:=⟨⟩
theorem tw7165207203227711834:True:=⟨⟩
theorem tw7173623326730630234:True:=⟨⟩
theorem tw7214478077546791972:True:=⟨⟩
theorem tw7235775444256392728:True:=⟨⟩
theorem tw7237411587787531456:True:=⟨⟩
theorem tw7268301785047649679:True:=⟨⟩
theorem tw7273056430967151046:True:=⟨⟩
theorem tw7293298908176781663:True:=⟨⟩
theorem tw7308723440029596264:True:=⟨⟩
theorem tw7332330508316399935:True:=⟨⟩
theorem tw7411558596216406370:True:=⟨⟩
theorem tw7439787175107056256:True:=⟨⟩
theorem tw750237026923860459:True:=⟨⟩
theorem tw7514964652732493775:True:=⟨⟩
theorem tw7590696779544312186:True:=⟨⟩
theorem tw7623511443260959870:True:=⟨⟩
theorem tw7647378279178456250:True:=⟨⟩
theorem tw765107192605250810:True:=⟨⟩
theorem tw7698036289167662538:True:=⟨⟩
theorem tw7699798408344515789:True:=⟨⟩
theorem tw7751025194823839400:True:=⟨⟩
theorem tw7761410557224570781:True:=⟨⟩
theorem tw7846812961960373227:True:=⟨⟩
theorem tw785246043732427063:True:=⟨⟩
theorem tw7884331609784382070:True:=⟨⟩
theorem tw7929128423345735474:True:=⟨⟩
theorem tw7943094425149488825:True:=⟨⟩
theorem tw796168687070700412:True:=⟨⟩
theorem tw7974275031393228247:True:=⟨⟩
theorem tw799486724532869496:True:=⟨⟩
theorem tw8060562821785662972:True:=⟨⟩
theorem tw8079908401900000222:True:=⟨⟩
theorem tw8090509862211737132:True:=⟨⟩
theorem tw8118072479153026202:True:=⟨⟩
theorem tw8207831470162742035:True:=⟨⟩
theorem tw8228058824784995430:True:=⟨⟩
theorem tw8278394305814214361:True:=⟨⟩
theorem tw833945537157984683:True:=⟨⟩
theorem tw834873547066669988:True:=⟨⟩
theorem tw8436210846270712021:True:=⟨⟩
theorem tw8440099810896429113:True:=⟨⟩
theorem tw8466321980469482115:True:=⟨⟩
theorem tw8467378866343419333:True:=⟨⟩
theorem tw8475525182357872103:True:=⟨⟩
theorem tw8478376212529829071:True:=⟨⟩
theorem tw8484041278411425421:True:=⟨⟩
theorem tw8496349624203035976:True:=⟨⟩
theorem tw854977524454699277:True:=⟨⟩
theorem tw8557395850702784662:True:=⟨⟩
theorem tw8627561154394265716:True:=⟨⟩
theorem tw8652556701797213591:True:=⟨⟩
theorem tw8663697691656813868:True:=⟨⟩
theorem tw8707812797481193996:True:=⟨⟩
theorem tw8799067880036908217:True:=⟨⟩
theorem tw8809968196449919288:True:=⟨⟩
theorem tw8844999433837080629:True:=⟨⟩
theorem tw8905464785575363620:True:=⟨⟩
theorem tw892681787802806017:True:=⟨⟩
theorem tw8930851030842425676:True:=⟨⟩
theorem tw8947760058931562597:True:=⟨⟩
theorem tw8952462522180670554:True:=⟨⟩
theorem tw9121559901702372667:True:=⟨⟩
theorem tw9151424851927041136:True:=⟨⟩
theorem tw9155575984036265788:True:=⟨⟩
theorem tw917386388269078853:True:=⟨⟩
theorem tw9175052073728820173:True:=⟨⟩
theorem tw9189880136782149556:True:=⟨⟩
theorem tw9190990891756207365:True:=⟨⟩
theorem tw9253799994812790149:True:=⟨⟩
theorem tw9265829497004654079:True:=⟨⟩
theorem tw9268297945177815525:True:=⟨⟩
theorem tw9272984997812220495:True:=⟨⟩
theorem tw9274054859765456524:True:=⟨⟩
theorem tw9302470337196694018:True:=⟨⟩
theorem tw9360745474812902239:True:=⟨⟩
theorem tw9361300454564663673:True:=⟨⟩
theorem tw9376575566392132001:True:=⟨⟩
theorem tw9381277316556691805:True:=⟨⟩
theorem tw9392487213469676918:True:=⟨⟩
theorem tw9406782406253462049:True:=⟨⟩
theorem tw9417822746687237092:True:=⟨⟩
theorem tw9470667924834194258:True:=⟨⟩
theorem tw9483120023164983764:True:=⟨⟩
theorem tw9484462179196469331:True:=⟨⟩
theorem tw9498315638749924794:True:=⟨⟩
theorem tw9508770018378322450:True:=⟨⟩
theorem tw9512817274939609580:True:=⟨⟩
theorem tw9515011664573035354:True:=⟨⟩
theorem tw9557352009045844224:True:=⟨⟩
theorem tw9561784451562097942:True:=⟨⟩
theorem tw9563168847844234846:True:=⟨⟩
theorem tw9573086628692744296:True:=⟨⟩
theorem tw958032410127006724:True:=⟨⟩
theorem tw961187720498965250:True:=⟨⟩
theorem tw962032349192862916:True:=⟨⟩
theorem tw9656510801202774680:True:=⟨⟩
theorem tw9670510015898674028:True:=⟨⟩
theorem tw9730157408454304684:True:=⟨⟩
theorem tw9756827057097773860:True:=⟨⟩
theorem tw9808303207383738048:True:=⟨⟩
theorem tw9840939614602229412:True:=⟨⟩
theorem tw9848185148710128376:True:=⟨⟩
theorem tw9903775340124721222:True:=⟨⟩
theorem tw9925469786538053656:True:=⟨⟩
theorem tw9957550378297406723:True:=⟨⟩
theorem tw9964214247947446159:True:=⟨⟩
theorem tw9976160756891316704:True:=⟨⟩
theorem tw9994787619460420439:True:=⟨⟩
end Mine.main
set_option tactic.hygienic true
set_option Elab.async true
theorem Mine.main : PySem.Challenge.rw_rh0124_01.Holds := by
  w_on
  o_law
  k_head
  (case hw => w_witness2)
  k_go0
  with_reducible rename Frag.In _ _ => X9
  with_reducible rename Top topProg _ _ _ _ _ => T9
  with_reducible rename Below _ _ _ _ => B9
  with_reducible rename Fr _ _ _ _ => F9
  with_reducible rename News _ _ _ _ => N9
  with_reducible rename CellsAre _ _ _ => Y9
  with_reducible rename IntsAre _ _ => I9
  with_reducible rename _ < Array.size _ => l9
  with_reducible rename _ = (#[] : Array _) => g9
  with_reducible rename ¬ _ => h9
  refine law_fin ?HG ?HX ?HY X9 T9 B9 F9 N9 Y9 lifted codeHd I9 h9 l9 ?hQ PassesOwn.leaving
  case hQ =>
    intro h' tk m ps news F' N' hm
    refine ⟨goodW_bool F' g9 (raisesW_false (by wrow_none_raised)) ?hp, GrownAt.of N' hm, trivial⟩
    refine' postW_of ?ps1 ?pv1 ?pe1
    case ps1 => o_shape
    case pv1 => wtm_val
    case pe1 => w_fin
  case HG =>
    refine ⟨?gl, ?bl, ?fs, ?cls, ?me, ?fn, ?mks, ?c108, ?ca, ?x108⟩
    case gl => unfold GK; repeat (first | exact List.forall_mem_nil _ | (refine all_cons ?_ ?_; (focus k_is)))
    case bl => unfold BL; refine all_cons ⟨by k_is, (by boot_fast : bootBuiltins (Str.ofString "len") = some (Value.builtin "len")), by decide⟩ (all_cons ⟨by k_is, (by boot_fast : bootBuiltins (Str.ofString "abs") = some (Value.builtin "abs")), by decide⟩ (all_cons ⟨by k_is, (by boot_fast : bootBuiltins (Str.ofString "max") = some (Value.builtin "max")), by decide⟩ (all_cons ⟨by k_is, (by boot_fast : bootBuiltins (Str.ofString "isinstance") = some (Value.builtin "isinstance")), by decide⟩ (all_cons ⟨by k_is, (by boot_fast : bootBuiltins (Str.ofString "range") = some (Value.type "range")), by decide⟩ (all_cons ⟨by k_is, (by boot_fast : bootBuiltins (Str.ofString "tuple") = some (Value.type "tuple")), by decide⟩ (all_cons ⟨by k_is, (by boot_fast : bootBuiltins (Str.ofString "str") = some (Value.type "str")), by decide⟩ (all_cons ⟨by k_is, (by boot_fast : bootBuiltins (Str.ofString "Exception") = some (Value.type "Exception")), by decide⟩ (all_nil))))))))
    case fs => unfold FS; repeat (first | exact List.forall_mem_nil _ | (refine all_cons ?_ ?_; (focus k_is)))
    case cls => unfold TAB; repeat (first | exact List.forall_mem_nil _ | (refine all_cons ?_ ?_; (focus (refine clsOk_of ?_ ?_ ?_ ?_ ?_; (focus k_is); (focus k_is); (focus k_is); (focus k_is); (focus (repeat (first | exact List.forall_mem_nil _ | (refine all_cons ?_ ?_; (focus exact ⟨by k_is, by k_is⟩)))))))))
    case me => unfold ME; repeat (first | exact List.forall_mem_nil _ | (refine all_cons ?_ ?_; (focus (dsimp only; repeat (first | exact List.forall_mem_nil _ | (refine all_cons ?_ ?_; (focus exact ⟨by k_is, by k_is, by k_is, by k_is⟩)))))))
    case fn => unfold FNS; repeat (first | exact List.forall_mem_nil _ | (refine all_cons ?_ ?_; (focus exact ⟨_, _, _, _, _, _, _, _, _, _, by with_unfolding_all rfl, by k_is⟩)))
    case mks => unfold MK; repeat (first | exact List.forall_mem_nil _ | (refine all_cons ?_ ?_; (focus exact ⟨by k_is, by k_is, by k_is⟩)))
    case c108 => exact ⟨_, _, _, _, _, _, _, _, _, _, _, _, _, _, by with_unfolding_all rfl⟩
    case ca => exact ⟨by k_is, by k_is, ⟨_, by k_is, by k_is, by k_is⟩, by k_is⟩
    case x108 => exact ⟨by k_is, by k_is, by k_is, ⟨_, by with_unfolding_all rfl, by with_unfolding_all rfl, fun _ => by with_unfolding_all rfl⟩, by k_is, by k_is⟩
  case HX => exact ⟨by k_is, by k_is, ⟨_, by with_unfolding_all rfl, by with_unfolding_all rfl⟩, by k_is⟩
  case HY => exact ⟨⟨_, _, _, _, _, _, _, _, _, _, by with_unfolding_all rfl, by k_is⟩, ⟨_, _, _, _, by with_unfolding_all rfl⟩⟩
theorem PySem.Challenge.cw_rh0124_01_holds : PySem.Challenge.rw_rh0124_01.Holds :=
  Mine.main
