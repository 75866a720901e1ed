import PyProof.Rows.All
import Wide.All
import OpenK.AllK
import Wide.FinOn
import PySem.Challenge.RW_pq1216_01
set_option Elab.async false
set_option maxRecDepth 100000
set_option maxHeartbeats 8000000
namespace Mine
noncomputable section
section
open PySem PySem.W PyProof.Rows
open_top hd for PySem.Challenge.rw_pq1216_01
end
section
open PySem PySem.W PyProof.Rows PySem.Spec PySem.Calls
noncomputable abbrev Loose := looseW hd.view_39 [Str.ofString "PressError"]

def CallTo (prog : Program) (w : World) (mean : ExcName → Option Value) (mg mb : Str → Option Value) (f : Addr) (k : Nat) (news : List (Addr × Obj)) (vs : List Value)
    (Out : Heap → Addr → (Str → Option Value) → Shared → (Value → Shared → Prop) → Prop) : Prop :=
  ∀ (dp un : Nat) (gd : Option (List Code)) (cn : Str) (cs : Scope) (a : Addr) (ccd : Value) (cl : List (Str × Addr)) (outer : List Env) (A₀ : Around) (base h₀ : Heap) (L : Addr) (m : Str → Option Value) (s : Shared)
    (Q E : Value → Shared → Prop),
    Below A₀ base outer h₀ → Fr h₀ L s.heap m → (hd.heap_39 w.params).In h₀ → News h₀ L s.heap news → Top hd.view_39 Loose mean mg mb h₀ → cs.kind = .function → dp + k < recursionLimit → un + 8 * k < cLine →
    Out h₀ L m s Q →
    wpAny (model prog w) (ktrTop dp un gd cn cs L a ccd cl outer) (call (.ref f) vs) Q E s


end
section
open PySem PySem.W PyProof.Rows PySem.Spec PySem.Calls
section
variable {prog : Program} {w : World} {A : Around} {E : Value → Shared → Prop} {s : Shared} {env : Env} {h₀ : Heap} {target : PySem.Expr} {body : List Stmt} {Q : Flow → Shared → Prop}

/-- a for loop by an invariant over the frame's map and the ledger, which may grow -/
theorem inv_turns {I : Addr} {fp wr : List Addr} {n : Nat} {P Md : Nat → Value → Heap → Prop} {St : Nat → Heap → Prop} {m₀ : Str → Option Value} {news : List (Addr × Obj)} {hp : Heap} {tk0 : Nat}
    (its : List Addr) (keep : List (Addr × Obj)) (J : Nat → (Str → Option Value) → List (Addr × Obj) → Prop)
    (W : KTurns prog w A target I fp wr n P Md St)
    (hits : ∀ b ∈ its, b ∈ fp ∧ h₀.get? b = none) (hwr : ∀ b ∈ wr, b ∈ its)
    (hfp : ∀ b ∈ fp, b ∈ its ∨ ∃ o, (b, o) ∈ keep) (hlive : ∀ i h, St i h → ∀ b ∈ its, ∃ o, h.get? b = some o)
    (hL : env.locals ∉ fp) (hnw : ∀ p ∈ news, p.1 ∉ its) (hst : St 0 hp)
    (F : Fr h₀ env.locals hp m₀) (N : News h₀ env.locals hp news)
    (hJk : ∀ i m nx, J i m nx → ∀ p ∈ keep, p ∈ nx) (hj : J 0 m₀ news)
    (turn : ∀ i v m₁ nx h tk own, i < n → P i v h → OwnOff own (nx.map (·.1)) → J i m₁ nx → Fr h₀ env.locals h m₁ → News h₀ env.locals h (nx ++ own) →
      wpAny (model prog w) A (assign target env v) (fun _ s₂ => wpAny (model prog w) A (execs body env) (InvPostG h₀ env.locals (J (i + 1)) own { s with heap := h, toks := tk } Q) E s₂) E { s with heap := h, toks := tk })
    (done : ∀ m₁ nx h tk, J n m₁ nx → Fr h₀ env.locals h m₁ → News h₀ env.locals h nx → Q .next { s with heap := h, toks := tk }) :
    TurnsAt prog w A h₀ env target body Q E (.ref I) { s with heap := hp, toks := tk0 } := by
  let J' : Nat → (Str → Option Value) → List (Addr × Obj) → Prop := fun i m₁ nx => (∀ p ∈ nx, p.1 ∉ its) ∧ J i m₁ nx
  refine ⟨I, fp, wr, n, P, Md, St, m₀, news, J', rfl, W, hL, fun b hb => (hits b (hwr b hb)).2, fun p hp hb => hnw p hp (hwr _ hb), hst, F, N, ⟨hnw, hj⟩, ?_, ?_⟩
  · rintro i v m₁ nx h₁ tk₁ own hin hPi ⟨hoff, hJ⟩ _ hown hget hall hst₁ F₁ N₁
    have hk := hJk i m₁ nx hJ
    have hsep : OwnOff (own.filter fun p => decide (p.1 ∈ its)) (nx.map (·.1)) := by
      intro p hp b hb e
      obtain ⟨q, hq, rfl⟩ := List.mem_map.mp hb
      have h1 : p.1 ∈ its := by simpa using (List.mem_filter.mp hp).2
      exact hoff q hq (e ▸ h1)
    have N₂ : News h₀ env.locals h₁ (nx ++ own.filter fun p => decide (p.1 ∈ its)) := fun p hp => by
      rcases List.mem_append.mp hp with hp | hp
      · exact N₁ _ (List.mem_append_right _ hp)
      · exact N₁ _ (List.mem_append_left _ (List.mem_filter.mp hp).1)
    have fin : ∀ s₃, InvEndG h₀ env.locals (J (i + 1)) (own.filter fun p => decide (p.1 ∈ its)) { s with heap := h₁, toks := tk₁ } s₃ →
        LoopStepU h₀ env.locals wr own (J' (i + 1)) { s with heap := h₁, toks := tk₁ } .next s₃ := by
      rintro s₃ ⟨h', tk, m', news', nx', e, F', N', hn, ho, ha, hm⟩
      have off' : ∀ p ∈ nx', p.1 ∉ its := fun p hp hb => by
        obtain ⟨o, hbo⟩ := hlive _ _ hst₁ _ hb
        have hmem := hall p.1 (hits _ hb).1 (hits _ hb).2 o hbo
        exact ha (p.1, o) (List.mem_filter.mpr ⟨hmem, by simpa using hb⟩) p.1 (List.mem_map.mpr ⟨p, hp, rfl⟩) rfl
      refine ⟨rfl, h', tk, m', nx', e, F', ?_, fun p hp hb => off' p hp (hwr _ hb), off', hm⟩
      intro p hp
      rcases List.mem_append.mp hp with hp | hp
      · by_cases hi : p.1 ∈ its
        · exact N' p (ho p (List.mem_filter.mpr ⟨hp, by simpa using hi⟩))
        · rcases hfp p.1 (hown p hp) with h3 | ⟨o, h3⟩
          · exact absurd h3 hi
          · have h4 : h₁.get? p.1 = some o := (N₁ _ (List.mem_append_right _ (hk _ h3))).1
            have h2 : h₁.get? p.1 = some p.2 := hget _ hp
            have h6 : p = (p.1, o) := Prod.ext rfl (Option.some.inj (h2.symm.trans h4))
            rw [h6]
            exact N' _ (hn _ (hJk _ _ _ hm _ h3))
      · exact N' p (hn p hp)
    refine wpAny_mono (turn i v m₁ nx h₁ tk₁ _ hin hPi hsep hJ F₁ N₂) (fun _ s₂ h₂ => wpAny_mono h₂ (fun f s₃ p => ?_) fun _ _ e => e) fun _ _ e => e
    cases f with
    | ret v => exact .ret p
    | brk => exact .brk p
    | next => exact .next (fin _ p)
    | cont => exact .cont (fin _ p)
  · rintro h' tk m' nx F' N' _ ⟨_, hJ⟩
    exact done m' nx h' tk hJ F' N'

/-- over a list of the ledger -/
theorem for_list {ax : Addr} {vs : List Value} {nn : Nat} {m₀ : Str → Option Value} {news : List (Addr × Obj)} (J : Nat → (Str → Option Value) → List (Addr × Obj) → Prop)
    (hh : A.handled = none) (F : Fr h₀ env.locals s.heap m₀) (N : News h₀ env.locals s.heap news) (hm : (ax, listOf vs.toArray nn) ∈ news)
    (hJk : ∀ i m nx, J i m nx → (ax, listOf vs.toArray nn) ∈ nx) (hj : J 0 m₀ news)
    (turn : ∀ i v m₁ nx h tk own, vs[i]? = some v → OwnOff own (nx.map (·.1)) → J i m₁ nx → Fr h₀ env.locals h m₁ → News h₀ env.locals h (nx ++ own) →
      wpAny (model prog w) A (assign target env v) (fun _ s₂ => wpAny (model prog w) A (execs body env) (InvPostG h₀ env.locals (J (i + 1)) own { s with heap := h, toks := tk } Q) E s₂) E { s with heap := h, toks := tk })
    (done : ∀ m₁ nx h tk, J vs.length m₁ nx → Fr h₀ env.locals h m₁ → News h₀ env.locals h nx → Q .next { s with heap := h, toks := tk }) :
    wpAny (model prog w) A (pyIter (.ref ax)) (fun it s₂ => TurnsAt prog w A h₀ env target body Q E it s₂) E s := by
  have hax := N _ hm
  have hl : s.heap.IsList ax vs.toArray := ⟨_, hax.1, rfl, nn, rfl⟩
  have hlt : ax < s.heap.objs.size := Heap.lt_size hax.1
  have hne : ax ≠ s.heap.objs.size := Nat.ne_of_lt hlt
  refine wpAny_pyIter_list hl ?_
  refine inv_turns (tk0 := s.toks) [s.heap.objs.size] [(ax, listOf vs.toArray nn)] J (KTurns.ofWalks (Walks.list hh s.heap.objs.size ax hne vs.toArray) fun i v s Q E st q => letGo_listiter st.1 q) (fun b hb => ?_) (fun b hb => by simpa using hb) (fun b hb => ?_) (fun i h st b hb => ?_) ?_ (fun p hp hI => ?_) ?_ (F.push _) (fun p hp => ⟨Heap.get?_push_of_some _ (N p hp).1, (N p hp).2⟩) (fun i m nx hJ p hp => ?_) hj (fun i v m₁ nx h tk own hi hP => ?_) (fun m₁ nx h tk hJ => ?_)
  · rw [List.mem_singleton.mp hb]
    exact ⟨List.mem_cons_self .., next_is_new F⟩
  · have hb' : b = s.heap.objs.size ∨ b = ax := by simpa using hb
    rcases hb' with e | e
    · exact .inl (by simp [e])
    · exact .inr ⟨_, by rw [e]; exact List.mem_cons_self ..⟩
  · rw [List.mem_singleton.mp hb]
    obtain ⟨it, hit, _⟩ := st.1
    exact ⟨it, hit⟩
  · intro hI
    rcases List.mem_cons.mp hI with e | hI
    · exact absurd F.ns.lt (e ▸ Nat.lt_irrefl _)
    · exact hax.2.1 (List.mem_singleton.mp hI).symm
  · exact absurd (Heap.lt_size (N p hp).1) ((List.mem_singleton.mp hI) ▸ Nat.lt_irrefl _)
  · exact ⟨⟨_, Heap.get?_push_size _ rfl, rfl, rfl⟩, hl.at fun o e => Heap.get?_push_of_some _ e⟩
  · rw [List.mem_singleton.mp hp]; exact hJk i m nx hJ
  · refine turn i v m₁ nx h tk own ?_
    have hP' : vs.toArray[i]? = some v := hP
    simpa using hP'
  · refine done m₁ nx h tk (by simpa using hJ)

/-- over enumerate of a list of the ledger -/
theorem for_enum {elts : List PySem.Expr} {k : Nat} {pos : Pos} {l : Addr} {vs : List Value} {nn : Nat} {m₀ : Str → Option Value} {news : List (Addr × Obj)} (J : Nat → (Str → Option Value) → List (Addr × Obj) → Prop)
    (hh : A.handled = none) (F : Fr h₀ env.locals s.heap m₀) (N : News h₀ env.locals s.heap news) (hm : (l, listOf vs.toArray nn) ∈ news)
    (hJk : ∀ i m nx, J i m nx → (l, listOf vs.toArray nn) ∈ nx) (hj : J 0 m₀ news)
    (turn : ∀ (i : Nat) x T t m₁ nx h tk own, vs[i]? = some x → IsTup h T #[.int (i : Int) t, x] → OwnOff own (nx.map (·.1)) → J i m₁ nx → Fr h₀ env.locals h m₁ → News h₀ env.locals h (nx ++ own) →
      wpAny (model prog w) A (assign (.Tuple elts k pos) env (.ref T)) (fun _ s₂ => wpAny (model prog w) A (execs body env) (InvPostG h₀ env.locals (J (i + 1)) own { s with heap := h, toks := tk } Q) E s₂) E { s with heap := h, toks := tk })
    (done : ∀ m₁ nx h tk, J vs.length m₁ nx → Fr h₀ env.locals h m₁ → News h₀ env.locals h nx → Q .next { s with heap := h, toks := tk }) :
    wpAny (model prog w) A (call (.type "enumerate") [.ref l]) (fun xv s₁ => wpAny (model prog w) A (pyIter xv) (fun it s₂ => TurnsAt prog w A h₀ env (.Tuple elts k pos) body Q E it s₂) E s₁) E s := by
  have hax := N _ hm
  have hl : s.heap.IsList l vs.toArray := ⟨_, hax.1, rfl, nn, rfl⟩
  have hlt : l < s.heap.objs.size := Heap.lt_size hax.1
  have hLs : env.locals < s.heap.objs.size := F.ns.lt
  refine call_enumerate_list hl fun h' hE hI hsz hk => ?_
  refine wpAny_pyIter_enum hE ?_
  refine inv_turns (tk0 := s.toks) [s.heap.objs.size + 1, s.heap.objs.size] [(l, listOf vs.toArray nn)] J (KTurns.ofWalksU (WalksT.enumerate hh (s.heap.objs.size + 1) s.heap.objs.size l (Nat.succ_ne_self _) (ktu_ne 1 hlt) (Nat.ne_of_lt hlt) vs.toArray).toU) ?_ ?_ ?_ ?_ ?_ ?_ ?_ (F.keeps hk) (N.grown hk) (fun i m nx hJ p hp => ?_) hj (fun i v m₁ nx h tk own hi hP => ?_) (fun m₁ nx h tk hJ => ?_)
  · intro b hb
    have hb' : b = s.heap.objs.size + 1 ∨ b = s.heap.objs.size := by simpa using hb
    rcases hb' with rfl | rfl
    · exact ⟨by simp, ktu_new F (Nat.le_add_right _ _)⟩
    · exact ⟨by simp, ktu_new F (Nat.le_refl _)⟩
  · intro b hb
    simpa using hb
  · intro b hb
    have hb' : b = s.heap.objs.size + 1 ∨ b = s.heap.objs.size ∨ b = l := by simpa using hb
    rcases hb' with rfl | rfl | rfl
    · exact .inl (by simp)
    · exact .inl (by simp)
    · exact .inr ⟨_, List.mem_cons_self ..⟩
  · rintro i h ⟨⟨old, he⟩, ⟨oi, hoi, _⟩, _⟩ b hb
    have hb' : b = s.heap.objs.size + 1 ∨ b = s.heap.objs.size := by simpa using hb
    rcases hb' with rfl | rfl
    · exact ⟨_, he⟩
    · exact ⟨_, hoi⟩
  · intro hI'
    have hb' : env.locals = s.heap.objs.size + 1 ∨ env.locals = s.heap.objs.size ∨ env.locals = l := by simpa using hI'
    rcases hb' with e | e | e
    · exact ktu_ne 1 hLs e
    · exact Nat.ne_of_lt hLs e
    · exact hax.2.1 e.symm
  · intro p hp hI'
    have hb' : p.1 = s.heap.objs.size + 1 ∨ p.1 = s.heap.objs.size := by simpa using hI'
    have hlp := Heap.lt_size (N p hp).1
    rcases hb' with e | e
    · exact ktu_ne 1 hlp e
    · exact Nat.ne_of_lt hlp e
  · exact ⟨⟨.none, hE⟩, hI, hl.at fun o e => hk l o e⟩
  · rw [List.mem_singleton.mp hp]; exact hJk i m nx hJ
  · obtain ⟨T, vals, rfl, ⟨t, x, hx, rfl⟩, hT⟩ := hP
    exact turn i x T t m₁ nx h tk own (by simpa using hx) hT
  · exact done m₁ nx h tk (by simpa using hJ)
end

section
variable {prog : Program} {w : World} {A : Around} {E : Value → Shared → Prop} {s : Shared} {h₀ : Heap} {L l : Addr} {news : List (Addr × Obj)} {vs : List Value} {n k : Nat}
theorem my_len {Q : Value → Shared → Prop} (N : News h₀ L s.heap news) (hm : (l, listOf vs.toArray n) ∈ news) (hk : vs.length = k) (hfit : k < 2 ^ 62) (h : ∀ t tk, Q (.int (k : Int) t) { s with toks := tk }) :
    wpAny (model prog w) A (call (.builtin "len") [.ref l]) Q E s := by
  have hl : s.heap.IsList l vs.toArray := ⟨_, (N _ hm).1, rfl, n, rfl⟩
  have e : vs.toArray.size = k := by rw [List.size_toArray]; exact hk
  exact call_len_list hl (by rw [e]; lia  ) (by rw [e]; exact h _ _)
end

section
variable {prog : Program} {w : World} {A : Around} {E : Value → Shared → Prop} {s : Shared} {h₀ : Heap} {L D : Addr} {m : Str → Option Value} {news news' : List (Addr × Obj)} {vs : List Value} {n : Nat} {x : Value}
theorem my_append {Q : Value → Shared → Prop} (F : Fr h₀ L s.heap m) (N : News h₀ L s.heap news) (U : Upd D (listOf vs.toArray n) (listOf (vs ++ [x]).toArray (n + 1)) news news') (hk : vs.length ≤ 100000)
    (h : ∀ h', Fr h₀ L h' m → News h₀ L h' news' → Q .none { s with heap := h' }) : wpAny (model prog w) A (call (.builtin "list.append") [.ref D, x]) Q E s := by
  have e : (vs ++ [x]).toArray = vs.toArray.push x := by simp
  rw [e] at U
  exact append_K F N U h (by rw [List.size_toArray, sizeLine_eq]; lia  )
end
def MWEnd (h₀ : Heap) (L : Addr) (J : Nat → (Str → Option Value) → List (Addr × Obj) → Prop) (n : Nat) (s₁ s₂ : Shared) : Prop :=
  ∃ h' tk m' news' nx k, s₂ = { s₁ with heap := h', toks := tk } ∧ Fr h₀ L h' m' ∧ News h₀ L h' news' ∧ (∀ p ∈ nx, p ∈ news') ∧ k < n ∧ J k m' nx
def MWPost (h₀ : Heap) (L : Addr) (J : Nat → (Str → Option Value) → List (Addr × Obj) → Prop) (n : Nat) (s₁ : Shared) (Q : Flow → Shared → Prop) (f : Flow) (s₂ : Shared) : Prop :=
  match f with
  | .ret v => Q (.ret v) s₂
  | .brk => Q .next s₂
  | _ => MWEnd h₀ L J n s₁ s₂
theorem endW {h₀ h' : Heap} {L : Addr} {J : Nat → (Str → Option Value) → List (Addr × Obj) → Prop} {m' : Str → Option Value} {news' nx : List (Addr × Obj)} {n : Nat} {s₁ : Shared} {tk : Nat} (k : Nat) (F : Fr h₀ L h' m') (N : News h₀ L h' news')
    (hj : J k m' nx) (hk : k < n) (hn : ∀ p ∈ nx, p ∈ news') : MWEnd h₀ L J n s₁ { s₁ with heap := h', toks := tk } := ⟨h', tk, m', news', nx, k, rfl, F, N, hn, hk, hj⟩
section
variable {prog : Program} {w : World} {A : Around} {E : Value → Shared → Prop} {Q : Flow → Shared → Prop} {s : Shared} {env : Env} {h₀ : Heap} {L : Addr}
theorem my_while {test : PySem.Expr} {body : List Stmt} {pos : Pos} {m : Str → Option Value} {news : List (Addr × Obj)} (J : Nat → (Str → Option Value) → List (Addr × Obj) → Prop) {n₀ : Nat}
    (F : Fr h₀ L s.heap m) (N : News h₀ L s.heap news) (hJ : J n₀ m news)
    (turn : ∀ n m₁ nx h tk, J n m₁ nx → Fr h₀ L h m₁ → News h₀ L h nx →
      wpAny (model prog w) A (isTrue test env (eval test env)) (fun b s₂ =>
        if b = true then wpAny (model prog w) A (execs body env) (MWPost h₀ L J n s Q) E s₂ else Q .next s₂) E { s with heap := h, toks := tk })
    (hE : PassesOwn (model prog w) A env E := by passes_own) :
    wpAny (model prog w) A (exec (.While test body [] pos) env) Q E s := by
  refine While_inv2 J F N hJ ?_ hE
  intro n m₁ nx h tk F₁ N₁ J₁
  refine wpAny_mono (turn n m₁ nx h tk J₁ F₁ N₁) (fun b s₂ p => ?_) fun _ _ x => x
  cases b with
  | false => simpa using p
  | true =>
    simp only [if_true] at p ⊢
    refine wpAny_mono p (fun f s₃ q => ?_) fun _ _ x => x
    cases f with
    | ret v => exact q
    | brk => exact q
    | next =>
      obtain ⟨h', tk', m', news', nx', k, rfl, F', N', hn, hk, hj⟩ := q
      exact ⟨h', tk', m', nx', k, rfl, F', fun p hp => N' p (hn p hp), hk, hj⟩
    | cont =>
      obtain ⟨h', tk', m', news', nx', k, rfl, F', N', hn, hk, hj⟩ := q
      exact ⟨h', tk', m', nx', k, rfl, F', fun p hp => N' p (hn p hp), hk, hj⟩
end
structure Stop (P : Prop) : Prop where
  out : P

/-- but for the names ys the frame's map is what it was -/
def Same (ys : List Str) (m₀ m : Str → Option Value) : Prop := ∀ z, ys.contains z = false → m z = m₀ z
theorem Same.refl {ys : List Str} {m : Str → Option Value} : Same ys m m := fun _ _ => rfl
theorem Same.fr {h₀ h : Heap} {L : Addr} {ys : List Str} {m₀ m : Str → Option Value} (H : Same ys m₀ m) (F : Fr h₀ L h m) : Fr h₀ L h (fun z => if ys.contains z = true then m z else m₀ z) := by
  have e : (fun z => if ys.contains z = true then m z else m₀ z) = m := by
    funext z
    cases h : ys.contains z with
    | true => simp
    | false => simp only [Bool.false_eq_true, if_false]; exact (H z h).symm
  rw [e]
  exact F
theorem Same.mix {ys : List Str} {m₀ m : Str → Option Value} : Same ys m₀ (fun z => if ys.contains z = true then m z else m₀ z) := fun z hz => by simp only [hz, Bool.false_eq_true, if_false]
theorem Same.put {ys : List Str} {m₀ m : Str → Option Value} {x : Str} {v : Option Value} (hx : ys.contains x = true) (H : Same ys m₀ m) : Same ys m₀ (fun z => if z = x then v else m z) := fun z hz => by
  have : z ≠ x := fun e => by rw [e, hx] at hz; cases hz
  show (if z = x then v else m z) = m₀ z
  rw [if_neg this]
  exact H z hz
theorem fr_val {h₀ h : Heap} {L : Addr} {m : Str → Option Value} {x : Str} {v : Value} (hx : m x = some v) (F : Fr h₀ L h m) : Fr h₀ L h (fun z => if z = x then some v else m z) := by
  have e : (fun z => if z = x then some v else m z) = m := by
    funext z
    by_cases h : z = x
    · rw [if_pos h, h, hx]
    · rw [if_neg h]
  rw [e]
  exact F
theorem Same.frv {h₀ h : Heap} {L : Addr} {ys : List Str} {m₀ m : Str → Option Value} {x : Str} {v : Value} (H : Same ys m₀ m) (hx : m x = some v) (F : Fr h₀ L h m) : Fr h₀ L h (fun z => if z = x then some v else if ys.contains z = true then m z else m₀ z) := by
  have e : (fun z => if z = x then some v else if ys.contains z = true then m z else m₀ z) = m := by
    funext z
    by_cases h : z = x
    · rw [if_pos h, h, hx]
    · rw [if_neg h]
      cases h : ys.contains z with
      | true => simp
      | false => simp only [Bool.false_eq_true, if_false]; exact (H z h).symm
  rw [e]
  exact F
theorem Same.frv2 {h₀ h : Heap} {L : Addr} {ys : List Str} {m₀ m : Str → Option Value} {x y : Str} {v u : Value} (H : Same ys m₀ m) (hx : m x = some v) (hy : m y = some u) (F : Fr h₀ L h m) :
    Fr h₀ L h (fun z => if z = x then some v else if z = y then some u else if ys.contains z = true then m z else m₀ z) := by
  have e : (fun z => if z = x then some v else if z = y then some u else if ys.contains z = true then m z else m₀ z) = m := by
    funext z
    by_cases h : z = x
    · rw [if_pos h, h, hx]
    · rw [if_neg h]
      by_cases h' : z = y
      · rw [if_pos h', h', hy]
      · rw [if_neg h']
        cases h : ys.contains z with
        | true => simp
        | false => simp only [Bool.false_eq_true, if_false]; exact (H z h).symm
  rw [e]
  exact F
theorem Same.over {ys zs : List Str} {m₀ m m' : Str → Option Value} (hz : ∀ z, zs.contains z = true → ys.contains z = true) (H : Same ys m₀ m') : Same ys m₀ (fun z => if zs.contains z = true then m z else m' z) := by
  intro z h
  show (if zs.contains z = true then m z else m' z) = m₀ z
  rw [if_neg (fun e => by rw [hz z e] at h; cases h)]
  exact H z h
theorem Same.frv3 {h₀ h : Heap} {L : Addr} {ys : List Str} {m₀ m : Str → Option Value} {x y x' : Str} {v u v' : Value} (H : Same ys m₀ m) (hx : m x = some v) (hy : m y = some u) (hz : m x' = some v') (F : Fr h₀ L h m) :
    Fr h₀ L h (fun z => if z = x then some v else if z = y then some u else if z = x' then some v' else if ys.contains z = true then m z else m₀ z) := by
  have e : (fun z => if z = x then some v else if z = y then some u else if z = x' then some v' else if ys.contains z = true then m z else m₀ z) = m := by
    funext z
    by_cases h : z = x
    · rw [if_pos h, h, hx]
    · rw [if_neg h]
      by_cases h' : z = y
      · rw [if_pos h', h', hy]
      · rw [if_neg h']
        by_cases h'' : z = x'
        · rw [if_pos h'', h'', hz]
        · rw [if_neg h'']
          cases h : ys.contains z with
          | true => simp
          | false => simp only [Bool.false_eq_true, if_false]; exact (H z h).symm
  rw [e]
  exact F
theorem endG {h₀ h' : Heap} {L : Addr} {J : (Str → Option Value) → List (Addr × Obj) → Prop} {m' : Str → Option Value} {own news' nx : List (Addr × Obj)} {adr : List Addr} {s₁ : Shared} {tk : Nat} (F : Fr h₀ L h' m') (N : News h₀ L h' news')
    (hj : J m' nx) (ha : OwnOff own adr) (he : nx.map (·.1) = adr) (hn : ∀ p ∈ nx ++ own, p ∈ news') : InvEndG h₀ L J own s₁ { s₁ with heap := h', toks := tk } :=
  InvEndG.intro F N hj (he ▸ ha) (fun p hp => hn p (List.mem_append_left _ hp)) (fun p hp => hn p (List.mem_append_right _ hp))
theorem off_own {own news : List (Addr × Obj)} {D : Addr} (h : OwnOff own (D :: news.map (·.1))) : ∀ p ∈ own, p.1 ≠ D := fun p hp => h p hp D (.head _)
theorem off_by {news : List (Addr × Obj)} {B D : Addr} (h : ∀ p ∈ news, p.1 < B) (hb : @LE.le Nat _ B D) : ∀ p ∈ news, p.1 ≠ D := fun p hp => Nat.ne_of_lt (Nat.lt_of_lt_of_le (h p hp) hb)
theorem forall_append {α : Type} {a b : List α} {P : α → Prop} (h1 : ∀ p ∈ a, P p) (h2 : ∀ p ∈ b, P p) : ∀ p ∈ a ++ b, P p := fun p hp => (List.mem_append.mp hp).elim (h1 p) (h2 p)
theorem lt_ne {news : List (Addr × Obj)} {D : Addr} (h : ∀ p ∈ news, p.1 < D) : ∀ p ∈ news, p.1 ≠ D := fun p hp => Nat.ne_of_lt (h p hp)
end
section
open PySem PySem.W PyProof.Rows PySem.Spec PySem.Calls PyProof.Rows.LCg
/-- what a comprehension's turn leaves: the things `fix` as they were, and a ledger of which K holds -/
inductive CEnd (h₀ : Heap) (L : Addr) (m : Str → Option Value) (s₁ : Shared) (fix : List (Addr × Obj)) (K : List (Addr × Obj) → Prop) : Shared → Prop
  | mk (h' : Heap) (tk : Nat) (nx : List (Addr × Obj)) : Fr h₀ L h' m → News h₀ L h' (fix ++ nx) → (∀ p ∈ fix, ∀ q ∈ nx, p.1 ≠ q.1) → K nx → CEnd h₀ L m s₁ fix K { s₁ with heap := h', toks := tk }
theorem endC {h₀ h' : Heap} {L : Addr} {m : Str → Option Value} {s₁ : Shared} {fix all : List (Addr × Obj)} {K : List (Addr × Obj) → Prop} {tk : Nat} (nx : List (Addr × Obj)) (F : Fr h₀ L h' m) (N : News h₀ L h' all)
    (hK : K nx) (hn : ∀ p ∈ fix ++ nx, p ∈ all) (hd : ∀ p ∈ fix, ∀ q ∈ nx, p.1 ≠ q.1) : CEnd h₀ L m s₁ fix K { s₁ with heap := h', toks := tk } := .mk h' tk nx F (fun p hp => N p (hn p hp)) hd hK

def ifsOf : Option PySem.Expr → List PySem.Expr
  | none => []
  | some c => [c]

def CTurn (prog : Program) (w : World) (A : Around) (ct : Option PySem.Expr) (elt : PySem.Expr) (cenv : Env) (K1 : Value → Shared → Prop) (K0 : Shared → Prop) (E : Value → Shared → Prop) (s : Shared) : Prop := match ct with
  | none => wpAny (model prog w) A (eval elt cenv) K1 E s
  | some c => wpAny (model prog w) A (isTrue c cenv (eval c cenv)) (fun ok s' => if ok = true then wpAny (model prog w) A (eval elt cenv) K1 E s' else K0 s') E s

section
variable {prog : Program} {w : World} {A : Around} {E : Value → Shared → Prop} {s : Shared} {h₀ : Heap} {L : Addr} {m : Str → Option Value} {env : Env}

theorem CTurn.mono {ct : Option PySem.Expr} {elt : PySem.Expr} {cenv : Env} {K1 K1' : Value → Shared → Prop} {K0 K0' : Shared → Prop} (h : CTurn prog w A ct elt cenv K1 K0 E s) (h1 : ∀ v s, K1 v s → K1' v s) (h0 : ∀ s, K0 s → K0' s) : CTurn prog w A ct elt cenv K1' K0' E s := by
  cases ct with
  | none => exact wpAny_mono h h1 fun _ _ e => e
  | some c =>
    refine wpAny_mono h (fun ok s' h' => ?_) fun _ _ e => e
    cases ok with
    | true =>
      simp only [if_true] at h' ⊢
      exact wpAny_mono h' h1 fun _ _ e => e
    | false =>
      simp only [Bool.false_eq_true, if_false] at h' ⊢
      exact h0 _ h'

theorem my_compLoop {ct : Option PySem.Expr} {elt target iter : PySem.Expr} {scope : Scope} {pos : Pos} {it acc : Value} {env : Env} {R : Result → Shared → Prop} (I : Nat → Shared → Prop)
    (turn : ∀ n s, I n s → wpAny (model prog w) A (pyNext it) (fun r s₁ => match r with
      | none => R (.ok .next) s₁
      | some v => wpAny (model prog w) A (letOwnedTupleGo target it v) (fun _ s₀ => wpAny (model prog w) A (assign target env v) (fun _ s₂ =>
          CTurn prog w A ct elt env (fun x s₄ => wpAny (model prog w) A (call (.builtin "list.append") [acc, x]) (fun _ s₅ => ∃ m, m < n ∧ I m s₅) (notedBy (model prog w) A env fun e s' => R (.error e) s') s₄)
            (fun s₃ => ∃ m, m < n ∧ I m s₃) (notedBy (model prog w) A env fun e s' => R (.error e) s') s₂)
          (notedBy (model prog w) A env fun e s' => R (.error e) s') s₀) (notedBy (model prog w) A env fun e s' => R (.error e) s') s₁) (notedBy (model prog w) A env fun e s' => R (.error e) s') s)
    (n : Nat) (h : I n s) : codeAny (model prog w) A (.compLoop (.ListComp elt [⟨target, iter, ifsOf ct, 0⟩] scope pos) 0 it acc env) R s := by
  cases ct with
  | none => exact kcp_loop I turn n h
  | some c => exact kct_loop I turn n h

inductive BlkI (h₀ : Heap) (L : Addr) (m : Str → Option Value) (C D : Addr) (its : List Addr) (n : Nat) (St : Nat → Heap → Prop) (J : Nat → List Value → List (Addr × Obj) → Prop) (s₂ : Shared) : Nat → Shared → Prop
  | mk (h' : Heap) (tk i : Nat) (ys : List Value) (m' : Str → Option Value) (nx : List (Addr × Obj)) (hi : i ≤ n) (hyl : ys.length ≤ i) (hst : St i h') (F : Fr h₀ L h' m) (hn : h'.Ns C m') (N : News h₀ L h' ((D, lst ys) :: nx))
    (off : ∀ p ∈ nx, p.1 ≠ C ∧ p.1 ≠ D ∧ p.1 ∉ its) (hJ : J i ys nx) : BlkI h₀ L m C D its n St J s₂ (n + 1 - i) { s₂ with heap := h', toks := tk }
inductive BlkE (h₀ : Heap) (L : Addr) (m : Str → Option Value) (C D : Addr) (its : List Addr) (i : Nat) (St : Nat → Heap → Prop) (J : Nat → List Value → List (Addr × Obj) → Prop) (s₂ : Shared) (m'' : Str → Option Value) (ys ys' : List Value) : Shared → Prop
  | mk (h₅ : Heap) (tk₅ : Nat) (nx' : List (Addr × Obj)) (hst : St (i + 1) h₅) (F : Fr h₀ L h₅ m) (hn : h₅.Ns C m'') (N : News h₀ L h₅ ((D, lst ys) :: nx')) (off : ∀ p ∈ nx', p.1 ≠ C ∧ p.1 ≠ D ∧ p.1 ∉ its) (hJ : J (i + 1) ys' nx') :
    BlkE h₀ L m C D its i St J s₂ m'' ys ys' { s₂ with heap := h₅, toks := tk₅ }

theorem my_block {ct : Option PySem.Expr} {elt target iter : PySem.Expr} {scope : Scope} {cl : List (Str × Addr)} {pos : Pos} {s₂ : Shared} {I : Addr} {fp wr : List Addr} {n : Nat} {P Md : Nat → Value → Heap → Prop} {St : Nat → Heap → Prop}
    {B : Nat → (Str → Option Value) → Prop} {news : List (Addr × Obj)} (its : List Addr) (keep : List (Addr × Obj)) (J : Nat → List Value → List (Addr × Obj) → Prop) {RR : Value → Addr → Result → Shared → Prop}
    (W : KTurns prog w A target I fp wr n P Md St)
    (hself : ∀ (s : Shared) (Q : Value → Shared → Prop) (E : Value → Shared → Prop), St 0 s.heap → Q (.ref I) s → wpAny (model prog w) A (pyIter (.ref I)) Q E s)
    (hits : ∀ b ∈ its, b ∈ fp ∧ h₀.get? b = none) (hwr : ∀ b ∈ wr, b ∈ its) (hfp : ∀ b ∈ fp, b ∈ its ∨ ∃ o, (b, o) ∈ keep) (hlive : ∀ i h, St i h → ∀ b ∈ its, ∃ o, h.get? b = some o)
    (hL : L ∉ fp) (hnw : ∀ p ∈ news, p.1 ∉ its) (hst : St 0 s₂.heap) (hfl : ∀ b ∈ fp, b < s₂.heap.objs.size)
    (hcell : ∀ y ∈ scope.names, y.2 ≠ .cell) (hkind : scope.kind = .function)
    (hasg : ∀ C i v (s : Shared) m' (Q : Unit → Shared → Prop) (E : Value → Shared → Prop), P i v s.heap → s.heap.Ns C m' →
      (∀ h' tk m'', B i m'' → h'.Ns C m'' → (∀ b o, b ≠ C → s.heap.get? b = some o → h'.get? b = some o) → Q () { s with heap := h', toks := tk }) → wpAny (model prog w) A (assign target (compEnvC scope cl C env) v) Q E s)
    (F : Fr h₀ L s₂.heap m) (N : News h₀ L s₂.heap news) (hsz : n ≤ sizeLine)
    (hJk : ∀ i ys nx, J i ys nx → ∀ p ∈ keep, p ∈ nx) (hj : J 0 [] news)
    (turn : ∀ i ys nx h tk own C oC D m₂ (E' : Value → Shared → Prop), i < n → B i m₂ → J i ys nx → NsObj oC m₂ → Fr h₀ L h m → News h₀ L h (((C, oC) :: (D, lst ys) :: own) ++ nx) → (∀ p ∈ (C, oC) :: (D, lst ys) :: own, ∀ q ∈ nx, p.1 ≠ q.1) →
      CTurn prog w A ct elt (compEnvC scope cl C env) (fun y => CEnd h₀ L m { s₂ with heap := h, toks := tk } ((C, oC) :: (D, lst ys) :: own) (J (i + 1) (ys ++ [y]))) (CEnd h₀ L m { s₂ with heap := h, toks := tk } ((C, oC) :: (D, lst ys) :: own) (J (i + 1) ys)) E' { s₂ with heap := h, toks := tk })
    (hRR : ∀ D C h tk m' ys nx, J n ys nx → Fr h₀ L h m → News h₀ L h ((D, lst ys) :: nx) → (∀ p ∈ nx, p.1 < D) ∨ (∀ p ∈ nx, p.1 ≠ D) → h.Ns C m' → h₀.get? C = none → h₀.get? D = none → C ≠ L → D ≠ L → C ≠ D → (∀ p ∈ nx, p.1 ≠ C) → RR (.ref D) C (.ok .next) { s₂ with heap := h, toks := tk }) :
    wpAny (model prog w) A (newList []) (fun acc s₃ => wpAny (model prog w) A (newFunctionEnv scope env.globals cl [] env.qual none .none (some env)) (fun cenv s₄ =>
      codeAny (model prog w) A (.compStart (.ListComp elt [⟨target, iter, ifsOf ct, 0⟩] scope pos) 0 (.ref I) acc { cenv with scope := relabel scope env }) (RR acc cenv.locals) s₄) E s₃) E s₂ := by
  refine wpAny_newObj_type (wpAny_newFunctionEnv hcell (by intro y hy; simp at hy) (fun h₁ hns₁ hsb₁ => ?_) hkind)
  dsimp only at hns₁ hsb₁ ⊢
  generalize hH2 : s₂.heap.push { cls := .type "list", dict := none, data := .seq ([] : List Value).toArray } = H2 at hns₁ hsb₁ ⊢
  have hC : H2.objs.size = s₂.heap.objs.size + 1 := by rw [← hH2, Heap.size_push]
  have hDC : s₂.heap.objs.size ≠ H2.objs.size := by rw [hC]; exact Nat.ne_of_lt (Nat.lt_succ_self _)
  have below : ∀ b, b < s₂.heap.objs.size → b ≠ H2.objs.size ∧ b ≠ s₂.heap.objs.size := fun b hb => ⟨by rw [hC]; exact Nat.ne_of_lt (Nat.lt_succ_of_lt hb), Nat.ne_of_lt hb⟩
  have hDf : s₂.heap.objs.size ∉ fp := fun hm => Nat.lt_irrefl _ (hfl _ hm)
  have hCf : H2.objs.size ∉ fp := fun hm => by have := hfl _ hm; rw [hC] at this; exact Nat.lt_irrefl _ (Nat.lt_of_succ_lt this)
  have hCw : H2.objs.size ∉ wr := fun hm => hCf (W.sub _ hm)
  have hDw : s₂.heap.objs.size ∉ wr := fun hm => hDf (W.sub _ hm)
  have hLw : L ∉ wr := fun hm => hL (W.sub _ hm)
  have old : ∀ b o, s₂.heap.get? b = some o → h₁.get? b = some o := fun b o e => hsb₁.extBut b o (below b (Heap.lt_size e)).1 (Heap.get?_push_of_some _ (hH2 ▸ Heap.get?_push_of_some _ e))
  have hacc : h₁.get? s₂.heap.objs.size = some (lst []) := hsb₁.extBut _ _ hDC (Heap.get?_push_of_some _ (hH2 ▸ Heap.get?_push_size _ rfl))
  have hst₁ : St 0 h₁ := W.frame _ _ _ hst fun b _ o e => old b o e
  have fresh : ∀ a, s₂.heap.objs.size ≤ a → s₂.heap.get? a = none := fun a ha => by
    cases e : s₂.heap.get? a with
    | none => rfl
    | some o' => exact absurd (Heap.lt_size e) (Nat.not_lt.mpr ha)
  have fresh₀ : ∀ a, s₂.heap.objs.size ≤ a → h₀.get? a = none := fun a ha => by
    cases e : h₀.get? a with
    | none => rfl
    | some o' => have := F.keep a o' e; rw [fresh a ha] at this; cases this
  have hD₀ : h₀.get? s₂.heap.objs.size = none := fresh₀ _ (Nat.le_refl _)
  have hC₀ : h₀.get? H2.objs.size = none := fresh₀ _ (by rw [hC]; exact Nat.le_succ _)
  have hLlt : L < s₂.heap.objs.size := F.ns.lt
  have hDL : s₂.heap.objs.size ≠ L := Ne.symm (below L hLlt).2
  have hCL : H2.objs.size ≠ L := Ne.symm (below L hLlt).1
  have hwr₀ : ∀ b ∈ wr, h₀.get? b = none := fun b hb => (hits b (hwr b hb)).2
  have old₀ : ∀ b o, h₀.get? b = some o → b ∉ wr := fun b o e hb => by rw [hwr₀ b hb] at e; cases e
  have loop : ∀ s₃ : Shared, s₃ = { s₂ with heap := h₁, toks := s₂.toks + ([] : List (Str × Value)).length } →
      codeAny (model prog w) A (.compLoop (.ListComp elt [⟨target, iter, ifsOf ct, 0⟩] scope pos) 0 (.ref I) (.ref s₂.heap.objs.size) (compEnvC scope cl H2.objs.size env))
        (RR (.ref s₂.heap.objs.size) H2.objs.size) s₃ := by
    rintro s₃ rfl
    refine my_compLoop
      (BlkI h₀ L m H2.objs.size s₂.heap.objs.size its n St J s₂) ?_ (n + 1)
      (.mk h₁ _ 0 [] _ news (Nat.zero_le _) (Nat.zero_le _) hst₁ (F.keeps old) hns₁ (fun p hp => ?_) (fun p hp => ?_) hj)
    · intro k s' hI
      induction hI
      rename_i h' tk i ys m' nx hi hyl hst' F' hn' N' off' hJ'
      have next : ∀ h₂ : Heap, (∀ b o, b ∉ wr → h'.get? b = some o → h₂.get? b = some o) → Fr h₀ L h₂ m ∧ News h₀ L h₂ ((s₂.heap.objs.size, lst ys) :: nx) ∧ h₂.Ns H2.objs.size m' := fun h₂ hk₂ =>
        ⟨⟨F'.ns.at' fun o e => hk₂ _ o hLw e, fun b o e => hk₂ b o (old₀ b o e) (F'.keep b o e), F'.above⟩, fun p hp => ⟨hk₂ _ _ (by
          rcases List.mem_cons.mp hp with rfl | hp
          · exact hDw
          · exact fun hw => (off' p hp).2.2 (hwr _ hw)) (N' p hp).1, (N' p hp).2⟩, hn'.at' fun o e => hk₂ _ o hCw e⟩
      by_cases hlt : i < n
      · refine W.item i _ _ _ hlt hst' fun v h₂ tk₂ hMd hk₂ => ?_
        refine W.go i v _ _ _ hMd fun h₃ hP hst₃ hk₃ => ?_
        obtain ⟨F₃, N₃, hn₃⟩ := next h₃ fun b o hb e => hk₃ b o hb (hk₂ b o hb e)
        refine hasg _ i v _ m' _ _ hP hn₃ fun h₄ tk₄ m'' hB hn₄ hk₄ => ?_
        have F₄ : Fr h₀ L h₄ m := ⟨F₃.ns.at' fun o e => hk₄ _ o hCL.symm e, fun b o e => hk₄ b o (fun q => by rw [q, hC₀] at e; cases e) (F₃.keep b o e), F₃.above⟩
        obtain ⟨oC, heC, hoC⟩ := ns_obj hn₄
        have hst₄ : St (i + 1) h₄ := W.frame _ _ _ hst₃ fun b hb o e => hk₄ b o (fun q => hCf (q ▸ hb)) e
        have NX : News h₀ L h₄ ((s₂.heap.objs.size, lst ys) :: nx) := fun p hp => ⟨hk₄ _ _ (by
          rcases List.mem_cons.mp hp with rfl | hp
          · exact hDC
          · exact (off' p hp).1) (N₃ p hp).1, (N₃ p hp).2⟩
        have NO : News h₀ L h₄ (ownOf h₀ its h₄) := news_ownOf fun hm => hL (hits _ hm).1
        have N₄ : News h₀ L h₄ (((H2.objs.size, oC) :: (s₂.heap.objs.size, lst ys) :: ownOf h₀ its h₄) ++ nx) := fun p hp => by
          rcases List.mem_append.mp hp with hp | hp
          · rcases List.mem_cons.mp hp with rfl | hp
            · exact ⟨heC, hCL, hC₀⟩
            · rcases List.mem_cons.mp hp with rfl | hp
              · exact NX _ List.mem_cons_self
              · exact NO p hp
          · exact NX p (List.mem_cons_of_mem _ hp)
        have hdis : ∀ p ∈ (H2.objs.size, oC) :: (s₂.heap.objs.size, lst ys) :: ownOf h₀ its h₄, ∀ q ∈ nx, p.1 ≠ q.1 := fun p hp q hq e => by
          rcases List.mem_cons.mp hp with rfl | hp
          · exact (off' q hq).1 e.symm
          · rcases List.mem_cons.mp hp with rfl | hp
            · exact (off' q hq).2.1 e.symm
            · exact (off' q hq).2.2 (e ▸ ownOf_sub p hp)
        have ending : ∀ ys' s₅, CEnd h₀ L m { s₂ with heap := h₄, toks := tk₄ } ((H2.objs.size, oC) :: (s₂.heap.objs.size, lst ys) :: ownOf h₀ its h₄) (J (i + 1) ys') s₅ →
            BlkE h₀ L m H2.objs.size s₂.heap.objs.size its i St J s₂ m'' ys ys' s₅ := by
          intro ys' s₅ hI
          induction hI
          rename_i h₅ tk₅ nx' F₅ N₅ d₅ hJ₅
          have zC := (N₅ (H2.objs.size, oC) (List.mem_append_left _ List.mem_cons_self)).1
          refine .mk h₅ tk₅ nx' ?_ F₅ (hoC.ns zC) (fun p hp => ?_) (fun p hp => ⟨?_, ?_, ?_⟩) hJ₅
          · refine W.frame _ _ _ hst₄ fun b hb o e => ?_
            rcases hfp b hb with hbi | ⟨o', hk'⟩
            · exact (N₅ (b, o) (List.mem_append_left _ (List.mem_cons_of_mem _ (List.mem_cons_of_mem _ (mem_ownOf hbi (hits b hbi).2 e))))).1
            · have e' : h₄.get? b = some o' := (N₄ _ (List.mem_append_right _ (hJk _ _ _ hJ' _ hk'))).1
              rw [e] at e'
              cases e'
              exact (N₅ (b, o) (List.mem_append_right _ (hJk _ _ _ hJ₅ _ hk'))).1
          · rcases List.mem_cons.mp hp with rfl | hp
            · exact N₅ _ (List.mem_append_left _ (List.mem_cons_of_mem _ List.mem_cons_self))
            · exact N₅ p (List.mem_append_right _ hp)
          · exact fun e => d₅ _ List.mem_cons_self p hp e.symm
          · exact fun e => d₅ _ (List.mem_cons_of_mem _ List.mem_cons_self) p hp e.symm
          · intro hbi
            obtain ⟨o, ho⟩ := hlive _ _ hst₄ _ hbi
            exact d₅ (p.1, o) (List.mem_cons_of_mem _ (List.mem_cons_of_mem _ (mem_ownOf hbi (hits _ hbi).2 ho))) p hp rfl
        refine CTurn.mono (turn i ys nx h₄ tk₄ (ownOf h₀ its h₄) H2.objs.size oC s₂.heap.objs.size m'' _ hlt hB hJ' hoC F₄ N₄ hdis) (fun y s₅ h₅ => ?_) fun s₅ h₅ => ?_
        · replace h₅ := ending _ _ h₅
          induction h₅
          rename_i h₅ tk₅ nx' st₅ F₅ n₅ N₅ o₅ J₅
          have zD := (N₅ (s₂.heap.objs.size, lst ys) List.mem_cons_self).1
          refine append_at (hsz := by show ys.toArray.size ≤ sizeLine; rw [List.size_toArray]; exact Nat.le_trans hyl (Nat.le_trans hi hsz)) zD fun h₆ hs₆ hD₆ => ?_
          refine ⟨n + 1 - (i + 1), by lia  , .mk h₆ tk₅ (i + 1) (ys ++ [y]) _ nx' hlt (by rw [List.length_append, List.length_singleton]; lia  ) (W.frame _ _ _ st₅ fun b hb o e => hs₆.extBut b o (fun q => hDf (q ▸ hb)) e) (F₅.change hs₆ hDL hD₀)
            (n₅.sameBut hs₆ (Ne.symm hDC)) (fun p hp => ?_) o₅ J₅⟩
          rcases List.mem_cons.mp hp with rfl | hp
          · exact ⟨hD₆.trans (congrArg some (lst_snoc ys y)), hDL, hD₀⟩
          · exact ⟨hs₆.extBut _ _ (o₅ p hp).2.1 (N₅ p (List.mem_cons_of_mem _ hp)).1, (N₅ p (List.mem_cons_of_mem _ hp)).2⟩
        · replace h₅ := ending _ _ h₅
          induction h₅
          rename_i h₆ tk₅ nx' st₅ F₅ n₅ N₅ o₅ J₅
          exact ⟨n + 1 - (i + 1), by lia  , .mk h₆ tk₅ (i + 1) ys _ nx' hlt (by lia  ) st₅ F₅ n₅ N₅ o₅ J₅⟩
      · obtain rfl : i = n := Nat.le_antisymm hi (Nat.not_lt.mp hlt)
        refine W.done _ _ _ hst' fun h₂ tk₂ hk₂ => ?_
        obtain ⟨F₂, N₂, hn₂⟩ := next h₂ hk₂
        exact hRR _ _ h₂ tk₂ _ ys nx hJ' F₂ N₂ (.inr fun p hp => (off' p hp).2.1) hn₂ hC₀ hD₀ hCL hDL (Ne.symm hDC) fun p hp => (off' p hp).1
    · rcases List.mem_cons.mp hp with rfl | hp
      · exact ⟨hacc, hDL, hD₀⟩
      · exact ⟨old _ _ (N p hp).1, (N p hp).2⟩
    · exact ⟨(below _ (Heap.lt_size (N p hp).1)).1, (below _ (Heap.lt_size (N p hp).1)).2, hnw p hp⟩
  exact codeAny_compStart_list (loop _ rfl) (hself _ _ _ hst₁ (loop _ rfl))

/-- the source of a comprehension: an iterator and how it goes -/
inductive CSrc (prog : Program) (w : World) (A : Around) (h₀ : Heap) (L : Addr) (m : Str → Option Value) (env : Env) (ct : Option PySem.Expr) (elt target : PySem.Expr) (scope : Scope) (cl : List (Str × Addr)) (Fin : List Value → List (Addr × Obj) → Shared → Prop) (it : Value) (s₂ : Shared) : Prop
  | mk (I : Addr) (fp wr : List Addr) (n : Nat) (P Md : Nat → Value → Heap → Prop) (St : Nat → Heap → Prop) (B : Nat → (Str → Option Value) → Prop) (news : List (Addr × Obj)) (its : List Addr) (keep : List (Addr × Obj)) (J : Nat → List Value → List (Addr × Obj) → Prop)
    (hit : it = .ref I) (W : KTurns prog w A target I fp wr n P Md St) (hself : ∀ (s : Shared) (Q : Value → Shared → Prop) (E : Value → Shared → Prop), St 0 s.heap → Q (.ref I) s → wpAny (model prog w) A (pyIter (.ref I)) Q E s)
    (hits : ∀ b ∈ its, b ∈ fp ∧ h₀.get? b = none) (hwr : ∀ b ∈ wr, b ∈ its) (hfp : ∀ b ∈ fp, b ∈ its ∨ ∃ o, (b, o) ∈ keep) (hlive : ∀ i h, St i h → ∀ b ∈ its, ∃ o, h.get? b = some o) (hL : L ∉ fp) (hnw : ∀ p ∈ news, p.1 ∉ its) (hst : St 0 s₂.heap) (hfl : ∀ b ∈ fp, b < s₂.heap.objs.size)
    (hasg : ∀ C i v (s : Shared) m' (Q : Unit → Shared → Prop) (E : Value → Shared → Prop), P i v s.heap → s.heap.Ns C m' →
      (∀ h' tk m'', B i m'' → h'.Ns C m'' → (∀ b o, b ≠ C → s.heap.get? b = some o → h'.get? b = some o) → Q () { s with heap := h', toks := tk }) → wpAny (model prog w) A (assign target (compEnvC scope cl C env) v) Q E s)
    (F : Fr h₀ L s₂.heap m) (N : News h₀ L s₂.heap news) (hsz : n ≤ sizeLine) (hJk : ∀ i ys nx, J i ys nx → ∀ p ∈ keep, p ∈ nx) (hj : J 0 [] news)
    (turn : ∀ i ys nx h tk own C oC D m₂ (E' : Value → Shared → Prop), i < n → B i m₂ → J i ys nx → NsObj oC m₂ → Fr h₀ L h m → News h₀ L h (((C, oC) :: (D, lst ys) :: own) ++ nx) → (∀ p ∈ (C, oC) :: (D, lst ys) :: own, ∀ q ∈ nx, p.1 ≠ q.1) →
      CTurn prog w A ct elt (compEnvC scope cl C env) (fun y => CEnd h₀ L m { s₂ with heap := h, toks := tk } ((C, oC) :: (D, lst ys) :: own) (J (i + 1) (ys ++ [y]))) (CEnd h₀ L m { s₂ with heap := h, toks := tk } ((C, oC) :: (D, lst ys) :: own) (J (i + 1) ys)) E' { s₂ with heap := h, toks := tk })
    (fin : ∀ ys nx, J n ys nx → Fin ys nx s₂) : CSrc prog w A h₀ L m env ct elt target scope cl Fin it s₂

def FinV (h₀ : Heap) (L : Addr) (m : Str → Option Value) (Q : Value → Shared → Prop) (ys : List Value) (nx : List (Addr × Obj)) (s : Shared) : Prop :=
  ∀ D h tk, Fr h₀ L h m → News h₀ L h ((D, listOf ys.toArray ys.length) :: nx) → (∀ p ∈ nx, p.1 ≠ D) → Q (.ref D) { s with heap := h, toks := tk }
def FinS (h₀ : Heap) (L : Addr) (m : Str → Option Value) (y : Str) (Q : Flow → Shared → Prop) (ys : List Value) (nx : List (Addr × Obj)) (s : Shared) : Prop :=
  ∀ D h tk, Fr h₀ L h (fun z => if z = y then some (.ref D) else m z) → News h₀ L h ((D, listOf ys.toArray ys.length) :: nx) → (∀ p ∈ nx, p.1 ≠ D) → Q .next { s with heap := h, toks := tk }

theorem my_ListComp {ct : Option PySem.Expr} {elt target iter : PySem.Expr} {ifs : List PySem.Expr} {scope : Scope} {cl : List (Str × Addr)} {pos : Pos} {Q : Value → Shared → Prop}
    (_F₀ : Fr h₀ L s.heap m) (hi : ifs = ifsOf ct) (hclos : closureFor scope env = pure cl) (hcell : ∀ y ∈ scope.names, y.2 ≠ .cell) (hkind : scope.kind = .function)
    (hnames : ∀ y ∈ scope.names, y.2 = .local → scope.names.lookup y.1 = some .local)
    (h : wpAny (model prog w) A (eval iter env) (fun xv s₁ => wpAny (model prog w) A (pyIter xv) (fun it s₂ => CSrc prog w A h₀ L m env ct elt target scope cl (FinV h₀ L m Q) it s₂) E s₁) E s)
    (hs : ∀ x, foldedSetIterable iter env x = pure x := by intro _; rfl) :
    wpAny (model prog w) A (eval (.ListComp elt [⟨target, iter, ifs, 0⟩] scope pos) env) Q E s := by
  subst hi
  rw [eval_ListComp]
  refine wpAny_comprehension_free (use := none) rfl hs hclos hkind hnames (wpAny_mono h (fun xv s₁ h₁ => wpAny_mono h₁ (fun it s₂ h₂ => ?_) fun _ _ e => e) fun _ _ e => e)
  obtain ⟨I, fp, wr, n, P, Md, St, B, news, its, keep, J, hit, W, hself, hits, hwr, hfp, hlive, hL, hnw, hst, hfl, hasg, F, N, hsz, hJk, hj, turn, fin⟩ := h₂
  rw [hit]
  refine my_block its keep J W hself hits hwr hfp hlive hL hnw hst hfl hcell hkind hasg F N hsz hJk hj turn ?_
  intro D C h tk m' ys nx hJ F' N' o1 hn hC₀ hD₀ hCL hDL hCD offC
  have o1' : ∀ p ∈ nx, p.1 ≠ D := o1.elim (fun x p hp => Nat.ne_of_lt (x p hp)) id
  refine ⟨m', hn, fun h'' hs'' => fin ys nx hJ D h'' tk (F'.change hs'' hCL hC₀) (fun p hp => ?_) o1'⟩
  refine ⟨hs''.extBut _ _ ?_ (N' p hp).1, (N' p hp).2⟩
  rcases List.mem_cons.mp hp with rfl | hp
  · exact Ne.symm hCD
  · exact offC p hp

theorem my_Assign_ListComp {ct : Option PySem.Expr} {elt target iter : PySem.Expr} {ifs : List PySem.Expr} {y : Str} {py : Pos} {scope : Scope} {cl : List (Str × Addr)} {pos spos : Pos} {Q : Flow → Shared → Prop}
    (_F₀ : Fr h₀ L s.heap m) (hi : ifs = ifsOf ct) (hLe : env.locals = L)
    (hsw : swapsWith (.ListComp elt [⟨target, iter, ifs, 0⟩] scope pos) (some (.Name y py)) spos.line env = pure true)
    (hclos : closureFor scope env = pure cl) (hcell : ∀ z ∈ scope.names, z.2 ≠ .cell) (hkind : scope.kind = .function)
    (hnames : ∀ z ∈ scope.names, z.2 = .local → scope.names.lookup z.1 = some .local)
    (hy : env.kindOf y = some .local) (hp : (env.scope.kind == .class || (env.scope.kind == .module && env.locals != env.globals)) = false)
    (h : wpAny (model prog w) A (eval iter env) (fun xv s₁ => wpAny (model prog w) A (pyIter xv) (fun it s₂ => CSrc prog w A h₀ L m env ct elt target scope cl (FinS h₀ L m y Q) it s₂) E s₁) E s)
    (hs : ∀ x, foldedSetIterable iter env x = pure x := by intro _; rfl) :
    wpAny (model prog w) A (exec (.Assign [.Name y py] (.ListComp elt [⟨target, iter, ifs, 0⟩] scope pos) spos) env) Q E s := by
  subst hLe
  rw [exec_Assign_Name_used _ _ _ _ hsw]
  subst hi
  refine wpAny_bind (wpAny_standAt (wpAny_bind ?_))
  show wpAny _ A (do let _ ← comprehension (.ListComp elt [⟨target, iter, ifsOf ct, 0⟩] scope pos) scope env _ (newList []) false (eval iter env) (some (assign (.Name y py) env))) _ _ s
  refine wpAny_bind (wpAny_mono (wpAny_comprehension_free (use := some (assign (.Name y py) env)) (Q := fun _ s' => Q .next s') rfl hs hclos hkind hnames
    (wpAny_mono h (fun xv s₁ h₁ => wpAny_mono h₁ (fun it s₂ h₂ => ?_) fun _ _ e => e) fun _ _ e => e)) (fun _ s' hq => wpAny_pure (wpAny_pure hq)) fun _ _ e => e)
  obtain ⟨I, fp, wr, n, P, Md, St, B, news, its, keep, J, hit, W, hself, hits, hwr, hfp, hlive, hL, hnw, hst, hfl, hasg, F, N, hsz, hJk, hj, turn, fin⟩ := h₂
  rw [hit]
  refine my_block its keep J W hself hits hwr hfp hlive hL hnw hst hfl hcell hkind hasg F N hsz hJk hj turn ?_
  intro D C h' tk m' ys nx hJ F' N' o1 hn hC₀ hD₀ hCL hDL hCD offC
  have o1' : ∀ p ∈ nx, p.1 ≠ D := o1.elim (fun x p hp => Nat.ne_of_lt (x p hp)) id
  show wpAny _ A (assign (.Name y py) env (.ref D)) _ _ _
  refine wpAny_assign_Name (wpAny_storeName_local hy F'.ns (fun h₂ hn₂ hs₂ => ?_) hp)
  have hL₀ : h₀.get? env.locals = none := Heap.get?_none_of_le F'.above
  have F₂ : Fr h₀ env.locals h₂ (fun z => if z = y then some (.ref D) else m z) := ⟨hn₂, fun b o e => hs₂.extBut b o (fun q => by rw [q, hL₀] at e; cases e) (F'.keep b o e), F'.above⟩
  refine ⟨m', hn.sameBut hs₂ hCL, fun h'' hs'' => fin ys nx hJ D h'' _ (F₂.change hs'' hCL hC₀) (fun p hp => ?_) o1'⟩
  have z : h₂.get? p.1 = some p.2 := hs₂.extBut _ _ (N' p hp).2.1 (N' p hp).1
  refine ⟨hs''.extBut _ _ ?_ z, (N' p hp).2⟩
  rcases List.mem_cons.mp hp with rfl | hp
  · exact Ne.symm hCD
  · exact offC p hp
end
end
section
open PySem PySem.W PyProof.Rows PySem.Spec PySem.Calls PyProof.Rows.LCg
section
variable {prog : Program} {w : World} {A : Around} {E : Value → Shared → Prop} {s : Shared} {h₀ : Heap} {L : Addr} {m : Str → Option Value} {env : Env}

theorem asg_name {scope : Scope} {cl : List (Str × Addr)} {x : Str} {px : Pos} (hx : scope.names.lookup x = some .local) (hkind : scope.kind = .function) {C : Addr} {v : Value} {s : Shared} {m' : Str → Option Value} {Q : Unit → Shared → Prop} {E : Value → Shared → Prop} (hn : s.heap.Ns C m')
    (h : ∀ h' tk m'', m'' x = some v → h'.Ns C m'' → (∀ b o, b ≠ C → s.heap.get? b = some o → h'.get? b = some o) → Q () { s with heap := h', toks := tk }) : wpAny (model prog w) A (assign (.Name x px) (compEnvC scope cl C env) v) Q E s :=
  wpAny_assign_Name (wpAny_storeName_local (lookup_relabel_local hx) hn (fun h' hn' hs' => h h' _ _ (by simp) hn' fun b o hb e => hs'.extBut b o hb e) (by simp [compEnvC, relabel, hkind]))
theorem asg_pair {scope : Scope} {cl : List (Str × Addr)} {x y : Str} {px py tp : Pos} {kk : Nat} (hh : A.handled = none) (hx : scope.names.lookup x = some .local) (hy : scope.names.lookup y = some .local) (hxy : x ≠ y) (hkind : scope.kind = .function) {C T : Addr} {u v : Value} {s : Shared} {m' : Str → Option Value} {Q : Unit → Shared → Prop} {E : Value → Shared → Prop}
    (ht : s.heap.IsTuple T #[u, v]) (hn : s.heap.Ns C m')
    (h : ∀ h' tk m'', m'' x = some u → m'' y = some v → h'.Ns C m'' → (∀ b o, b ≠ C → s.heap.get? b = some o → h'.get? b = some o) → Q () { s with heap := h', toks := tk }) : wpAny (model prog w) A (assign (.Tuple [.Name x px, .Name y py] kk tp) (compEnvC scope cl C env) (.ref T)) Q E s :=
  kcp_assign hh ht (lookup_relabel_local hx) (lookup_relabel_local hy) (by simp [compEnvC, relabel, hkind]) hn fun h' tk hn' hk => h h' tk _ (by simp [hxy]) (by simp) hn' hk

theorem src_list {ct : Option PySem.Expr} {elt : PySem.Expr} {x : Str} {px : Pos} {scope : Scope} {cl : List (Str × Addr)} {Fin : List Value → List (Addr × Obj) → Shared → Prop} {ax : Addr} {vs : List Value} {nn : Nat} {news : List (Addr × Obj)} (J : Nat → List Value → List (Addr × Obj) → Prop)
    (hh : A.handled = none) (hx : scope.names.lookup x = some .local) (hkind : scope.kind = .function) (F : Fr h₀ L s.heap m) (N : News h₀ L s.heap news) (hm : (ax, listOf vs.toArray nn) ∈ news) (hlen : vs.length ≤ 100000)
    (hJk : ∀ i ys nx, J i ys nx → (ax, listOf vs.toArray nn) ∈ nx) (hj : J 0 [] news)
    (turn : ∀ i v ys nx h tk own C oC D m₂ (E' : Value → Shared → Prop), vs[i]? = some v → m₂ x = some v → J i ys nx → NsObj oC m₂ → Fr h₀ L h m → News h₀ L h (((C, oC) :: (D, lst ys) :: own) ++ nx) → (∀ p ∈ (C, oC) :: (D, lst ys) :: own, ∀ q ∈ nx, p.1 ≠ q.1) →
      CTurn prog w A ct elt (compEnvC scope cl C env) (fun y => CEnd h₀ L m { s with heap := h, toks := tk } ((C, oC) :: (D, lst ys) :: own) (J (i + 1) (ys ++ [y]))) (CEnd h₀ L m { s with heap := h, toks := tk } ((C, oC) :: (D, lst ys) :: own) (J (i + 1) ys)) E' { s with heap := h, toks := tk })
    (done : ∀ g ys nx, J vs.length ys nx → Fin ys nx { s with heap := g }) :
    wpAny (model prog w) A (pyIter (.ref ax)) (fun it s₂ => CSrc prog w A h₀ L m env ct elt (.Name x px) scope cl Fin it s₂) E s := by
  have hax := N _ hm
  have hl : s.heap.IsList ax vs.toArray := ⟨_, hax.1, rfl, nn, rfl⟩
  have hlt : ax < s.heap.objs.size := Heap.lt_size hax.1
  have hne : ax ≠ s.heap.objs.size := Nat.ne_of_lt hlt
  refine wpAny_pyIter_list hl ?_
  refine ⟨_, _, _, _, _, _, _, fun i m'' => ∃ v, vs[i]? = some v ∧ m'' x = some v, news, [s.heap.objs.size], [(ax, listOf vs.toArray nn)], J, rfl, KTurns.ofWalks (Walks.list hh s.heap.objs.size ax hne vs.toArray) (fun i v s Q E st q => letGo_listiter st.1 q), fun s' Q E st q => wpAny_pyIter_listiter st.1 q,
    fun b hb => ?_, fun b hb => by simpa using hb, fun b hb => ?_, fun i h st b hb => ?_, ?_, fun p hp hI => ?_, ?_, fun b hb => ?_, fun C i v s' m' Q E hP hn hQ => ?_, F.push _, fun p hp => ⟨Heap.get?_push_of_some _ (N p hp).1, (N p hp).2⟩, ?_, fun i ys nx hJ p hp => ?_, hj, fun i ys nx h tk own C oC D m₂ E' hi hB => ?_, fun ys nx hJ => ?_⟩
  · rw [List.mem_singleton.mp hb]
    exact ⟨List.mem_cons_self .., next_is_new F⟩
  · have hb' : b = s.heap.objs.size ∨ b = ax := by simpa using hb
    rcases hb' with e | e
    · exact .inl (by simp [e])
    · exact .inr ⟨_, by rw [e]; exact List.mem_cons_self ..⟩
  · rw [List.mem_singleton.mp hb]
    obtain ⟨it, hit, _⟩ := st.1
    exact ⟨it, hit⟩
  · intro hI
    rcases List.mem_cons.mp hI with e | hI
    · exact absurd F.ns.lt (e ▸ Nat.lt_irrefl _)
    · exact hax.2.1 (List.mem_singleton.mp hI).symm
  · exact absurd (Heap.lt_size (N p hp).1) ((List.mem_singleton.mp hI) ▸ Nat.lt_irrefl _)
  · exact ⟨⟨_, Heap.get?_push_size _ rfl, rfl, rfl⟩, hl.at fun o e => Heap.get?_push_of_some _ e⟩
  · show b < (s.heap.push _).objs.size
    rw [Heap.size_push]
    have hb' : b = s.heap.objs.size ∨ b = ax := by simpa using hb
    rcases hb' with rfl | rfl
    · exact Nat.lt_succ_self _
    · exact Nat.lt_succ_of_lt hlt
  · have hP' : vs.toArray[i]? = some v := hP
    exact asg_name hx hkind hn fun h' tk m'' e => hQ h' tk m'' ⟨v, by simpa using hP', e⟩
  · rw [List.size_toArray, sizeLine_eq]; lia  
  · rw [List.mem_singleton.mp hp]; exact hJk i ys nx hJ
  · obtain ⟨v, hv, hm₂⟩ := hB
    exact turn i v ys nx h tk own C oC D m₂ E' hv hm₂
  · exact done _ ys nx (by simpa using hJ)

theorem src_range {ct : Option PySem.Expr} {elt : PySem.Expr} {x : Str} {px : Pos} {scope : Scope} {cl : List (Str × Addr)} {Fin : List Value → List (Addr × Obj) → Shared → Prop} {r : Addr} {a b c : Int} {t u v : Tok} {n : Nat} {news : List (Addr × Obj)} (J : Nat → List Value → List (Addr × Obj) → Prop)
    (hh : A.handled = none) (hx : scope.names.lookup x = some .local) (hkind : scope.kind = .function) (F : Fr h₀ L s.heap m) (N : News h₀ L s.heap news) (hr : IsRange s.heap r a b c t u v) (hsmall : Builtin.Range.small a b c = true) (hsz : Builtin.Range.rangeSize a b c = (n : Int)) (hlen : n ≤ 100000)
    (hj : J 0 [] news)
    (turn : ∀ (i : Nat) t ys nx h tk own C oC D m₂ (E' : Value → Shared → Prop), i < n → m₂ x = some (.int (a + (i : Int) * c) t) → J i ys nx → NsObj oC m₂ → Fr h₀ L h m → News h₀ L h (((C, oC) :: (D, lst ys) :: own) ++ nx) → (∀ p ∈ (C, oC) :: (D, lst ys) :: own, ∀ q ∈ nx, p.1 ≠ q.1) →
      CTurn prog w A ct elt (compEnvC scope cl C env) (fun y => CEnd h₀ L m { s with heap := h, toks := tk } ((C, oC) :: (D, lst ys) :: own) (J (i + 1) (ys ++ [y]))) (CEnd h₀ L m { s with heap := h, toks := tk } ((C, oC) :: (D, lst ys) :: own) (J (i + 1) ys)) E' { s with heap := h, toks := tk })
    (done : ∀ g ys nx, J n ys nx → Fin ys nx { s with heap := g }) :
    wpAny (model prog w) A (pyIter (.ref r)) (fun it s₂ => CSrc prog w A h₀ L m env ct elt (.Name x px) scope cl Fin it s₂) E s := by
  refine wpAny_pyIter_range hr hsmall ?_
  have W : Walks prog w A s.heap.objs.size [s.heap.objs.size] [s.heap.objs.size] n (fun i v => i < n ∧ ∃ t, v = .int (a + i * c) t)
      (fun i h => IsRangeIter h s.heap.objs.size (a + (i : Nat) * c) ((n : Int) - (i : Nat)) c) := (Walks.range hh _ a c n).bound
  refine ⟨_, _, _, n, _, _, _, fun i m'' => ∃ t, m'' x = some (.int (a + (i : Int) * c) t), news, [s.heap.objs.size], [], J, rfl, KTurns.ofWalks W (fun i v s Q E st q => by exact wpAny_pure q), fun s' Q E st q => W.self 0 s' Q E st q,
    fun b hb => ?_, fun b hb => by simpa using hb, fun b hb => .inl hb, fun i h st b hb => ?_, ?_, fun p hp hI => ?_, ?_, fun b hb => ?_, fun C i v s' m' Q E hP hn hQ => ?_, F.push _, fun p hp => ⟨Heap.get?_push_of_some _ (N p hp).1, (N p hp).2⟩, ?_, fun i ys nx hJ p hp => (nomatch hp), hj, fun i ys nx h tk own C oC D m₂ E' hi hB => ?_, fun ys nx hJ => ?_⟩
  · rw [List.mem_singleton.mp hb]
    exact ⟨List.mem_cons_self .., next_is_new F⟩
  · rw [List.mem_singleton.mp hb]
    exact ⟨_, st⟩
  · intro hI
    exact absurd F.ns.lt ((List.mem_singleton.mp hI) ▸ Nat.lt_irrefl _)
  · exact absurd (Heap.lt_size (N p hp).1) ((List.mem_singleton.mp hI) ▸ Nat.lt_irrefl _)
  · show IsRangeIter _ _ _ _ _
    rw [hsz]
    simpa using Heap.get?_push_size _ rfl
  · show b < (s.heap.push _).objs.size
    rw [Heap.size_push, List.mem_singleton.mp hb]
    exact Nat.lt_succ_self _
  · obtain ⟨_, t, rfl⟩ := hP
    exact asg_name hx hkind hn fun h' tk m'' e => hQ h' tk m'' ⟨t, e⟩
  · rw [sizeLine_eq]; lia  
  · obtain ⟨t, hm₂⟩ := hB
    exact turn i t ys nx h tk own C oC D m₂ E' hi hm₂
  · exact done _ ys nx hJ

theorem src_zip {ct : Option PySem.Expr} {elt : PySem.Expr} {x y : Str} {px py tp : Pos} {kk : Nat} {scope : Scope} {cl : List (Str × Addr)} {Fin : List Value → List (Addr × Obj) → Shared → Prop} {l1 l2 : Addr} {xs ys₀ : List Value} {n1 n2 : Nat} {news : List (Addr × Obj)} (J : Nat → List Value → List (Addr × Obj) → Prop)
    (hh : A.handled = none) (hx : scope.names.lookup x = some .local) (hy : scope.names.lookup y = some .local) (hxy : x ≠ y) (hkind : scope.kind = .function) (F : Fr h₀ L s.heap m) (N : News h₀ L s.heap news) (hm1 : (l1, listOf xs.toArray n1) ∈ news) (hm2 : (l2, listOf ys₀.toArray n2) ∈ news) (hlen : xs.length ≤ 100000)
    (hJk : ∀ i ys nx, J i ys nx → (l1, listOf xs.toArray n1) ∈ nx ∧ (l2, listOf ys₀.toArray n2) ∈ nx) (hj : J 0 [] news)
    (turn : ∀ i u v ys nx h tk own C oC D m₂ (E' : Value → Shared → Prop), xs[i]? = some u → ys₀[i]? = some v → m₂ x = some u → m₂ y = some v → J i ys nx → NsObj oC m₂ → Fr h₀ L h m → News h₀ L h (((C, oC) :: (D, lst ys) :: own) ++ nx) → (∀ p ∈ (C, oC) :: (D, lst ys) :: own, ∀ q ∈ nx, p.1 ≠ q.1) →
      CTurn prog w A ct elt (compEnvC scope cl C env) (fun y => CEnd h₀ L m { s with heap := h, toks := tk } ((C, oC) :: (D, lst ys) :: own) (J (i + 1) (ys ++ [y]))) (CEnd h₀ L m { s with heap := h, toks := tk } ((C, oC) :: (D, lst ys) :: own) (J (i + 1) ys)) E' { s with heap := h, toks := tk })
    (done : ∀ g ys nx, J (min xs.length ys₀.length) ys nx → Fin ys nx { s with heap := g }) :
    wpAny (model prog w) A (call (.type "zip") [.ref l1, .ref l2]) (fun xv s₁ => wpAny (model prog w) A (pyIter xv) (fun it s₂ => CSrc prog w A h₀ L m env ct elt (.Tuple [.Name x px, .Name y py] kk tp) scope cl Fin it s₂) E s₁) E s := by
  have hax1 := N _ hm1
  have hax2 := N _ hm2
  have hl1 : s.heap.IsList l1 xs.toArray := ⟨_, hax1.1, rfl, n1, rfl⟩
  have hl2 : s.heap.IsList l2 ys₀.toArray := ⟨_, hax2.1, rfl, n2, rfl⟩
  have hlt1 : l1 < s.heap.objs.size := Heap.lt_size hax1.1
  have hlt2 : l2 < s.heap.objs.size := Heap.lt_size hax2.1
  have hLs : L < s.heap.objs.size := F.ns.lt
  have D : ZipApart (s.heap.objs.size + 4) (s.heap.objs.size + 2) (s.heap.objs.size + 3) s.heap.objs.size (s.heap.objs.size + 1) l1 l2 := ktu_apart _ _ _ hlt1 hlt2
  refine call_zip_2 hl1 hl2 fun h' hz hTI hTO hi1 hi2 hsz hk => ?_
  refine wpAny_pyIter_zip hz ?_
  refine ⟨_, _, _, _, _, _, _, fun i m'' => ∃ u v, xs[i]? = some u ∧ ys₀[i]? = some v ∧ m'' x = some u ∧ m'' y = some v, news, [s.heap.objs.size + 4, s.heap.objs.size + 2, s.heap.objs.size + 3, s.heap.objs.size, s.heap.objs.size + 1], [(l1, listOf xs.toArray n1), (l2, listOf ys₀.toArray n2)], J, rfl,
    KTurns.ofWalksU (WalksT.zip2 hh _ _ _ _ _ _ _ D xs.toArray ys₀.toArray).toU, fun s' Q E st q => (WalksT.zip2 (prog := prog) (w := w) hh _ _ _ _ _ _ _ D xs.toArray ys₀.toArray).self 0 s' Q E st q,
    fun b hb => ?_, fun b hb => ?_, fun b hb => ?_, ?_, ?_, fun p hp hI => ?_, ?_, fun b hb => ?_, fun C i v s' m' Q E hP hn hQ => ?_, F.keeps hk, N.grown hk, ?_, fun i ys nx hJ p hp => ?_, hj, fun i ys nx h tk own C oC D m₂ E' hi hB => ?_, fun ys nx hJ => ?_⟩
  · have hb' : b = s.heap.objs.size + 4 ∨ b = s.heap.objs.size + 2 ∨ b = s.heap.objs.size + 3 ∨ b = s.heap.objs.size ∨ b = s.heap.objs.size + 1 := by simpa using hb
    rcases hb' with rfl | rfl | rfl | rfl | rfl
    · exact ⟨by simp, ktu_new F (Nat.le_add_right _ _)⟩
    · exact ⟨by simp, ktu_new F (Nat.le_add_right _ _)⟩
    · exact ⟨by simp, ktu_new F (Nat.le_add_right _ _)⟩
    · exact ⟨by simp, ktu_new F (Nat.le_refl _)⟩
    · exact ⟨by simp, ktu_new F (Nat.le_add_right _ _)⟩
  · have hb' : b = s.heap.objs.size + 4 ∨ b = s.heap.objs.size + 3 ∨ b = s.heap.objs.size ∨ b = s.heap.objs.size + 1 := by simpa using hb
    rcases hb' with rfl | rfl | rfl | rfl <;> simp
  · have hb' : b = s.heap.objs.size + 4 ∨ b = s.heap.objs.size + 2 ∨ b = s.heap.objs.size + 3 ∨ b = s.heap.objs.size ∨ b = s.heap.objs.size + 1 ∨ b = l1 ∨ b = l2 := by simpa using hb
    rcases hb' with rfl | rfl | rfl | rfl | rfl | rfl | rfl
    · exact .inl (by simp)
    · exact .inl (by simp)
    · exact .inl (by simp)
    · exact .inl (by simp)
    · exact .inl (by simp)
    · exact .inr ⟨_, List.mem_cons_self⟩
    · exact .inr ⟨_, List.mem_cons_of_mem _ List.mem_cons_self⟩
  · rintro i h ⟨hz, hTI, ⟨a, b, hTO⟩, ⟨o1, ho1, hc1, _⟩, ⟨o2, ho2, hc2, _⟩, _⟩ b hb
    have hb' : b = s.heap.objs.size + 4 ∨ b = s.heap.objs.size + 2 ∨ b = s.heap.objs.size + 3 ∨ b = s.heap.objs.size ∨ b = s.heap.objs.size + 1 := by simpa using hb
    rcases hb' with rfl | rfl | rfl | rfl | rfl
    · exact ⟨_, hz⟩
    · exact ⟨_, hTI⟩
    · exact ⟨_, hTO⟩
    · exact ⟨_, ho1⟩
    · exact ⟨_, ho2⟩
  · intro hI'
    have hb' : L = s.heap.objs.size + 4 ∨ L = s.heap.objs.size + 2 ∨ L = s.heap.objs.size + 3 ∨ L = s.heap.objs.size ∨ L = s.heap.objs.size + 1 ∨ L = l1 ∨ L = l2 := by simpa using hI'
    have n1 := hax1.2.1
    have n2 := hax2.2.1
    rcases hb' with e | e | e | e | e | e | e
    · exact ktu_ne 4 hLs e
    · exact ktu_ne 2 hLs e
    · exact ktu_ne 3 hLs e
    · exact Nat.ne_of_lt hLs e
    · exact ktu_ne 1 hLs e
    · exact n1 e.symm
    · exact n2 e.symm
  · have hb' : p.1 = s.heap.objs.size + 4 ∨ p.1 = s.heap.objs.size + 2 ∨ p.1 = s.heap.objs.size + 3 ∨ p.1 = s.heap.objs.size ∨ p.1 = s.heap.objs.size + 1 := by simpa using hI
    have hlp := Heap.lt_size (N p hp).1
    rcases hb' with e | e | e | e | e
    · exact ktu_ne 4 hlp e
    · exact ktu_ne 2 hlp e
    · exact ktu_ne 3 hlp e
    · exact Nat.ne_of_lt hlp e
    · exact ktu_ne 1 hlp e
  · exact ⟨hz, hTI, ⟨_, _, hTO⟩, hi1, hi2, hl1.at fun o e => hk l1 o e, hl2.at fun o e => hk l2 o e⟩
  · have hb' : b = s.heap.objs.size + 4 ∨ b = s.heap.objs.size + 2 ∨ b = s.heap.objs.size + 3 ∨ b = s.heap.objs.size ∨ b = s.heap.objs.size + 1 ∨ b = l1 ∨ b = l2 := by simpa using hb
    show b < h'.objs.size
    rw [hsz]
    have q1 : @LT.lt Nat _ l1 s.heap.objs.size := hlt1
    have q2 : @LT.lt Nat _ l2 s.heap.objs.size := hlt2
    rcases hb' with e | e | e | e | e | e | e <;> (rw [e]; show @LT.lt Nat _ _ _; lia  )
  · obtain ⟨T, vals, rfl, ⟨u, v, hu, hv, rfl⟩, hT⟩ := hP
    exact asg_pair hh hx hy hxy hkind hT hn fun h' tk m'' e1 e2 => hQ h' tk m'' ⟨u, v, by simpa using hu, by simpa using hv, e1, e2⟩
  · rw [sizeLine_eq, List.size_toArray, List.size_toArray]; lia  
  · rcases List.mem_cons.mp hp with rfl | hp
    · exact (hJk i ys nx hJ).1
    · rw [List.mem_singleton.mp hp]; exact (hJk i ys nx hJ).2
  · obtain ⟨u, v, hu, hv, e1, e2⟩ := hB
    exact turn i u v ys nx h tk own C oC D m₂ E' hu hv e1 e2
  · exact done _ ys nx (by simpa using hJ)

/-- over a list of pairs of the ledger -/
theorem src_pairs {ct : Option PySem.Expr} {elt : PySem.Expr} {x y : Str} {px py tp : Pos} {kk : Nat} {scope : Scope} {cl : List (Str × Addr)} {Fin : List Value → List (Addr × Obj) → Shared → Prop} {ax : Addr} {vs : List Value} {nn : Nat} {news : List (Addr × Obj)} (J : Nat → List Value → List (Addr × Obj) → Prop)
    (pr : List (Addr × Value × Value × Nat))
    (hh : A.handled = none) (hx : scope.names.lookup x = some .local) (hy : scope.names.lookup y = some .local) (hxy : x ≠ y) (hkind : scope.kind = .function) (F : Fr h₀ L s.heap m) (N : News h₀ L s.heap news) (hm : (ax, listOf vs.toArray nn) ∈ news) (hlen : vs.length ≤ 100000)
    (hvs : vs = pr.map fun p => Value.ref p.1) (hpr : ∀ p ∈ pr, (p.1, ({ cls := .type "tuple", data := .seq #[p.2.1, p.2.2.1] p.2.2.2 } : Obj)) ∈ news)
    (hJk : ∀ i ys nx, J i ys nx → ∀ p ∈ news, p ∈ nx) (hj : J 0 [] news)
    (turn : ∀ i p ys nx h tk own C oC D m₂ (E' : Value → Shared → Prop), pr[i]? = some p → m₂ x = some p.2.1 → m₂ y = some p.2.2.1 → J i ys nx → NsObj oC m₂ → Fr h₀ L h m → News h₀ L h (((C, oC) :: (D, lst ys) :: own) ++ nx) → (∀ p ∈ (C, oC) :: (D, lst ys) :: own, ∀ q ∈ nx, p.1 ≠ q.1) →
      CTurn prog w A ct elt (compEnvC scope cl C env) (fun y => CEnd h₀ L m { s with heap := h, toks := tk } ((C, oC) :: (D, lst ys) :: own) (J (i + 1) (ys ++ [y]))) (CEnd h₀ L m { s with heap := h, toks := tk } ((C, oC) :: (D, lst ys) :: own) (J (i + 1) ys)) E' { s with heap := h, toks := tk })
    (done : ∀ g ys nx, J pr.length ys nx → Fin ys nx { s with heap := g }) :
    wpAny (model prog w) A (pyIter (.ref ax)) (fun it s₂ => CSrc prog w A h₀ L m env ct elt (.Tuple [.Name x px, .Name y py] kk tp) scope cl Fin it s₂) E s := by
  subst hvs
  have hax := N _ hm
  have hl : s.heap.IsList ax (pr.map fun p => Value.ref p.1).toArray := ⟨_, hax.1, rfl, nn, rfl⟩
  have hlt : ax < s.heap.objs.size := Heap.lt_size hax.1
  have hne : ax ≠ s.heap.objs.size := Nat.ne_of_lt hlt
  have dflt : ∀ j, j < ((pr.map fun p => Value.ref p.1).toArray).size → ∃ p, pr[j]? = some p := fun j hj => by
    have : j < pr.length := by simpa using hj
    exact ⟨pr[j], List.getElem?_eq_getElem this⟩
  have hat : ∀ j, j < ((pr.map fun p => Value.ref p.1).toArray).size → pr[j]? = some (pr.getD j (0, .none, .none, 0)) := fun j hj => by
    obtain ⟨p, hp⟩ := dflt j hj
    rw [List.getD_eq_getElem?_getD, hp]
    rfl
  have hTlt : ∀ j, j < ((pr.map fun p => Value.ref p.1).toArray).size → (pr.getD j (0, .none, .none, 0)).1 < s.heap.objs.size := fun j hj => by
    have h1 := hat j hj
    have h2 : pr.getD j (0, .none, .none, 0) ∈ pr := List.mem_of_getElem? h1
    exact Heap.lt_size (N _ (hpr _ h2)).1
  have W := WalksU.listOfTuples (prog := prog) (w := w) hh s.heap.objs.size ax hne (pr.map fun p => Value.ref p.1).toArray (fun j => (pr.getD j (0, .none, .none, 0)).1) (fun j => #[(pr.getD j (0, .none, .none, 0)).2.1, (pr.getD j (0, .none, .none, 0)).2.2.1])
    (fun j hj => by
      have h1 := hat j hj
      simp only [List.getElem?_toArray, List.getElem?_map, h1]
      rfl) (fun j hj => Nat.ne_of_lt (hTlt j hj))
  have tup : ∀ (h : Heap), (∀ p ∈ news, h.get? p.1 = some p.2) → ∀ k, k < ((pr.map fun p => Value.ref p.1).toArray).size → h.IsTuple (pr.getD k (0, .none, .none, 0)).1 #[(pr.getD k (0, .none, .none, 0)).2.1, (pr.getD k (0, .none, .none, 0)).2.2.1] := fun h hn k hk => by
    have h1 := hat k hk
    have h2 : pr.getD k (0, .none, .none, 0) ∈ pr := List.mem_of_getElem? h1
    exact ⟨_, hn _ (hpr _ h2), rfl, _, rfl⟩
  refine wpAny_pyIter_list hl ?_
  refine ⟨_, _, _, _, _, _, _, fun i m'' => ∃ p, pr[i]? = some p ∧ m'' x = some p.2.1 ∧ m'' y = some p.2.2.1, news, [s.heap.objs.size], news, J, rfl, KTurns.ofWalksU W.bound, fun s' Q E st q => W.self 0 s' Q E st q,
    fun b hb => ?_, fun b hb => by simpa using hb, fun b hb => ?_, fun i h st b hb => ?_, ?_, fun p hp hI => ?_, ?_, fun b hb => ?_, fun C i v s' m' Q E hP hn hQ => ?_, F.push _, fun p hp => ⟨Heap.get?_push_of_some _ (N p hp).1, (N p hp).2⟩, ?_, fun i ys nx hJ p hp => hJk i ys nx hJ p hp, hj, fun i ys nx h tk own C oC D m₂ E' hi hB => ?_, fun ys nx hJ => ?_⟩
  · rw [List.mem_singleton.mp hb]
    exact ⟨List.mem_cons_self .., next_is_new F⟩
  · rcases List.mem_cons.mp hb with e | hb
    · exact .inl (by simp [e])
    · rcases List.mem_cons.mp hb with e | hb
      · exact .inr ⟨_, by rw [e]; exact hm⟩
      · obtain ⟨j, hj, rfl⟩ := List.mem_map.mp hb
        have h1 := hat j (List.mem_range.mp hj)
        exact .inr ⟨_, hpr _ (List.mem_of_getElem? h1)⟩
  · rw [List.mem_singleton.mp hb]
    obtain ⟨it, hit, _⟩ := st.1
    exact ⟨it, hit⟩
  · intro hI
    rcases List.mem_cons.mp hI with e | hI
    · exact absurd F.ns.lt (e ▸ Nat.lt_irrefl _)
    · rcases List.mem_cons.mp hI with e | hI
      · exact hax.2.1 e.symm
      · obtain ⟨j, hj, e⟩ := List.mem_map.mp hI
        have h1 := hat j (List.mem_range.mp hj)
        exact (N _ (hpr _ (List.mem_of_getElem? h1))).2.1 e
  · exact absurd (Heap.lt_size (N p hp).1) ((List.mem_singleton.mp hI) ▸ Nat.lt_irrefl _)
  · exact ⟨⟨_, Heap.get?_push_size _ rfl, rfl, rfl⟩, hl.at fun o e => Heap.get?_push_of_some _ e, tup _ fun p hp => Heap.get?_push_of_some _ (N p hp).1⟩
  · show b < (s.heap.push _).objs.size
    rw [Heap.size_push]
    rcases List.mem_cons.mp hb with rfl | hb
    · exact Nat.lt_succ_self _
    · rcases List.mem_cons.mp hb with rfl | hb
      · exact Nat.lt_succ_of_lt hlt
      · obtain ⟨j, hj, rfl⟩ := List.mem_map.mp hb
        exact Nat.lt_succ_of_lt (hTlt j (List.mem_range.mp hj))
  · obtain ⟨T, vals, rfl, ⟨hi, rfl⟩, hT⟩ := hP
    exact asg_pair hh hx hy hxy hkind hT hn fun h' tk m'' e1 e2 => hQ h' tk m'' ⟨_, hat i hi, e1, e2⟩
  · rw [sizeLine_eq, List.size_toArray]; lia  
  · obtain ⟨p, hp, e1, e2⟩ := hB
    exact turn i p ys nx h tk own C oC D m₂ E' hp e1 e2
  · exact done _ ys nx (by simpa using hJ)
end
end
section
open PySem PySem.W PyProof.Rows PySem.Spec PySem.Calls PyProof.Rows.LCg
/-- where it is at hand, slices of lists go by my own lemmas -/
structure SliceOn : Prop
structure SliceOnI : Prop
theorem small_of {a b c : Int} (h0 : 0 ≤ a) (h1 : a ≤ 100000) (h2 : -100000 ≤ b) (h3 : b ≤ 100000) (h4 : 0 < c) (h5 : c ≤ 100) : Builtin.Range.small a b c = true := by
  have hn : 0 ≤ Builtin.Range.rangeSize a b c ∧ Builtin.Range.rangeSize a b c ≤ 200001 := by
    unfold Builtin.Range.rangeSize
    rw [if_pos h4]
    split
    · have e1 : 0 ≤ (b - a - 1) / c := Int.ediv_nonneg (by lia  ) (by lia  )
      have e2 : (b - a - 1) / c ≤ b - a - 1 := Int.ediv_le_self _ (by lia  )
      lia  
    · lia  
  unfold Builtin.Range.small Builtin.Range.rangeFitsLong
  generalize Builtin.Range.rangeSize a b c = n at *
  rw [if_pos h4]
  simp only [Bool.and_eq_true, Bool.or_eq_true, decide_eq_true_eq]
  lia  
theorem size_nat (n : Nat) : Builtin.Range.rangeSize 0 (n : Int) 1 = (n : Int) := by
  rw [rangeSize_one]
  split <;> lia  
theorem size_of {b : Int} {n : Nat} (h : b = (n : Int)) : Builtin.Range.rangeSize 0 b 1 = (n : Int) := h ▸ size_nat n
theorem size_ab {a b : Nat} (h : a ≤ b) : Builtin.Range.rangeSize (a : Int) (b : Int) 1 = ((b - a : Nat) : Int) := by
  rw [rangeSize_one]
  split <;> lia  
theorem size_two (n : Nat) : Builtin.Range.rangeSize 0 ((n : Int) - 1) 2 = ((n / 2 : Nat) : Int) := by
  unfold Builtin.Range.rangeSize
  simp only [show (2 : Int) > 0 by decide, if_true]
  split <;> lia  
section
variable {prog : Program} {w : World} {A : Around} {E : Value → Shared → Prop} {s : Shared} {env : Env} {h₀ : Heap} {target : PySem.Expr} {body : List Stmt} {Q : Flow → Shared → Prop}

theorem for_range {x : Str} {px : Pos} {r : Addr} {a b c : Int} {t u v : Tok} {n : Nat} {m₀ : Str → Option Value} {news : List (Addr × Obj)} (J : Nat → (Str → Option Value) → List (Addr × Obj) → Prop)
    (hh : A.handled = none) (F : Fr h₀ env.locals s.heap m₀) (N : News h₀ env.locals s.heap news) (hr : IsRange s.heap r a b c t u v) (hsmall : Builtin.Range.small a b c = true) (hsz : Builtin.Range.rangeSize a b c = (n : Int)) (hj : J 0 m₀ news)
    (turn : ∀ (i : Nat) t m₁ nx h tk own, i < n → OwnOff own (nx.map (·.1)) → J i m₁ nx → Fr h₀ env.locals h m₁ → News h₀ env.locals h (nx ++ own) →
      wpAny (model prog w) A (assign (.Name x px) env (.int (a + (i : Int) * c) t)) (fun _ s₂ => wpAny (model prog w) A (execs body env) (InvPostG h₀ env.locals (J (i + 1)) own { s with heap := h, toks := tk } Q) E s₂) E { s with heap := h, toks := tk })
    (done : ∀ m₁ nx h tk, J n m₁ nx → Fr h₀ env.locals h m₁ → News h₀ env.locals h nx → Q .next { s with heap := h, toks := tk }) :
    wpAny (model prog w) A (pyIter (.ref r)) (fun it s₂ => TurnsAt prog w A h₀ env (.Name x px) body Q E it s₂) E s := by
  refine wpAny_pyIter_range hr hsmall ?_
  have W : Walks prog w A s.heap.objs.size [s.heap.objs.size] [s.heap.objs.size] n (fun i v => i < n ∧ ∃ t, v = .int (a + i * c) t)
      (fun i h => IsRangeIter h s.heap.objs.size (a + (i : Nat) * c) ((n : Int) - (i : Nat)) c) := (Walks.range hh _ a c n).bound
  refine inv_turns (tk0 := s.toks) [s.heap.objs.size] [] J (KTurns.ofWalks W fun i v s Q E st q => by exact wpAny_pure q) (fun b hb => ?_) (fun b hb => by simpa using hb) (fun b hb => .inl hb) (fun i h st b hb => ?_) ?_ (fun p hp hI => ?_) ?_ (F.push _) (fun p hp => ⟨Heap.get?_push_of_some _ (N p hp).1, (N p hp).2⟩) (fun i m nx hJ p hp => nomatch hp) hj (fun i v m₁ nx h tk own hi hP => ?_) (fun m₁ nx h tk hJ => done m₁ nx h tk hJ)
  · rw [List.mem_singleton.mp hb]
    exact ⟨List.mem_cons_self .., next_is_new F⟩
  · rw [List.mem_singleton.mp hb]
    exact ⟨_, st⟩
  · intro hI
    exact absurd F.ns.lt ((List.mem_singleton.mp hI) ▸ Nat.lt_irrefl _)
  · exact absurd (Heap.lt_size (N p hp).1) ((List.mem_singleton.mp hI) ▸ Nat.lt_irrefl _)
  · show IsRangeIter _ _ _ _ _
    rw [hsz]
    simpa using Heap.get?_push_size _ rfl
  · obtain ⟨_, t, rfl⟩ := hP
    exact turn i t m₁ nx h tk own hi

theorem for_rev {x : Str} {px : Pos} {ax : Addr} {vs : List Value} {nn : Nat} {m₀ : Str → Option Value} {news : List (Addr × Obj)} (J : Nat → (Str → Option Value) → List (Addr × Obj) → Prop)
    (hh : A.handled = none) (F : Fr h₀ env.locals s.heap m₀) (N : News h₀ env.locals s.heap news) (hm : (ax, listOf vs.toArray nn) ∈ news)
    (hJk : ∀ i m nx, J i m nx → (ax, listOf vs.toArray nn) ∈ nx) (hj : J 0 m₀ news)
    (turn : ∀ (i : Nat) v m₁ nx h tk own, i < vs.length → vs[vs.length - 1 - i]? = some v → OwnOff own (nx.map (·.1)) → J i m₁ nx → Fr h₀ env.locals h m₁ → News h₀ env.locals h (nx ++ own) →
      wpAny (model prog w) A (assign (.Name x px) env v) (fun _ s₂ => wpAny (model prog w) A (execs body env) (InvPostG h₀ env.locals (J (i + 1)) own { s with heap := h, toks := tk } Q) E s₂) E { s with heap := h, toks := tk })
    (done : ∀ m₁ nx h tk, J vs.length m₁ nx → Fr h₀ env.locals h m₁ → News h₀ env.locals h nx → Q .next { s with heap := h, toks := tk }) :
    wpAny (model prog w) A (call (.type "reversed") [.ref ax]) (fun xv s₁ => wpAny (model prog w) A (pyIter xv) (fun it s₂ => TurnsAt prog w A h₀ env (.Name x px) body Q E it s₂) E s₁) E s := by
  have hax := N _ hm
  have hl : s.heap.IsList ax vs.toArray := ⟨_, hax.1, rfl, nn, rfl⟩
  have hlt : ax < s.heap.objs.size := Heap.lt_size hax.1
  have hne : ax ≠ s.heap.objs.size := Nat.ne_of_lt hlt
  refine call_reversed_list hl ?_
  have hit : (s.heap.push (revObj ax ((vs.toArray.size : Int) - 1))).IsRevIter s.heap.objs.size ax ((vs.toArray.size : Int) - 1) := ⟨_, Heap.get?_push_size _ rfl, rfl, rfl⟩
  refine wpAny_pyIter_revIter hit ?_
  have W := Walks.listRev (prog := prog) (w := w) hh s.heap.objs.size ax hne vs.toArray
  refine inv_turns (tk0 := s.toks) [s.heap.objs.size] [(ax, listOf vs.toArray nn)] J (KTurns.ofWalks W fun i v s Q E st q => by exact wpAny_pure q) (fun b hb => ?_) (fun b hb => by simpa using hb) (fun b hb => ?_) (fun i h st b hb => ?_) ?_ (fun p hp hI => ?_) ?_ (F.push _) (fun p hp => ⟨Heap.get?_push_of_some _ (N p hp).1, (N p hp).2⟩) (fun i m nx hJ p hp => ?_) hj (fun i v m₁ nx h tk own hi hP => ?_) (fun m₁ nx h tk hJ => ?_)
  · rw [List.mem_singleton.mp hb]
    exact ⟨List.mem_cons_self .., next_is_new F⟩
  · have hb' : b = s.heap.objs.size ∨ b = ax := by simpa using hb
    rcases hb' with e | e
    · exact .inl (by simp [e])
    · exact .inr ⟨_, by rw [e]; exact List.mem_cons_self ..⟩
  · rw [List.mem_singleton.mp hb]
    obtain ⟨it, hit, _⟩ := st.2.1
    exact ⟨it, hit⟩
  · intro hI
    rcases List.mem_cons.mp hI with e | hI
    · exact absurd F.ns.lt (e ▸ Nat.lt_irrefl _)
    · exact hax.2.1 (List.mem_singleton.mp hI).symm
  · exact absurd (Heap.lt_size (N p hp).1) ((List.mem_singleton.mp hI) ▸ Nat.lt_irrefl _)
  · refine ⟨Nat.zero_le _, ?_, hl.at fun o e => Heap.get?_push_of_some _ e⟩
    have e : (vs.toArray.size : Int) - 1 - ((0 : Nat) : Int) = (vs.toArray.size : Int) - 1 := by lia  
    rw [e]
    exact hit
  · rw [List.mem_singleton.mp hp]; exact hJk i m nx hJ
  · exact turn i v m₁ nx h tk own (by simpa using hi) (by simpa using hP)
  · exact done m₁ nx h tk (by simpa using hJ)

theorem for_revIter {x : Str} {px : Pos} {It ax : Addr} {vs : List Value} {nn : Nat} {m₀ : Str → Option Value} {news : List (Addr × Obj)} (J : Nat → (Str → Option Value) → List (Addr × Obj) → Prop)
    (hh : A.handled = none) (F : Fr h₀ env.locals s.heap m₀) (N : News h₀ env.locals s.heap ((It, revObj ax ((vs.length : Int) - 1)) :: news)) (hm : (ax, listOf vs.toArray nn) ∈ news) (hof : ∀ p ∈ news, p.1 ≠ It)
    (hJk : ∀ i m nx, J i m nx → (ax, listOf vs.toArray nn) ∈ nx) (hj : J 0 m₀ news)
    (turn : ∀ (i : Nat) v m₁ nx h tk own, i < vs.length → vs[vs.length - 1 - i]? = some v → OwnOff own (nx.map (·.1)) → J i m₁ nx → Fr h₀ env.locals h m₁ → News h₀ env.locals h (nx ++ own) →
      wpAny (model prog w) A (assign (.Name x px) env v) (fun _ s₂ => wpAny (model prog w) A (execs body env) (InvPostG h₀ env.locals (J (i + 1)) own { s with heap := h, toks := tk } Q) E s₂) E { s with heap := h, toks := tk })
    (done : ∀ m₁ nx h tk, J vs.length m₁ nx → Fr h₀ env.locals h m₁ → News h₀ env.locals h nx → Q .next { s with heap := h, toks := tk }) :
    wpAny (model prog w) A (pyIter (.ref It)) (fun it s₂ => TurnsAt prog w A h₀ env (.Name x px) body Q E it s₂) E s := by
  have hax := N _ (.tail _ hm)
  have hI0 := N _ (.head _)
  have hl : s.heap.IsList ax vs.toArray := ⟨_, hax.1, rfl, nn, rfl⟩
  have hlt : ax < s.heap.objs.size := Heap.lt_size hax.1
  have hne : ax ≠ It := hof _ hm
  have esz : ((vs.toArray.size : Int) - 1 - ((0 : Nat) : Int)) = (vs.length : Int) - 1 := by simp
  have hit : s.heap.IsRevIter It ax ((vs.toArray.size : Int) - 1) := ⟨_, hI0.1, rfl, by simp [revObj]⟩
  refine wpAny_pyIter_revIter hit ?_
  have W := Walks.listRev (prog := prog) (w := w) hh It ax hne vs.toArray
  refine inv_turns (hp := s.heap) (tk0 := s.toks) [It] [(ax, listOf vs.toArray nn)] J (KTurns.ofWalks W fun i v s Q E st q => by exact wpAny_pure q) (fun b hb => ?_) (fun b hb => by simpa using hb) (fun b hb => ?_) (fun i h st b hb => ?_) ?_ (fun p hp hI => ?_) ?_ F (fun p hp => N p (.tail _ hp)) (fun i m nx hJ p hp => ?_) hj (fun i v m₁ nx h tk own hi hP => ?_) (fun m₁ nx h tk hJ => ?_)
  · rw [List.mem_singleton.mp hb]
    exact ⟨List.mem_cons_self .., hI0.2.2⟩
  · have hb' : b = It ∨ b = ax := by simpa using hb
    rcases hb' with e | e
    · exact .inl (by simp [e])
    · exact .inr ⟨_, by rw [e]; exact List.mem_cons_self ..⟩
  · rw [List.mem_singleton.mp hb]
    obtain ⟨it, hit, _⟩ := st.2.1
    exact ⟨it, hit⟩
  · intro hI
    rcases List.mem_cons.mp hI with e | hI
    · exact hI0.2.1 e.symm
    · exact hax.2.1 (List.mem_singleton.mp hI).symm
  · exact hof p hp (List.mem_singleton.mp hI)
  · refine ⟨Nat.zero_le _, ?_, hl⟩
    have e : (vs.toArray.size : Int) - 1 - ((0 : Nat) : Int) = (vs.toArray.size : Int) - 1 := by lia  
    rw [e]
    exact hit
  · rw [List.mem_singleton.mp hp]; exact hJk i m nx hJ
  · exact turn i v m₁ nx h tk own (by simpa using hi) (by simpa using hP)
  · exact done m₁ nx h tk (by simpa using hJ)

theorem for_zip {elts : List PySem.Expr} {k : Nat} {pos : Pos} {l1 l2 : Addr} {xs ys : List Value} {n1 n2 : Nat} {m₀ : Str → Option Value} {news : List (Addr × Obj)} (J : Nat → (Str → Option Value) → List (Addr × Obj) → Prop)
    (hh : A.handled = none) (F : Fr h₀ env.locals s.heap m₀) (N : News h₀ env.locals s.heap news) (hm1 : (l1, listOf xs.toArray n1) ∈ news) (hm2 : (l2, listOf ys.toArray n2) ∈ news)
    (hJk : ∀ i m nx, J i m nx → (l1, listOf xs.toArray n1) ∈ nx ∧ (l2, listOf ys.toArray n2) ∈ nx) (hj : J 0 m₀ news)
    (turn : ∀ (i : Nat) x y T m₁ nx h tk own, xs[i]? = some x → ys[i]? = some y → IsTup h T #[x, y] → OwnOff own (nx.map (·.1)) → J i m₁ nx → Fr h₀ env.locals h m₁ → News h₀ env.locals h (nx ++ own) →
      wpAny (model prog w) A (assign (.Tuple elts k pos) env (.ref T)) (fun _ s₂ => wpAny (model prog w) A (execs body env) (InvPostG h₀ env.locals (J (i + 1)) own { s with heap := h, toks := tk } Q) E s₂) E { s with heap := h, toks := tk })
    (done : ∀ m₁ nx h tk, J (min xs.length ys.length) m₁ nx → Fr h₀ env.locals h m₁ → News h₀ env.locals h nx → Q .next { s with heap := h, toks := tk }) :
    wpAny (model prog w) A (call (.type "zip") [.ref l1, .ref l2]) (fun xv s₁ => wpAny (model prog w) A (pyIter xv) (fun it s₂ => TurnsAt prog w A h₀ env (.Tuple elts k pos) body Q E it s₂) E s₁) E s := by
  have hax1 := N _ hm1
  have hax2 := N _ hm2
  have hl1 : s.heap.IsList l1 xs.toArray := ⟨_, hax1.1, rfl, n1, rfl⟩
  have hl2 : s.heap.IsList l2 ys.toArray := ⟨_, hax2.1, rfl, n2, rfl⟩
  have hlt1 : l1 < s.heap.objs.size := Heap.lt_size hax1.1
  have hlt2 : l2 < s.heap.objs.size := Heap.lt_size hax2.1
  have hLs : env.locals < s.heap.objs.size := F.ns.lt
  have D : ZipApart (s.heap.objs.size + 4) (s.heap.objs.size + 2) (s.heap.objs.size + 3) s.heap.objs.size (s.heap.objs.size + 1) l1 l2 := ktu_apart _ _ _ hlt1 hlt2
  refine call_zip_2 hl1 hl2 fun h' hz hTI hTO hi1 hi2 hsz hk => ?_
  refine wpAny_pyIter_zip hz ?_
  refine inv_turns (tk0 := s.toks) [s.heap.objs.size + 4, s.heap.objs.size + 2, s.heap.objs.size + 3, s.heap.objs.size, s.heap.objs.size + 1] [(l1, listOf xs.toArray n1), (l2, listOf ys.toArray n2)] J
    (KTurns.ofWalksU (WalksT.zip2 hh _ _ _ _ _ _ _ D xs.toArray ys.toArray).toU) (fun b hb => ?_) (fun b hb => ?_) (fun b hb => ?_) ?_ ?_ (fun p hp hI => ?_) ?_ (F.keeps hk) (N.grown hk) (fun i m nx hJ p hp => ?_) hj (fun i v m₁ nx h tk own hi hP => ?_) (fun m₁ nx h tk hJ => ?_)
  · have hb' : b = s.heap.objs.size + 4 ∨ b = s.heap.objs.size + 2 ∨ b = s.heap.objs.size + 3 ∨ b = s.heap.objs.size ∨ b = s.heap.objs.size + 1 := by simpa using hb
    rcases hb' with rfl | rfl | rfl | rfl | rfl
    · exact ⟨by simp, ktu_new F (Nat.le_add_right _ _)⟩
    · exact ⟨by simp, ktu_new F (Nat.le_add_right _ _)⟩
    · exact ⟨by simp, ktu_new F (Nat.le_add_right _ _)⟩
    · exact ⟨by simp, ktu_new F (Nat.le_refl _)⟩
    · exact ⟨by simp, ktu_new F (Nat.le_add_right _ _)⟩
  · have hb' : b = s.heap.objs.size + 4 ∨ b = s.heap.objs.size + 3 ∨ b = s.heap.objs.size ∨ b = s.heap.objs.size + 1 := by simpa using hb
    rcases hb' with rfl | rfl | rfl | rfl <;> simp
  · have hb' : b = s.heap.objs.size + 4 ∨ b = s.heap.objs.size + 2 ∨ b = s.heap.objs.size + 3 ∨ b = s.heap.objs.size ∨ b = s.heap.objs.size + 1 ∨ b = l1 ∨ b = l2 := by simpa using hb
    rcases hb' with rfl | rfl | rfl | rfl | rfl | rfl | rfl
    · exact .inl (by simp)
    · exact .inl (by simp)
    · exact .inl (by simp)
    · exact .inl (by simp)
    · exact .inl (by simp)
    · exact .inr ⟨_, List.mem_cons_self⟩
    · exact .inr ⟨_, List.mem_cons_of_mem _ List.mem_cons_self⟩
  · rintro i h ⟨hz, hTI, ⟨a, b, hTO⟩, ⟨o1, ho1, hc1, _⟩, ⟨o2, ho2, hc2, _⟩, _⟩ b hb
    have hb' : b = s.heap.objs.size + 4 ∨ b = s.heap.objs.size + 2 ∨ b = s.heap.objs.size + 3 ∨ b = s.heap.objs.size ∨ b = s.heap.objs.size + 1 := by simpa using hb
    rcases hb' with rfl | rfl | rfl | rfl | rfl
    · exact ⟨_, hz⟩
    · exact ⟨_, hTI⟩
    · exact ⟨_, hTO⟩
    · exact ⟨_, ho1⟩
    · exact ⟨_, ho2⟩
  · intro hI'
    have hb' : env.locals = s.heap.objs.size + 4 ∨ env.locals = s.heap.objs.size + 2 ∨ env.locals = s.heap.objs.size + 3 ∨ env.locals = s.heap.objs.size ∨ env.locals = s.heap.objs.size + 1 ∨ env.locals = l1 ∨ env.locals = l2 := by simpa using hI'
    have n1 := hax1.2.1
    have n2 := hax2.2.1
    rcases hb' with e | e | e | e | e | e | e
    · exact ktu_ne 4 hLs e
    · exact ktu_ne 2 hLs e
    · exact ktu_ne 3 hLs e
    · exact Nat.ne_of_lt hLs e
    · exact ktu_ne 1 hLs e
    · exact n1 e.symm
    · exact n2 e.symm
  · have hb' : p.1 = s.heap.objs.size + 4 ∨ p.1 = s.heap.objs.size + 2 ∨ p.1 = s.heap.objs.size + 3 ∨ p.1 = s.heap.objs.size ∨ p.1 = s.heap.objs.size + 1 := by simpa using hI
    have hlp := Heap.lt_size (N p hp).1
    rcases hb' with e | e | e | e | e
    · exact ktu_ne 4 hlp e
    · exact ktu_ne 2 hlp e
    · exact ktu_ne 3 hlp e
    · exact Nat.ne_of_lt hlp e
    · exact ktu_ne 1 hlp e
  · exact ⟨hz, hTI, ⟨_, _, hTO⟩, hi1, hi2, hl1.at fun o e => hk l1 o e, hl2.at fun o e => hk l2 o e⟩
  · rcases List.mem_cons.mp hp with rfl | hp
    · exact (hJk i m nx hJ).1
    · rw [List.mem_singleton.mp hp]; exact (hJk i m nx hJ).2
  · obtain ⟨T, vals, rfl, ⟨x, y, hx, hy, rfl⟩, hT⟩ := hP
    exact turn i x y T m₁ nx h tk own (by simpa using hx) (by simpa using hy) hT
  · exact done m₁ nx h tk (by simpa using hJ)
end
section
variable {prog : Program} {w : World} {A : Around} {E : Value → Shared → Prop} {s : Shared} {h₀ : Heap} {L l : Addr} {m : Str → Option Value} {news : List (Addr × Obj)} {value slice : PySem.Expr} {vs : List Value} {n : Nat} {Q : Value → Shared → Prop}
theorem my_slice_upto {b : Nat} {t : Tok} (_fl : SliceOn) (F : Fr h₀ L s.heap m) (N : News h₀ L s.heap news) (hm : (l, listOf vs.toArray n) ∈ news) (hz : vs.length ≤ 100000)
    (h : ∀ D h', Fr h₀ L h' m → News h₀ L h' ((D, listOf (vs.take b).toArray 0) :: news) → (∀ p ∈ news, p.1 < D) → Q (.ref D) { s with heap := h' })
    (hs : subscripted slice false (.ref l) (.ref s.heap.objs.size) = operate [.ref s.heap.objs.size, .ref l] (getItem (.ref l) (.ref s.heap.objs.size))) (ht : ∀ r, letTemporaryGo value (.ref l) r = pure ()) :
    wpAny (model prog w) A (subscriptTail value slice (.ref l) (.ref s.heap.objs.size)) Q E { s with heap := s.heap.push { cls := .type "slice", data := .fields #[.none, .int (b : Int) t, .none] } } := by
  refine kmk_slice F N ⟨_, (N _ hm).1, rfl, n, rfl⟩ .none (.int _ _) (fun D h' F' N' l1 => h D h' F' ?_ l1) hs ht (by rw [List.size_toArray, sizeLine_eq]; lia  )
  rw [slicePick_upto'] at N'
  exact N'
theorem my_slice_from {b : Nat} {t : Tok} (_fl : SliceOn) (F : Fr h₀ L s.heap m) (N : News h₀ L s.heap news) (hm : (l, listOf vs.toArray n) ∈ news) (hz : vs.length ≤ 100000)
    (h : ∀ D h', Fr h₀ L h' m → News h₀ L h' ((D, listOf (vs.drop b).toArray 0) :: news) → (∀ p ∈ news, p.1 < D) → Q (.ref D) { s with heap := h' })
    (hs : subscripted slice false (.ref l) (.ref s.heap.objs.size) = operate [.ref s.heap.objs.size, .ref l] (getItem (.ref l) (.ref s.heap.objs.size))) (ht : ∀ r, letTemporaryGo value (.ref l) r = pure ()) :
    wpAny (model prog w) A (subscriptTail value slice (.ref l) (.ref s.heap.objs.size)) Q E { s with heap := s.heap.push { cls := .type "slice", data := .fields #[.int (b : Int) t, .none, .none] } } := by
  refine kmk_slice F N ⟨_, (N _ hm).1, rfl, n, rfl⟩ (.int _ _) .none (fun D h' F' N' l1 => h D h' F' ?_ l1) hs ht (by rw [List.size_toArray, sizeLine_eq]; lia  )
  rw [slicePick_from'] at N'
  exact N'
end

section
variable {prog : Program} {w : World} {A : Around} {E : Value → Shared → Prop} {s : Shared} {h₀ : Heap} {L a b : Addr} {news : List (Addr × Obj)} {vs : List Value} {n k : Nat} {Q : Value → Shared → Prop}
theorem my_ne_bools (N : News h₀ L s.heap news) (ha : (a, listOf vs.toArray n) ∈ news) (hb : (b, listOf vs.toArray k) ∈ news) (hv : ∀ v ∈ vs, ∃ c, v = Value.bool c) (hu : A.units < cLine) (h : Q (.bool false) s) :
    wpAny (model prog w) A (compareOp .NotEq (.ref a) (.ref b)) Q E s := by
  have h1 : s.heap.IsList a vs.toArray := ⟨_, (N _ ha).1, rfl, n, rfl⟩
  have h2 : s.heap.IsList b vs.toArray := ⟨_, (N _ hb).1, rfl, k, rfl⟩
  refine EqBoolInt.of_rcne (k := !(List.range vs.toArray.size).all fun _ => true) (SeqAt.RcNeAt.lists h1 h2 rfl (by lia  ) fun j hj _ => ?_) ?_
  · obtain ⟨c, hc⟩ := hv (vs.toArray[j]) (by simp)
    rw [hc]
    have := SeqAt.EqAt.bool_bool (A := A.in1) (s := s) c c
    rwa [beq_self_eq_true] at this
  · have e : (List.range vs.toArray.size).all (fun _ => true) = true := by simp
    rw [e]
    exact h
end

section
variable {prog : Program} {w : World} {A : Around} {E : Value → Shared → Prop} {s : Shared} {h₀ : Heap} {L l : Addr} {m : Str → Option Value} {news : List (Addr × Obj)} {value slice : PySem.Expr} {vs : List Value} {ns : List Int} {n : Nat} {Q : Value → Shared → Prop}
theorem ints_take {vs : List Value} {ns : List Int} (h : IntsAre vs ns) (k : Nat) : IntsAre (vs.take k) (ns.take k) := h.take k
theorem ints_drop {vs : List Value} {ns : List Int} (h : IntsAre vs ns) (k : Nat) : IntsAre (vs.drop k) (ns.drop k) := h.drop k
theorem my_slice_upto_i {x : Int} {t : Tok} (_fl : SliceOnI) (F : Fr h₀ L s.heap m) (N : News h₀ L s.heap news) (hm : (l, listOf vs.toArray n) ∈ news) (hI : IntsAre vs ns) (hz : ns.length ≤ 100000) (hx : 0 ≤ x)
    (h : ∀ D ws h', Fr h₀ L h' m → News h₀ L h' ((D, listOf (List.toArray ws) 0) :: news) → (∀ p ∈ news, p.1 < D) → IntsAre ws (ns.take x.toNat) → Q (.ref D) { s with heap := h' })
    (hs : subscripted slice false (.ref l) (.ref s.heap.objs.size) = operate [.ref s.heap.objs.size, .ref l] (getItem (.ref l) (.ref s.heap.objs.size))) (ht : ∀ r, letTemporaryGo value (.ref l) r = pure ()) :
    wpAny (model prog w) A (subscriptTail value slice (.ref l) (.ref s.heap.objs.size)) Q E { s with heap := s.heap.push { cls := .type "slice", data := .fields #[.none, .int x t, .none] } } := by
  obtain ⟨b, rfl⟩ := Int.eq_ofNat_of_zero_le hx
  exact my_slice_upto ⟨⟩ F N hm (by rw [hI.length]; exact hz) (fun D h' F' N' l1 => h D _ h' F' N' l1 (hI.take b)) hs ht
theorem my_slice_from_i {x : Int} {t : Tok} (_fl : SliceOnI) (F : Fr h₀ L s.heap m) (N : News h₀ L s.heap news) (hm : (l, listOf vs.toArray n) ∈ news) (hI : IntsAre vs ns) (hz : ns.length ≤ 100000) (hx : 0 ≤ x)
    (h : ∀ D ws h', Fr h₀ L h' m → News h₀ L h' ((D, listOf (List.toArray ws) 0) :: news) → (∀ p ∈ news, p.1 < D) → IntsAre ws (ns.drop x.toNat) → Q (.ref D) { s with heap := h' })
    (hs : subscripted slice false (.ref l) (.ref s.heap.objs.size) = operate [.ref s.heap.objs.size, .ref l] (getItem (.ref l) (.ref s.heap.objs.size))) (ht : ∀ r, letTemporaryGo value (.ref l) r = pure ()) :
    wpAny (model prog w) A (subscriptTail value slice (.ref l) (.ref s.heap.objs.size)) Q E { s with heap := s.heap.push { cls := .type "slice", data := .fields #[.int x t, .none, .none] } } := by
  obtain ⟨b, rfl⟩ := Int.eq_ofNat_of_zero_le hx
  exact my_slice_from ⟨⟩ F N hm (by rw [hI.length]; exact hz) (fun D h' F' N' l1 => h D _ h' F' N' l1 (hI.drop b)) hs ht
end
/-- the ledger stays X, the new list holds f i -/
inductive JI (X : List (Addr × Obj)) (f : Nat → List Int) (i : Nat) (ys : List Value) : List (Addr × Obj) → Prop
  | mk (h : IntsAre ys (f i)) : JI X f i ys X
/-- the ledger stays X, the new list is f i -/
inductive JV (X : List (Addr × Obj)) (f : Nat → List Value) (i : Nat) (ys : List Value) : List (Addr × Obj) → Prop
  | mk (h : ys = f i) : JV X f i ys X
/-- the ledger stays X, the new list has f i items -/
inductive JL (X : List (Addr × Obj)) (f : Nat → Nat) (i : Nat) (ys : List Value) : List (Addr × Obj) → Prop
  | mk (h : ys.length = f i) : JL X f i ys X
/-- the ledger stays X, the names ys are free -/
inductive JS (X : List (Addr × Obj)) (ys : List Str) (m₀ : Str → Option Value) (i : Nat) (m : Str → Option Value) : List (Addr × Obj) → Prop
  | mk (hS : Same ys m₀ m) : JS X ys m₀ i m X
/-- the ledger stays X, the count x is f i, the names ys are free -/
inductive JC (X : List (Addr × Obj)) (f : Nat → Int) (x : Str) (ys : List Str) (m₀ : Str → Option Value) (i : Nat) (m : Str → Option Value) : List (Addr × Obj) → Prop
  | mk (t : Tok) (hm : m x = some (.int (f i) t)) (hS : Same ys m₀ m) : JC X f x ys m₀ i m X
/-- where it is at hand, the walk stops at a statement that parts, to join behind it -/
structure JoinOn : Prop
theorem Stop.join {P : Prop} (_ : JoinOn) (h : Stop P) : P := h.out
section
variable {prog : Program} {w : World} {A : Around} {E : Value → Shared → Prop} {s : Shared} {h₀ : Heap} {L : Addr} {m : Str → Option Value} {Q : Flow → Shared → Prop} {c : Sem Flow}
inductive NextS (h₀ : Heap) (L : Addr) (m : Str → Option Value) (news : List (Addr × Obj)) (s : Shared) : Flow → Shared → Prop
  | mk (h : Heap) (tk : Nat) (F : Fr h₀ L h m) (N : News h₀ L h news) : NextS h₀ L m news s .next { s with heap := h, toks := tk }
theorem cut_next (F : Fr h₀ L s.heap m) (news : List (Addr × Obj)) (h1 : wpAny (model prog w) A c (NextS h₀ L m news s) E s)
    (h2 : ∀ h tk, Fr h₀ L h m → News h₀ L h news → Q .next { s with heap := h, toks := tk }) : wpAny (model prog w) A c Q E s :=
  wpAny_mono h1 (fun _ _ h => by cases h with | mk h tk F N => exact h2 h tk F N) fun _ _ e => e
inductive NextI (h₀ : Heap) (L : Addr) (m : Str → Option Value) (x : Str) (v : Int) (news : List (Addr × Obj)) (s : Shared) : Flow → Shared → Prop
  | mk (h : Heap) (tk : Nat) (t : Tok) (F : Fr h₀ L h (fun y => if y = x then some (.int v t) else m y)) (N : News h₀ L h news) : NextI h₀ L m x v news s .next { s with heap := h, toks := tk }
theorem cut_int (F : Fr h₀ L s.heap m) (x : Str) (v : Int) (news : List (Addr × Obj)) (h1 : wpAny (model prog w) A c (NextI h₀ L m x v news s) E s)
    (h2 : ∀ h tk t, Fr h₀ L h (fun y => if y = x then some (.int v t) else m y) → News h₀ L h news → Q .next { s with heap := h, toks := tk }) : wpAny (model prog w) A c Q E s :=
  wpAny_mono h1 (fun _ _ h => by cases h with | mk h tk t F N => exact h2 h tk t F N) fun _ _ e => e
inductive NextB (h₀ : Heap) (L : Addr) (m : Str → Option Value) (x : Str) (v : Bool) (news : List (Addr × Obj)) (s : Shared) : Flow → Shared → Prop
  | mk (h : Heap) (tk : Nat) (F : Fr h₀ L h (fun y => if y = x then some (.bool v) else m y)) (N : News h₀ L h news) : NextB h₀ L m x v news s .next { s with heap := h, toks := tk }
theorem cut_bool (F : Fr h₀ L s.heap m) (x : Str) (v : Bool) (news : List (Addr × Obj)) (h1 : wpAny (model prog w) A c (NextB h₀ L m x v news s) E s)
    (h2 : ∀ h tk, Fr h₀ L h (fun y => if y = x then some (.bool v) else m y) → News h₀ L h news → Q .next { s with heap := h, toks := tk }) : wpAny (model prog w) A c Q E s :=
  wpAny_mono h1 (fun _ _ h => by cases h with | mk h tk F N => exact h2 h tk F N) fun _ _ e => e
inductive IsT (h₀ : Heap) (L : Addr) (m : Str → Option Value) (news : List (Addr × Obj)) (s : Shared) : Bool → Shared → Prop
  | mk (h : Heap) (tk : Nat) (F : Fr h₀ L h m) (N : News h₀ L h news) : IsT h₀ L m news s true { s with heap := h, toks := tk }
theorem cut_true {c : Sem Bool} {Q : Bool → Shared → Prop} (F : Fr h₀ L s.heap m) (news : List (Addr × Obj)) (h1 : wpAny (model prog w) A c (IsT h₀ L m news s) E s)
    (h2 : ∀ h tk, Fr h₀ L h m → News h₀ L h news → Q true { s with heap := h, toks := tk }) : wpAny (model prog w) A c Q E s :=
  wpAny_mono h1 (fun _ _ h => by cases h with | mk h tk F N => exact h2 h tk F N) fun _ _ e => e
end
end
section
open PySem PySem.W PyProof.Rows PySem.Spec PySem.Calls
def KP {α : Type} (n : Nat) (lt : Nat → Nat → Bool) : KasT α → (α → Prop) → Prop
  | .ret a, Q => Q a
  | .ask i j k, Q => i < n ∧ j < n ∧ KP n lt (k (lt i j)) Q
theorem KP_bind {α β : Type} {n : Nat} {lt : Nat → Nat → Bool} {g : α → KasT β} {Q : β → Prop} : ∀ (t : KasT α), KP n lt t (fun a => KP n lt (g a) Q) → KP n lt (t.bind g) Q
  | .ret _, h => h
  | .ask _ _ k, h => ⟨h.1, h.2.1, KP_bind (k _) h.2.2⟩
theorem KP_mono {α : Type} {n : Nat} {lt : Nat → Nat → Bool} {Q R : α → Prop} : ∀ (t : KasT α), KP n lt t Q → (∀ a, Q a → R a) → KP n lt t R
  | .ret a, h, hq => hq a h
  | .ask _ _ k, h, hq => ⟨h.1, h.2.1, KP_mono (k _) h.2.2 hq⟩
theorem KP_wp {α : Type} {n : Nat} {lt : Nat → Nat → Bool} {cmp : Nat → Nat → (Bool → Shared → Prop) → Shared → Prop} {s : Shared} (hc : ∀ i j C, i < n → j < n → C (lt i j) s → cmp i j C s) {Q : α → Prop} {R : α → Shared → Prop} :
    ∀ (t : KasT α), KP n lt t Q → (∀ a, Q a → R a s) → t.kasWp cmp R s
  | .ret a, h, hq => hq a h
  | .ask _ _ k, h, hq => hc _ _ _ h.1 h.2.1 (KP_wp hc (k _) h.2.2 hq)

section
variable {f : Nat → Int} {n : Nat}
def KG (f : Nat → Int) (p : Array Nat) (i : Nat) : Int := f (p.getD i 0)
def KS (f : Nat → Int) (p : Array Nat) (k : Nat) : Prop := ∀ i j, i ≤ j → j < k → KG f p i ≤ KG f p j
def KN (f : Nat → Int) (p : Array Nat) (k : Nat) : Prop := ∀ i j, i ≤ j → j < k → KG f p j ≤ KG f p i
def PB (n : Nat) (p : Array Nat) : Prop := p.Perm (List.range n).toArray
theorem PB.size {p : Array Nat} (h : PB n p) : p.size = n := by
  have := h.size_eq
  simpa using this
theorem PB.lt {p : Array Nat} (h : PB n p) {i : Nat} (hi : i < n) : p.getD i 0 < n := by
  have hs := h.size
  have hi' : i < p.size := by lia  
  have e : p.getD i 0 = p[i] := by simp [Array.getD, hi']
  rw [e]
  have : p[i] ∈ (List.range n).toArray := h.mem_iff.mp (Array.getElem_mem hi')
  simpa using this
theorem PB.to {p q : Array Nat} (h : PB n p) (hq : q.Perm p) : PB n q := hq.trans h
theorem KG_congr {p q : Array Nat} {i j : Nat} (h : p[i]? = q[j]?) : KG f p i = KG f q j := by
  unfold KG
  rw [Array.getD_eq_getD_getElem?, Array.getD_eq_getD_getElem?, h]
theorem KG_bubble {xs : Array Nat} {src d : Nat} (hs : src < xs.size) (hd : d ≤ src) (k : Nat) :
    KG f (bubble xs src d) k = if k = src - d then KG f xs src else if src - d < k ∧ k ≤ src then KG f xs (k - 1) else KG f xs k := by
  have e := getElem?_bubble hs d hd k
  by_cases h1 : k = src - d
  · rw [if_pos h1] at e ⊢; exact KG_congr e
  · rw [if_neg h1] at e ⊢
    by_cases h2 : src - d < k ∧ k ≤ src
    · rw [if_pos h2] at e ⊢; exact KG_congr e
    · rw [if_neg h2] at e ⊢; exact KG_congr e
theorem KG_mirror {xs : Array Nat} {i j : Nat} (hj : j ≤ xs.size) (k : Nat) :
    KG f (mirror xs i j ((j - i) / 2)) k = if i ≤ k ∧ k < j then KG f xs (i + j - 1 - k) else KG f xs k := by
  have e := getElem?_mirror_all (i := i) hj k
  by_cases h1 : i ≤ k ∧ k < j
  · rw [if_pos h1] at e ⊢; exact KG_congr e
  · rw [if_neg h1] at e ⊢; exact KG_congr e
theorem KG_mirror_equal {xs : Array Nat} {i j : Nat} (hj : j ≤ xs.size) (heq : ∀ k, i ≤ k → k < j → KG f xs k = KG f xs (j - 1)) (k : Nat) :
    KG f (mirror xs i j ((j - i) / 2)) k = KG f xs k := by
  rw [KG_mirror hj]
  split
  · rw [heq _ (by lia  ) (by lia  ), heq k (by lia  ) (by lia  )]
  · rfl
abbrev klt (f : Nat → Int) (i j : Nat) : Bool := decide (f i < f j)

theorem KP_asc {p : Array Nat} {Q : Nat → Prop} (hB : PB n p) : ∀ (fu a : Nat), 1 ≤ a → a + fu ≤ n → KS f p a →
    (∀ m, a ≤ m → m ≤ a + fu → KS f p m → (m = a + fu ∨ KG f p m < KG f p (m - 1)) → Q m) → KP n (klt f) (kas_asc p fu a) Q
  | 0, a, ha, hn, hs, h => h a (Nat.le_refl _) (Nat.le_refl _) hs (.inl rfl)
  | fu + 1, a, ha, hn, hs, h => by
    refine ⟨hB.lt (by lia  ), hB.lt (by lia  ), ?_⟩
    by_cases hless : KG f p a < KG f p (a - 1)
    · have e : klt f (p.getD a 0) (p.getD (a - 1) 0) = true := decide_eq_true hless
      rw [e]
      exact h a (Nat.le_refl _) (by lia  ) hs (.inr hless)
    · have e : klt f (p.getD a 0) (p.getD (a - 1) 0) = false := decide_eq_false hless
      rw [e]
      refine KP_asc hB fu (a + 1) (by lia  ) (by lia  ) (fun i j hij hj => ?_) (fun m h1 h2 h3 h4 => h m (by lia  ) (by lia  ) h3 (by rcases h4 with h4 | h4
                                                                                                                                      · exact .inl (by lia  )
                                                                                                                                      · exact .inr h4))
      by_cases hjx : j < a
      · exact hs i j hij hjx
      · have hj' : j = a := by lia  
        subst hj'
        by_cases hi' : i = j
        · subst hi'; exact Int.le_refl _
        · exact Int.le_trans (hs i (j - 1) (by lia  ) (by lia  )) (Int.not_lt.mp hless)

theorem KP_tail3 {p : Array Nat} {m nrem : Nat} {Q : Nat × Array Nat → Prop} (hB : PB n p) (hn : nrem ≤ n) (h1 : 1 ≤ m) (hm : m ≤ nrem) (hs : KN f p m)
    (h : ∀ k q, PB n q → 1 ≤ k → k ≤ nrem → KS f q k → Q (k, q)) : KP n (klt f) (kas_tail3 m nrem p) Q := by
  unfold kas_tail3
  have hsz : m ≤ p.size := by rw [hB.size]; lia  
  have hB' : PB n (kas_rev p 0 m) := hB.to (mirror_perm _ _ _ _)
  refine KP_bind _ (KP_asc hB' _ m h1 (by lia  ) ?_ fun k k1 k2 k3 _ => h k _ hB' (by lia  ) (by lia  ) k3)
  intro i j hij hj
  show KG f (mirror p 0 m ((m - 0) / 2)) i ≤ KG f (mirror p 0 m ((m - 0) / 2)) j
  rw [KG_mirror hsz, KG_mirror hsz, if_pos (by lia  ), if_pos (by lia  )]
  exact hs _ _ (by lia  ) (by lia  )

theorem KP_desc {Q : Array Nat × Nat × Nat → Prop} {nrem : Nat} (hn : nrem ≤ n)
    (h : ∀ m neq q, PB n q → 1 ≤ m → m ≤ nrem → KN f q m → neq + 1 ≤ m → (∀ i, m - (neq + 1) ≤ i → i < m → KG f q i = KG f q (m - 1)) → Q (q, m, neq)) :
    ∀ (fu : Nat) (p : Array Nat) (x neq : Nat), 1 ≤ x → x + fu = nrem → PB n p → KN f p x → neq + 1 ≤ x → (∀ i, x - (neq + 1) ≤ i → i < x → KG f p i = KG f p (x - 1)) → KP n (klt f) (kas_desc fu p x neq) Q
  | 0, p, x, neq, hx, hf, hB, hs, hq, he => h x neq p hB hx (by lia  ) hs hq he
  | fu + 1, p, x, neq, hx, hf, hB, hs, hq, he => by
    refine ⟨hB.lt (by lia  ), hB.lt (by lia  ), ?_⟩
    have hsz : x ≤ p.size := by rw [hB.size]; lia  
    by_cases hless : KG f p x < KG f p (x - 1)
    · have e : klt f (p.getD x 0) (p.getD (x - 1) 0) = true := decide_eq_true hless
      rw [e]; dsimp only; rw [if_pos rfl]
      have step1 : ∀ xs : Array Nat, (∀ k, KG f xs k = KG f p k) → KN f xs (x + 1) := by
        intro xs hk i j hij hj
        rw [hk, hk]
        by_cases hjx : j < x
        · exact hs i j hij hjx
        · have hj' : j = x := by lia  
          subst hj'
          by_cases hi' : i = j
          · subst hi'; exact Int.le_refl _
          · exact Int.le_trans (Int.le_of_lt hless) (hs i (j - 1) (by lia  ) (by lia  ))
      by_cases hneq : neq > 0
      · rw [if_pos hneq]
        exact KP_desc hn h fu _ (x + 1) 0 (by lia  ) (by lia  ) (hB.to (mirror_perm _ _ _ _)) (step1 _ (KG_mirror_equal hsz he)) (by lia  ) (fun i h1 h2 => by congr 1; lia  )
      · rw [if_neg hneq]
        exact KP_desc hn h fu _ (x + 1) 0 (by lia  ) (by lia  ) hB (step1 _ fun _ => rfl) (by lia  ) (fun i h1 h2 => by congr 1; lia  )
    · have e : klt f (p.getD x 0) (p.getD (x - 1) 0) = false := decide_eq_false hless
      rw [e]
      refine ⟨hB.lt (by lia  ), hB.lt (by lia  ), ?_⟩
      by_cases hl : KG f p (x - 1) < KG f p x
      · have e : klt f (p.getD (x - 1) 0) (p.getD x 0) = true := decide_eq_true hl
        rw [e]; dsimp only; rw [if_pos rfl]
        exact h x neq p hB hx (by lia  ) hs hq he
      · have e : klt f (p.getD (x - 1) 0) (p.getD x 0) = false := decide_eq_false hl
        rw [e]
        have heqx : KG f p x = KG f p (x - 1) := by lia  
        refine KP_desc hn h fu p (x + 1) (neq + 1) (by lia  ) (by lia  ) hB (fun i j hij hj => ?_) (by lia  ) (fun i h1 h2 => ?_)
        · by_cases hjx : j < x
          · exact hs i j hij hjx
          · have hj' : j = x := by lia  
            subst hj'
            by_cases hi' : i = j
            · subst hi'; exact Int.le_refl _
            · rw [heqx]; exact hs i (j - 1) (by lia  ) (by lia  )
        · rw [show x + 1 - 1 = x by lia  ]
          by_cases hix : i = x
          · subst hix; rfl
          · rw [heqx]; exact he i (by lia  ) (by lia  )

theorem KP_descPart {p : Array Nat} {m nrem : Nat} {Q : Nat × Array Nat → Prop} (hB : PB n p) (hn : nrem ≤ n) (hm : m + 1 ≤ nrem) (hs : KN f p (m + 1))
    (h : ∀ k q, PB n q → 1 ≤ k → k ≤ nrem → KS f q k → Q (k, q)) : KP n (klt f) (kas_descPart m nrem p) Q := by
  unfold kas_descPart
  refine KP_bind _ (KP_desc hn (fun k neq q hB' k1 k2 k3 k4 k5 => ?_) _ p (m + 1) 0 (by lia  ) (by lia  ) hB hs (by lia  ) (fun i h1 h2 => by congr 1; lia  ))
  dsimp only
  have hsz : k ≤ q.size := by rw [hB'.size]; lia  
  by_cases hneq : neq > 0
  · rw [if_pos hneq]
    refine KP_tail3 (hB'.to (mirror_perm _ _ _ _)) hn k1 k2 ?_ h
    intro i j hij hj
    show KG f (mirror q _ _ _) j ≤ KG f (mirror q _ _ _) i
    rw [KG_mirror_equal hsz k5, KG_mirror_equal hsz k5]
    exact k3 i j hij hj
  · rw [if_neg hneq]
    exact KP_tail3 hB' hn k1 k2 k3 h

theorem KP_count {p : Array Nat} {nrem : Nat} {Q : Nat × Array Nat → Prop} (hB : PB n p) (hn : nrem ≤ n) (h1 : 1 ≤ nrem)
    (h : ∀ k q, PB n q → 1 ≤ k → k ≤ nrem → KS f q k → Q (k, q)) : KP n (klt f) (kas_count nrem p) Q := by
  unfold kas_count
  refine KP_bind _ (KP_asc hB _ 1 (Nat.le_refl 1) (by lia  ) (fun i j hij hj => by have : i = j := by lia  
                                                                                   subst this; exact Int.le_refl _) fun m hm1 hm2 hsm hor => ?_)
  by_cases hnn : m = nrem
  · rw [if_pos (by simpa using hnn)]
    exact h m p hB hm1 (by lia  ) hsm
  · rw [if_neg (by simpa using hnn)]
    have hlt : KG f p m < KG f p (m - 1) := hor.resolve_left (by lia  )
    by_cases hgt : m > 1
    · rw [if_pos hgt]
      refine ⟨hB.lt (by lia  ), hB.lt (by lia  ), ?_⟩
      by_cases hrose : KG f p 0 < KG f p (m - 1)
      · have e : klt f (p.getD 0 0) (p.getD (m - 1) 0) = true := decide_eq_true hrose
        rw [e]; dsimp only; rw [if_pos rfl]
        exact h m p hB hm1 (by lia  ) hsm
      · have e : klt f (p.getD 0 0) (p.getD (m - 1) 0) = false := decide_eq_false hrose
        rw [e]
        have hsz : m ≤ p.size := by rw [hB.size]; lia  
        have hall : ∀ k, 0 ≤ k → k < m → KG f p k = KG f p (m - 1) := by
          intro k _ hk
          have a1 := hsm 0 k (by lia  ) hk
          have a2 := hsm k (m - 1) (by lia  ) (by lia  )
          lia  
        refine KP_descPart (hB.to (mirror_perm _ _ _ _)) hn (by lia  ) ?_ h
        intro i j hij hj
        show KG f (mirror p _ _ _) j ≤ KG f (mirror p _ _ _) i
        rw [KG_mirror_equal hsz hall, KG_mirror_equal hsz hall]
        by_cases hjn : j < m
        · rw [hall i (by lia  ) (by lia  ), hall j (by lia  ) hjn]; exact Int.le_refl _
        · have hj' : j = m := by lia  
          subst hj'
          by_cases hi' : i = j
          · subst hi'; exact Int.le_refl _
          · rw [hall i (by lia  ) (by lia  )]; exact Int.le_of_lt hlt
    · rw [if_neg hgt]
      have hn1' : m = 1 := by lia  
      subst hn1'
      refine KP_descPart hB hn (by lia  ) ?_ h
      intro i j hij hj
      by_cases hi' : i = j
      · subst hi'; exact Int.le_refl _
      · have hi0 : i = 0 := by lia  
        have hj1 : j = 1 := by lia  
        subst hi0; subst hj1
        exact Int.le_of_lt hlt

theorem KP_place {p : Array Nat} {k : Nat} {Q : Nat → Prop} (hB : PB n p) (hk : k < n) (hs : KS f p k)
    (h : ∀ l, l ≤ k → (∀ i, i < l → KG f p i ≤ KG f p k) → (∀ i, l ≤ i → i < k → KG f p k < KG f p i) → Q l) :
    ∀ (fu l r : Nat), r - l ≤ fu → l ≤ r → r ≤ k → (∀ i, i < l → KG f p i ≤ KG f p k) → (∀ i, r ≤ i → i < k → KG f p k < KG f p i) → KP n (klt f) (kas_place p k fu l r) Q
  | 0, l, r, hf, hlr, hrk, hlo, hhi => h l (by lia  ) hlo (fun i h1 h2 => hhi i (by lia  ) h2)
  | fu + 1, l, r, hf, hlr, hrk, hlo, hhi => by
    unfold kas_place
    by_cases hge : l ≥ r
    · rw [if_pos hge]
      exact h l (by lia  ) hlo (fun i h1 h2 => hhi i (by lia  ) h2)
    · rw [if_neg hge]
      refine ⟨hB.lt hk, hB.lt (by lia  ), ?_⟩
      by_cases hless : KG f p k < KG f p ((l + r) / 2)
      · have e : klt f (p.getD k 0) (p.getD ((l + r) / 2) 0) = true := decide_eq_true hless
        rw [e]; dsimp only; rw [if_pos rfl]
        exact KP_place hB hk hs h fu l _ (by lia  ) (by lia  ) (by lia  ) hlo (fun i h1 h2 => Int.lt_of_lt_of_le hless (hs _ _ h1 h2))
      · have e : klt f (p.getD k 0) (p.getD ((l + r) / 2) 0) = false := decide_eq_false hless
        rw [e]
        exact KP_place hB hk hs h fu _ r (by lia  ) (by lia  ) hrk (fun i h1 => Int.le_trans (hs i ((l + r) / 2) (by lia  ) (by lia  )) (Int.not_lt.mp hless)) hhi

theorem KP_bin {Q : Array Nat → Prop} (h : ∀ q, PB n q → KS f q n → Q q) : ∀ (fu : Nat) (p : Array Nat) (k : Nat), k + fu = n → PB n p → KS f p k → KP n (klt f) (kas_bin fu p k) Q
  | 0, p, k, hf, hB, hs => h p hB (by rw [← hf]; exact hs)
  | fu + 1, p, k, hf, hB, hs => by
    unfold kas_bin
    have hk : k < n := by lia  
    refine KP_bind _ (KP_place hB hk hs (fun l hlk hlo hhi => ?_) k 0 k (by lia  ) (by lia  ) (by lia  ) (fun i hi => by lia  ) (fun i h1 h2 => by lia  ))
    refine KP_bin h fu _ (k + 1) (by lia  ) (hB.to (bubble_perm _ _ _)) ?_
    have hks : k < p.size := by rw [hB.size]; exact hk
    intro i j hij hj
    rw [KG_bubble hks (by lia  ), KG_bubble hks (by lia  ), show k - (k - l) = l by lia  ]
    repeat' split
    all_goals first
      | (exfalso; lia  )
      | exact Int.le_refl _
      | exact hlo _ (by lia  )
      | exact Int.le_of_lt (hhi _ (by lia  ) (by lia  ))
      | exact hs _ _ (by lia  ) (by lia  )

theorem KP_sort (h1 : 1 ≤ n) : KP n (klt f) (kas_sort n) (fun p => PB n p ∧ KS f p n) := by
  unfold kas_sort
  refine KP_bind _ (KP_count (Array.Perm.refl _) (Nat.le_refl _) h1 fun k q hB k1 k2 hs => ?_)
  by_cases hlt : k < n
  · rw [if_pos hlt]
    refine KP_bin (fun q' a b => ⟨a, b⟩) _ q _ (by lia  ) hB ?_
    rw [show max k 1 = k by lia  ]
    exact hs
  · rw [if_neg hlt]
    have : k = n := by lia  
    subst this
    exact ⟨hB, hs⟩
end

def Tup2 (news : List (Addr × Obj)) (v : Value) (r : Int × Int) : Prop :=
  ∃ T u1 u2 n, v = .ref T ∧ (T, ({ cls := .type "tuple", data := .seq (List.toArray [Value.int r.1 u1, Value.int r.2 u2]) n } : Obj)) ∈ news
inductive TupsAre (news : List (Addr × Obj)) : List Value → List (Int × Int) → Prop
  | nil : TupsAre news [] []
  | cons {v vs r rs} : Tup2 news v r → TupsAre news vs rs → TupsAre news (v :: vs) (r :: rs)
theorem Tup2.mono {news news' : List (Addr × Obj)} (h : ∀ p ∈ news, p ∈ news') {v : Value} {r : Int × Int} : Tup2 news v r → Tup2 news' v r := fun ⟨T, u1, u2, n, e, m⟩ => ⟨T, u1, u2, n, e, h _ m⟩
theorem TupsAre.mono {news news' : List (Addr × Obj)} (h : ∀ p ∈ news, p ∈ news') : ∀ {vs : List Value} {rs : List (Int × Int)}, TupsAre news vs rs → TupsAre news' vs rs
  | _, _, .nil => .nil
  | _, _, .cons a r => .cons (a.mono h) (r.mono h)
theorem TupsAre.length {news : List (Addr × Obj)} : ∀ {vs : List Value} {rs : List (Int × Int)}, TupsAre news vs rs → vs.length = rs.length
  | _, _, .nil => rfl
  | _, _, .cons _ r => congrArg (· + 1) r.length
theorem TupsAre.get {news : List (Addr × Obj)} : ∀ {vs : List Value} {rs : List (Int × Int)}, TupsAre news vs rs → ∀ {i : Nat} {r : Int × Int}, rs[i]? = some r → ∃ v, vs[i]? = some v ∧ Tup2 news v r
  | _, _, .nil, i, r, h => by simp at h
  | _, _, .cons a t, 0, r, h => by
    simp only [List.getElem?_cons_zero, Option.some.injEq] at h
    exact ⟨_, rfl, h ▸ a⟩
  | _, _, .cons a t, i + 1, r, h => by
    simp only [List.getElem?_cons_succ] at h
    exact t.get h
theorem TupsAre.snoc {news : List (Addr × Obj)} {v : Value} {r : Int × Int} (a : Tup2 news v r) : ∀ {vs : List Value} {rs : List (Int × Int)}, TupsAre news vs rs → TupsAre news (vs ++ [v]) (rs ++ [r])
  | _, _, .nil => .cons a .nil
  | _, _, .cons b t => .cons b (t.snoc a)
theorem TupsAre.drop {news : List (Addr × Obj)} : ∀ {vs : List Value} {rs : List (Int × Int)} (k : Nat), TupsAre news vs rs → TupsAre news (vs.drop k) (rs.drop k)
  | _, _, 0, t => by simpa using t
  | _, _, k + 1, .nil => by simpa using .nil
  | _, _, k + 1, .cons a t => t.drop k
theorem TupsAre.pick {news : List (Addr × Obj)} {vs : List Value} {rs : List (Int × Int)} (t : TupsAre news vs rs) : ∀ (l : List Nat), (∀ i ∈ l, i < rs.length) → TupsAre news (l.map fun i => vs.getD i Value.none) (l.map fun i => rs.getD i (0, 0))
  | [], _ => .nil
  | i :: l, h => by
    have hi : i < rs.length := h i List.mem_cons_self
    obtain ⟨v, hv, ht⟩ := t.get (i := i) (r := rs[i]) (by simp [hi])
    refine .cons ?_ (t.pick l fun j hj => h j (List.mem_cons_of_mem _ hj))
    dsimp only
    rw [List.getD_eq_getElem?_getD, List.getD_eq_getElem?_getD, hv, List.getElem?_eq_getElem hi]
    exact ht

theorem tups_pr {news : List (Addr × Obj)} : ∀ {vs : List Value} {rs : List (Int × Int)}, TupsAre news vs rs → ∃ pr : List (Addr × Value × Value × Nat), vs = (pr.map fun p => Value.ref p.1) ∧
    (∀ p ∈ pr, (p.1, ({ cls := .type "tuple", data := .seq #[p.2.1, p.2.2.1] p.2.2.2 } : Obj)) ∈ news) ∧ pr.length = rs.length ∧ ∀ (i : Nat) p, pr[i]? = some p → ∃ r u1 u2, rs[i]? = some r ∧ p.2.1 = Value.int r.1 u1 ∧ p.2.2.1 = Value.int r.2 u2
  | _, _, .nil => ⟨[], rfl, (fun _ h => nomatch h), rfl, fun i p h => by simp at h⟩
  | _, _, .cons (r := r) ⟨T, u1, u2, n, e, hm⟩ t => by
    obtain ⟨pr, h1, h2, h3, h4⟩ := tups_pr t
    refine ⟨(T, Value.int r.1 u1, Value.int r.2 u2, n) :: pr, by rw [e, h1]; rfl, fun p hp => ?_, congrArg (· + 1) h3, fun i p hp => ?_⟩
    · rcases List.mem_cons.mp hp with rfl | hp
      · exact hm
      · exact h2 p hp
    · cases i with
      | zero =>
        simp only [List.getElem?_cons_zero, Option.some.injEq] at hp
        subst hp
        exact ⟨_, u1, u2, rfl, rfl, rfl⟩
      | succ i =>
        simp only [List.getElem?_cons_succ] at hp ⊢
        exact h4 i p hp
def keyT (r : Int × Int) : Int := r.1 * 100000 + r.2
theorem keyT_lt {a b c d : Int} (hb : -10000 ≤ b ∧ b ≤ 10000) (hd : -10000 ≤ d ∧ d ≤ 10000) : keyT (a, b) < keyT (c, d) ↔ a < c ∨ (a = c ∧ b < d) := by
  unfold keyT
  simp only
  lia  
theorem keyT_le {a b c d : Int} (hb : -10000 ≤ b ∧ b ≤ 10000) (hd : -10000 ≤ d ∧ d ≤ 10000) : keyT (a, b) ≤ keyT (c, d) ↔ a < c ∨ (a = c ∧ b ≤ d) := by
  unfold keyT
  simp only
  lia  

section
variable {prog : Program} {w : World} {A : Around} {E : Value → Shared → Prop} {s : Shared} {h₀ : Heap} {L : Addr} {m : Str → Option Value} {news : List (Addr × Obj)} {vs : List Value} {rows : List (Int × Int)}

theorem tup_lt {i j : Nat} {C : Bool → Shared → Prop} (N : News h₀ L s.heap news) (hT : TupsAre news vs rows) (hi : i < rows.length) (hj : j < rows.length) (hb : ∀ r ∈ rows, -10000 ≤ r.2 ∧ r.2 ≤ 10000)
    (h : C (decide (keyT (rows.getD i (0, 0)) < keyT (rows.getD j (0, 0)))) s) : kas_ask prog w A (tuples' true) vs i j C s := by
  obtain ⟨v, hv, T, u1, u2, n, rfl, hm⟩ := hT.get (i := i) (r := rows[i]) (by simp [hi])
  obtain ⟨v', hv', T', u1', u2', n', rfl, hm'⟩ := hT.get (i := j) (r := rows[j]) (by simp [hj])
  have e1 : rows.getD i (0, 0) = rows[i] := by simp [hi]
  have e2 : rows.getD j (0, 0) = rows[j] := by simp [hj]
  rw [e1, e2] at h
  have b1 := hb _ (List.getElem_mem hi)
  have b2 := hb _ (List.getElem_mem hj)
  unfold kas_ask
  rw [List.getD_eq_getElem?_getD, List.getD_eq_getElem?_getD, hv, hv']
  generalize hx : rows[i] = x at *
  generalize hy : rows[j] = y at *
  obtain ⟨a, b⟩ := x
  obtain ⟨c, d⟩ := y
  refine kat_lt (N _ hm).1 rfl (N _ hm').1 rfl (kat_cons (wpAny_eqBool_int ?_))
  by_cases hac : a = c
  · subst hac
    show KatGo _ _ _ _ _ _ _ _ _ _ (a == a) _
    rw [beq_self_eq_true]
    refine kat_yes (kat_cons (wpAny_eqBool_int ?_))
    by_cases hbd : b = d
    · subst hbd
      show KatGo _ _ _ _ _ _ _ _ _ _ (b == b) _
      rw [beq_self_eq_true]
      refine kat_yes (kat_nil ?_)
      have e3 : decide (keyT (a, b) < keyT (a, b)) = false := decide_eq_false (Int.lt_irrefl _)
      rw [e3] at h
      exact h
    · show KatGo _ _ _ _ _ _ _ _ _ _ (b == d) _
      rw [beq_eq_false_iff_ne.mpr hbd]
      refine kat_no (kat_one _ _ (wpAny_lt_int ?_))
      have e3 : decide (keyT (a, b) < keyT (a, d)) = decide (b < d) := decide_eq_decide.mpr (by rw [keyT_lt b1 b2]; lia  )
      rw [e3] at h
      exact h
  · show KatGo _ _ _ _ _ _ _ _ _ _ (a == c) _
    rw [beq_eq_false_iff_ne.mpr hac]
    refine kat_no (oneLt_int ?_)
    have e3 : decide (keyT (a, b) < keyT (c, d)) = decide (a < c) := decide_eq_decide.mpr (by rw [keyT_lt b1 b2]; lia  )
    rw [e3] at h
    exact h

theorem tups_kind {h : Heap} (N : News h₀ L h news) : ∀ {vs : List Value} {rows : List (Int × Int)}, TupsAre news vs rows → ∃ fs, fs.length = rows.length ∧ KatTups h vs fs ∧ ∀ v ∈ fs, ∃ i t, v = Value.int i t
  | _, _, .nil => ⟨[], rfl, KatTups.nil, fun _ h => nomatch h⟩
  | _, _, .cons ⟨T, u1, u2, n, e, hm⟩ r => by
    obtain ⟨fs, hl, hk, hv⟩ := tups_kind N r
    subst e
    refine ⟨_ :: fs, congrArg (· + 1) hl, KatTups.cons (N _ hm).1 rfl rfl rfl hk, fun v hv' => ?_⟩
    rcases List.mem_cons.mp hv' with rfl | h
    · exact ⟨_, _, rfl⟩
    · exact hv v h

theorem my_sorted_tups {l : Addr} {n : Nat} {Q : Value → Shared → Prop} (F : Fr h₀ L s.heap m) (N : News h₀ L s.heap news) (hm : (l, listOf vs.toArray n) ∈ news) (hT : TupsAre news vs rows) (h2 : 2 ≤ rows.length) (h64 : rows.length < 64)
    (hb : ∀ r ∈ rows, -10000 ≤ r.2 ∧ r.2 ≤ 10000)
    (h : ∀ D h' vs' rows' k, Fr h₀ L h' m → News h₀ L h' ((D, listOf (List.toArray vs') k) :: news) → (∀ q ∈ news, q.1 < D) → TupsAre news vs' rows' → rows'.Perm rows → rows'.Pairwise (fun a b => keyT a ≤ keyT b) → Q (.ref D) { s with heap := h' }) :
    wpAny (model prog w) A (call (.builtin "sorted") [.ref l]) Q E s := by
  have hl : s.heap.IsList l vs.toArray := ⟨_, (N _ hm).1, rfl, n, rfl⟩
  have hvl := hT.length
  refine kat_sorted F N hl (by lia  ) (by lia  ) fun D e1 h' F' N' hD => ?_
  have hT' : TupsAre ((D, seqObj "list" #[] e1) :: news) vs rows := hT.mono fun p hp => .tail _ hp
  obtain ⟨fs, hfl, hft, hfv⟩ := tups_kind N' hT'
  refine kat_kind (T := Value.type "int") hft (by lia  ) (fun v hv => ?_) rfl ?_
  · obtain ⟨i, t, rfl⟩ := hfv v hv
    exact Looks.of_pure rfl
  have et : (Value.type "int" != Value.type "tuple") = true := rfl
  rw [et, hvl]
  refine KP_wp (n := rows.length) (lt := klt fun i => keyT (rows.getD i (0, 0))) (fun i j C hi hj hC => tup_lt N' hT' hi hj hb hC) _ (KP_sort (by lia  )) fun p hp => ?_
  obtain ⟨hB, hS⟩ := hp
  have hpl : p.toList.Perm (List.range rows.length) := by
    have := Array.perm_iff_toList_perm.mp hB
    simpa using this
  have hpi : ∀ i ∈ p.toList, i < rows.length := fun i hi => by simpa using hpl.mem_iff.mp hi
  refine KasFin.intro F' N' (.head fun q hq => Nat.ne_of_lt (hD q hq)) fun h2 c F2 N2 => h D h2 _ (p.toList.map fun i => rows.getD i (0, 0)) c F2 N2 hD (hT.pick _ hpi) ?_ ?_
  · have h3 := hpl.map fun i => rows.getD i (0, 0)
    refine h3.trans (List.Perm.of_eq ?_)
    apply List.ext_getElem?
    intro i
    by_cases hi : i < rows.length
    · simp [hi]
    · simp [hi]
  · rw [List.pairwise_map, List.pairwise_iff_getElem]
    intro i j hi hj hij
    have hsz := hB.size
    rw [Array.length_toList] at hi hj
    have h3 := hS i j (Nat.le_of_lt hij) (by lia  )
    unfold KG at h3
    have e1 : p.getD i 0 = p[i] := by simp [Array.getD, hi]
    have e2 : p.getD j 0 = p[j] := by simp [Array.getD, hj]
    rw [e1, e2] at h3
    simpa using h3
end

def isort (l : List Int) : List Int := l.mergeSort fun a b => decide (a ≤ b)
theorem isort_perm (l : List Int) : (isort l).Perm l := List.mergeSort_perm _ _
theorem isort_sorted (l : List Int) : (isort l).Pairwise (· ≤ ·) := by
  have := List.pairwise_mergeSort (le := fun a b : Int => decide (a ≤ b)) (fun a b c h1 h2 => by simp only [decide_eq_true_eq] at *; lia  ) (fun a b => by simp only [Bool.or_eq_true, decide_eq_true_eq]; lia  ) l
  exact this.imp fun h => by simpa using h
theorem isort_unique {l l' : List Int} (hp : l'.Perm l) (hs : l'.Pairwise (· ≤ ·)) : l' = isort l :=
  (hp.trans (isort_perm l).symm).eq_of_pairwise (le := (· ≤ ·)) (fun a b _ _ h1 h2 => Int.le_antisymm h1 h2) hs (isort_sorted l)
theorem isort_len (l : List Int) : (isort l).length = l.length := (isort_perm l).length_eq
section
variable {prog : Program} {w : World} {A : Around} {E : Value → Shared → Prop} {s : Shared} {h₀ : Heap} {L : Addr} {m : Str → Option Value} {news : List (Addr × Obj)} {vs : List Value} {ns : List Int}
theorem my_sorted_ints {l : Addr} {n : Nat} {Q : Value → Shared → Prop} (F : Fr h₀ L s.heap m) (N : News h₀ L s.heap news) (hm : (l, listOf vs.toArray n) ∈ news) (hI : IntsAre vs ns) (h64 : ns.length < 64)
    (h : ∀ D h' vs' k, Fr h₀ L h' m → News h₀ L h' ((D, listOf (List.toArray vs') k) :: news) → (∀ q ∈ news, q.1 < D) → IntsAre vs' (isort ns) → Q (.ref D) { s with heap := h' }) :
    wpAny (model prog w) A (call (.builtin "sorted") [.ref l]) Q E s := by
  have hl : s.heap.IsList l vs.toArray := ⟨_, (N _ hm).1, rfl, n, rfl⟩
  refine sorted_N F N hl hI (by rw [hI.length]; exact h64) fun h' vs' ns' e F' N' hI' hp' hs' => ?_
  have e9 := isort_unique hp' hs'
  subst e9
  exact h _ h' vs' e F' N' (fun q hq => Nat.lt_succ_of_lt (Heap.lt_size (N q hq).1)) hI'
end
end
open PySem PySem.W PyProof.Rows PySem.Spec PySem.Calls
section
set_option maxHeartbeats 16000000
set_option pp.deepTerms false
set_option pp.deepTerms.threshold 6
set_option pp.maxSteps 3000
set_option compiler.extract_closed false
local macro_rules | `(tactic| k_mem) => `(tactic| first | assumption | exact List.mem_cons_self .. | (refine List.mem_cons_of_mem _ ?_; k_mem) | (refine List.mem_append_left _ ?_; k_mem) | (refine List.mem_append_right _ ?_; k_mem))
local macro_rules | `(tactic| k_all) => `(tactic| first | with_reducible assumption | exact off_by (by with_reducible assumption) (by lia  ))
local macro_rules | `(tactic| walk_at $s:str) => if ["exec For Tuple Call cons nil", "exec For Name Call cons nil", "exec For Name Subscript cons nil"].contains s.getString then `(tactic| (k_here; (rename Fr _ _ _ _ => lF'); (with_unfolding_all refine' For_turns lF' ?_; k_whole))) else Lean.Macro.throwUnsupported
local macro_rules | `(tactic| walk_at $s:str) => if ["exec While", "exec Assign cons ListComp", "eval ListComp", "pyIter ref", "call ref", "call builtin:sorted", "compareOp NotEq ref ref", "compareOp Eq ref ref", "call builtin:sum", "call type:zip"].contains s.getString then `(tactic| (k_here; refine Stop.out ?_)) else Lean.Macro.throwUnsupported
local macro_rules | `(tactic| walk_at "call builtin:max") => `(tactic| (k_here; (with_reducible show wpAny _ _ (call _ [Value.ref _]) _ _ _); refine Stop.out ?_))
local macro_rules | `(tactic| walk_at "exec Raise some none") => `(tactic| (k_here; first | (exfalso; lia  ) | refine Stop.out ?_))
local macro_rules | `(tactic| walk_at "MWPost") => `(tactic| (dsimp only [MWPost]))
local macro_rules | `(tactic| walk_at "execs cons") => `(tactic| first | k_fold | dsimp only)
local macro_rules | `(tactic| walk_at "ent1") => `(tactic| ((case kA | kF => exact rfl); (case kK => assumption); (case k1 | k2 | k3 | k4 | k5 => k_asm); (case k6 | k7 => k_is); (case k8 => ktr_room); (case k9 => exact BindsTo.of_eq rfl)))
local macro_rules | `(tactic| walk_at "enter") => `(tactic| (walk_at "ent1"; (case c5 => decide); (case kB => exact locs rfl); (case c2 | c3 | c4 => exact rfl); k_whole; intro g' L' h' FG' F' N' B' X' T'; (try dsimp only); (try k_fold)))
local macro_rules | `(tactic| walk_at "enterC") => `(tactic| (walk_at "ent1"; (case kB | c2 | c3 | c4 => exact rfl); (case kD => decide +kernel); k_whole; intro g' L' h' tk' cells' FG' F' N' Y' B' X' T' l1; (try k_lt l1); k_cells Y'; (try simp only [List.cons_append, List.nil_append] at N'); (try dsimp only); (try k_fold)))
local macro_rules | `(tactic| walk_at "callto") => `(tactic| ((case k4 | k1 | k2 | k3 | k5 => k_asm); (case kK => first | exact rfl | assumption); (case kd => ktr_room); (case ku => ktr_units)))
local macro_rules | `(tactic| walk_at "subscriptTail") => `(tactic| (k_here; (with_reducible show wpAny _ _ (subscriptTail _ _ (Value.ref _) (Value.int _ _)) _ _ _); k_dflt (first
  | (refine' kim_tup ?k1 ?k2 ?k3 ?k4 ?k5 ?k6 ?k7 ?k8 ?_ ?k9 ?k10; (case k1 => k_asm); (case k2 => k_mem); (case k3 | k4 | k7 | k8 => exact rfl); (case k5 | k6 => decide); (case k9 => with_unfolding_all rfl); (case k10 => intro _; with_unfolding_all rfl))
  | (refine' kim_list ?k1 ?k2 ?k3 ?k4 ?k5 ?k6 ?k7 ?_ ?k8 ?k9; (case k1 => k_asm); (case k2 => k_mem); (case k3 | k4 => exact rfl); (case k5 | k6 => lia  ); (case k7 => assumption); (case k8 => with_unfolding_all rfl); (case k9 => intro _; with_unfolding_all rfl)))))
local macro_rules | `(tactic| walk_at "call builtin:len") => `(tactic| (k_here; (with_reducible show wpAny _ _ (call (Value.builtin "len") [Value.ref _]) _ _ _); k_dflt (refine' my_len ?k1 ?k2 ?k3 ?k4 ?_; (case k1 => k_asm); (case k2 => k_mem); (case k3 => assumption); (case k4 => lia  ); intro t' tk')))
local macro_rules | `(tactic| walk_at "zlen") => `(tactic| ((try simp only [List.length_map]); lia  ))
local macro_rules | `(tactic| walk_at "call builtin:list.append") => `(tactic| (k_here; (with_reducible show wpAny _ _ (call (Value.builtin _) [Value.ref _, _]) _ _ _); k_dflt (refine' my_append ?k1 ?k2 ?k3 ?z ?_; (case k1 | k2 => k_asm); (case k3 => k_upd); (case z => walk_at "zlen"); k_whole); intro h' F' N'; (try k_sweep)))
local macro_rules | `(tactic| walk_at "slc") => `(tactic| ((case F | N => k_asm); (case m => k_mem)))
local macro_rules | `(tactic| walk_at "sld") => `(tactic| ((case z => walk_at "zlen"); (case s => with_unfolding_all rfl); (case t => kmk_pure)))
local macro_rules | `(tactic| walk_at "subscriptTail Name Slice ref ref") => `(tactic| (k_here; first
  | (k_dflt ((first | refine' my_slice_upto_i (by with_reducible assumption) ?F ?N ?m ?i ?z ?x ?_ ?s ?t | refine' my_slice_from_i (by with_reducible assumption) ?F ?N ?m ?i ?z ?x ?_ ?s ?t); walk_at "slc"; (case i => assumption); (case x => lia  ); walk_at "sld"); intro D' ws' h' F' N' l1 hI'; (try simp only [Int.toNat_natCast] at hI'); (try k_lt l1); (try k_sweep))
  | (k_dflt ((first | refine' my_slice_upto (by with_reducible assumption) ?F ?N ?m ?z ?_ ?s ?t | refine' my_slice_from (by with_reducible assumption) ?F ?N ?m ?z ?_ ?s ?t); walk_at "slc"; walk_at "sld"); intro D' h' F' N' l1; (try k_lt l1); (try k_sweep))))
local macro_rules | `(tactic| walk_at "acomp0") => `(tactic| (refine Stop.mk ?_; (rename Fr _ _ _ _ => F4); k_dflt (refine my_Assign_ListComp (ct := none) F4 (by rfl) (by rfl) (by with_unfolding_all rfl) (by with_unfolding_all rfl) (by decide) (by rfl) (by decide) (by rfl) (by rfl) ?_)))
local macro_rules | `(tactic| walk_at "acomp1") => `(tactic| (refine Stop.mk ?_; (rename Fr _ _ _ _ => F4); k_dflt (refine my_Assign_ListComp (ct := some _) F4 (by rfl) (by rfl) (by with_unfolding_all rfl) (by with_unfolding_all rfl) (by decide) (by rfl) (by decide) (by rfl) (by rfl) ?_)))
local macro_rules | `(tactic| walk_at "ecomp0") => `(tactic| (refine Stop.mk ?_; (rename Fr _ _ _ _ => F4); k_dflt (refine my_ListComp (ct := none) F4 (by rfl) (by with_unfolding_all rfl) (by decide) (by rfl) (by decide) ?_)))
local macro_rules | `(tactic| walk_at "ecomp1") => `(tactic| (refine Stop.mk ?_; (rename Fr _ _ _ _ => F4); k_dflt (refine my_ListComp (ct := some _) F4 (by rfl) (by with_unfolding_all rfl) (by decide) (by rfl) (by decide) ?_)))
local macro_rules | `(tactic| omega) => `(tactic| lia)
theorem tune_placed : True := by
  w_top off
  exact True.intro
def rowD (r : Int × Nat) : Dat := .tuple [.int r.1, .int r.2]
def placedL (size : Nat) (syms : List Nat) (depths : List Int) : List Int := (syms.zip depths).foldl (fun f p => f.set p.1 p.2) (List.replicate size 0)

theorem placed_len {size : Nat} {ps : List (Nat × Int)} : ∀ {f : List Int}, f.length = size → (ps.foldl (fun f p => f.set p.1 p.2) f).length = size := by
  induction ps with
  | nil => intro f h; exact h
  | cons p r ih => intro f h; exact ih (by simpa using h)

inductive PlJ (sz : Nat) (rows : List (Int × Nat)) (depths : List Int) (D1 : Addr) (news : List (Addr × Obj)) (m₀ : Str → Option Value) (i : Nat) (m : Str → Option Value) : List (Addr × Obj) → Prop
  | mk (hS : Same [Str.ofString "place", Str.ofString "depth"] m₀ m) (us : List Value) (hu : IntsAre us (((rows.map (·.2)).zip (depths.take i)).foldl (fun f p => f.set p.1 p.2) (List.replicate sz 0))) : PlJ sz rows depths D1 news m₀ i m ((D1, W.listOf us.toArray 0) :: news)
inductive RowAt (news : List (Addr × Obj)) (vsr : List Value) (i : Nat) (r : Int × Nat) : Prop
  | mk (T2 : Addr) (n2 : Nat) (u1 u2 : Tok) (hv : vsr[i]? = some (.ref T2)) (h : (T2, ({ cls := .type "tuple", data := .seq (List.toArray [Value.int r.1 u1, Value.int r.2 u2]) n2 } : Obj)) ∈ news)
theorem rowAt_of {news : List (Addr × Obj)} {vsr : List Value} {rows : List (Int × Nat)} (hall : DatAll news vsr (rows.map rowD)) (i : Nat) (hir : i < rows.length) : RowAt news vsr i rows[i] := by
  obtain ⟨v, hv, hd2⟩ := hall.get (k := i) (by simpa using hir)
  have hd3 : DatIn news v (rowD rows[i]) := by simpa using hd2
  generalize rows[i] = r at hd3
  unfold rowD at hd3
  cases hd3 with
  | tuple h r =>
    cases r with
    | cons h1 r =>
      cases h1
      cases r with
      | cons h2 r =>
        cases h2
        cases r
        exact ⟨_, _, _, _, hv, h⟩
theorem placed_does (prog : Program) (w : World) (mean : ExcName → Option Value) (mg mb : Str → Option Value) (news : List (Addr × Obj)) (sz : Nat) (t : Tok) (ra da : Addr) (rows : List (Int × Nat)) (vs : List Value) (n : Nat) (depths : List Int)
    (hR : DatIn news (.ref ra) (.list (rows.map rowD))) (hD : (da, W.listOf vs.toArray n) ∈ news) (hi : IntsAre vs depths) (hlen : depths.length = rows.length) (hsym : ∀ r ∈ rows, r.2 < sz) (hsz : sz ≤ 1000) (hdl : depths.length ≤ 1000) :
    CallTo prog w mean mg mb 68 1 news [.int sz t, .ref ra, .ref da] (fun h₀ L m s Q => ∀ a us k h' tk', Fr h₀ L h' m → News h₀ L h' ((a, W.listOf us.toArray k) :: news) → (∀ p ∈ news, p.1 < a) →
      IntsAre us (placedL sz (rows.map (·.2)) depths) → Q (.ref a) { s with heap := h', toks := tk' }) := by
  unfold CallTo
  intro dp un gd cn cs a ccd cl outer A₀ base h₀ L m s Q E B F X N T hk hd hu hret
  refine wpAny_call ?_
  k_dflt (refine' code_def (binds := [(Str.ofString "size", .int sz t), (Str.ofString "rows", .ref ra), (Str.ofString "depths", .ref da)]) ?k1 ?k2 ?k3 ?k4 ?k5 ?kA ?kF ?kK ?k6 ?k7 ?k8 ?k9 ?kB ?_ ?c2 ?c3 ?c4 ?c5; walk_at "enter")
  k_steps
  rename_i g1 L1 _ FG1 _ B1 X1 T1 l1 _ hl1 D1 _ i1 n1 s1 e1 e2 e3 hlt1 _ F1 N1
  obtain ⟨vsr, nr, hra, hall⟩ : ∃ vsr nr, (ra, W.listOf vsr.toArray nr) ∈ news ∧ DatAll news vsr (rows.map rowD) := by
    cases hR with
    | list h r => exact ⟨_, _, h, r⟩
  obtain ⟨us0, N2, i2⟩ : ∃ us, News _ _ _ ((D1, W.listOf us.toArray 0) :: news) ∧ IntsAre us (List.replicate sz 0) := ⟨_, fun p hp => N1 p (by
    rcases List.mem_cons.mp hp with h | h
    · exact h ▸ .head _
    · exact .tail _ (.tail _ h)), by simpa using i1⟩
  refine for_enum (PlJ sz rows depths D1 news _)
    (by rfl) F1 N2 (.tail _ hD) ?_ ⟨Same.refl, us0, ?_⟩ ?_ ?_
  · rintro i m nx ⟨_, us, _⟩
    exact .tail _ hD
  · simpa using i2
  · intro i x T t' m₁ nx h tk own hx hT hoff hJ0 F2 N3
    induction hJ0
    rename_i hS us hu
    have F3 := hS.fr F2
    rw [List.cons_append] at N3
    have hlv := hi.length
    have hil : i < depths.length := by
      have := (List.getElem?_eq_some_iff.mp hx).1
      lia  
    have hir : i < rows.length := by lia  
    obtain ⟨t2, hx2⟩ := hi.get i depths[i] (by simp [hil])
    have ex : x = .int depths[i] t2 := by rw [hx] at hx2; exact Option.some.inj hx2
    subst ex
    obtain ⟨T2, n2, u1, u2, hv, hT2⟩ := rowAt_of hall i hir
    have hk2 : rows[i].2 < sz := hsym _ (List.getElem_mem hir)
    have hne : ∀ p ∈ news ++ own, p.1 ≠ D1 := forall_append (lt_ne fun p hp => Nat.lt_trans (hl1 p hp) hlt1.1) (off_own hoff)
    have hfl : (((rows.map (·.2)).zip (depths.take i)).foldl (fun f p => f.set p.1 p.2) (List.replicate sz (0 : Int))).length = sz := placed_len (by simp)
    clear N1 N2 F1 i1 i2 F2
    k_steps
    rename Fr _ _ _ _ => F9
    rename News _ _ _ _ => N9
    rename IntsAre _ _ => I9
    have e2 : ((rows.map (·.2)).zip (depths.take (i + 1))) = ((rows.map (·.2)).zip (depths.take i)) ++ [(rows[i].2, depths[i])] := by
      apply List.ext_getElem?
      intro k
      simp only [List.getElem?_append, List.length_zip, List.length_map, List.length_take]
      by_cases h : k < i
      · rw [if_pos (by lia  )]
        simp only [List.zip, List.getElem?_zipWith, List.getElem?_take, if_pos h, if_pos (show k < i + 1 by lia  )]
      · rw [if_neg (by lia  )]
        by_cases h2 : k = i
        · subst h2
          have : min rows.length (min k depths.length) = k := by lia  
          simp [List.zip, List.getElem?_zipWith, List.getElem?_take, this, hir, hil]
        · rw [List.getElem?_eq_none (by simp; lia  ), List.getElem?_eq_none (by simp; lia  )]
    have e3 : (((rows.map (·.2)).zip (depths.take i)).foldl (fun f p => f.set p.1 p.2) (List.replicate sz (0 : Int))).set ((rows[i].2 : Int)).toNat depths[i] = (((rows.map (·.2)).zip (depths.take (i + 1))).foldl (fun f p => f.set p.1 p.2) (List.replicate sz 0)) := by
      rw [e2, List.foldl_append]
      rfl
    rw [e3] at I9
    exact endG F9 N9 ⟨Same.put (by decide) (Same.put (by decide) Same.mix), _, I9⟩ hoff rfl (fun p hp => hp)
  · intro m₁ nx h tk hJ0 F2 N3
    induction hJ0
    rename_i hS us hu
    have F3 := hS.fr F2
    clear N1 N2 F1 i1 i2 F2
    k_steps
    refine hret D1 us 0 _ _ (by assumption) (by assumption) (fun p hp => Nat.lt_trans (hl1 p hp) hlt1.1) ?_
    have e : depths.take vs.length = depths := by rw [hi.length]; exact List.take_length ..
    rw [e] at hu
    exact hu
theorem tune_total_bits : True := by
  w_top off
  exact True.intro
/-- what all symbols take together -/
def totalL (cs ls : List Int) : Int := (List.zipWith (fun c l => c * l) cs ls).sum

theorem total_bits_does (prog : Program) (w : World) (mean : ExcName → Option Value) (mg mb : Str → Option Value) (news : List (Addr × Obj)) (ca la : Addr) (vs us : List Value) (n n2 : Nat) (cs ls : List Int)
    (hC : (ca, W.listOf vs.toArray n) ∈ news) (hc : IntsAre vs cs) (hLs : (la, W.listOf us.toArray n2) ∈ news) (hl : IntsAre us ls) (hlen : cs.length = ls.length) (hcl : cs.length ≤ 1000)
    (hb : ∀ i (h : i < cs.length) (h2 : i < ls.length), 0 ≤ cs[i] ∧ cs[i] ≤ 1000000 ∧ 0 ≤ ls[i] ∧ ls[i] ≤ 1000 ∧ (0 < cs[i] → 0 < ls[i])) :
    CallTo prog w mean mg mb 61 1 news [.ref ca, .ref la] (fun h₀ L m s Q => ∀ t h' tk', Fr h₀ L h' m → News h₀ L h' news → Q (.int (totalL cs ls) t) { s with heap := h', toks := tk' }) := by
  unfold CallTo
  intro dp un gd cn cs' a ccd cl outer A₀ base h₀ L m s Q E B F X N T hk hd hu hret
  refine wpAny_call ?_
  k_dflt (refine' code_def (binds := [(Str.ofString "counts", .ref ca), (Str.ofString "lengths", .ref la)]) ?k1 ?k2 ?k3 ?k4 ?k5 ?kA ?kF ?kK ?k6 ?k7 ?k8 ?k9 ?kB ?_ ?c2 ?c3 ?c4 ?c5; walk_at "enter")
  k_steps
  rename Fr _ _ _ _ => F1
  rename News _ _ _ _ => N1
  refine for_enum (JC news (fun i => ((List.zipWith (fun c l => c * l) cs ls).take i).sum) (Str.ofString "found") [Str.ofString "symbol", Str.ofString "count", Str.ofString "found"] _)
    (by rfl) F1 N1 hC ?_ ⟨_, rfl, Same.refl⟩ ?_ ?_
  · rintro i m nx ⟨_, _, _⟩
    exact hC
  · intro i x T t' m₁ nx h tk own hx hT hoff hJ0 F2 N3
    induction hJ0
    rename_i t3 hf hS
    have F3 := hS.frv hf F2
    have hlv := hc.length
    have hlu := hl.length
    have hil : i < cs.length := by
      have := (List.getElem?_eq_some_iff.mp hx).1
      lia  
    have hir : i < ls.length := by lia  
    obtain ⟨t2, hx2⟩ := hc.get i cs[i] (by simp [hil])
    have ex : x = .int cs[i] t2 := by rw [hx] at hx2; exact Option.some.inj hx2
    subst ex
    obtain ⟨t4, hv⟩ := hl.get i ls[i] (by simp [hir])
    obtain ⟨b1, b2, b3, b4, b5⟩ := hb i hil hir
    have es : ((List.zipWith (fun c l => c * l) cs ls).take (i + 1)).sum = ((List.zipWith (fun c l => c * l) cs ls).take i).sum + cs[i] * ls[i] := by
      have e : (List.zipWith (fun c l => c * l) cs ls)[i]? = some (cs[i] * ls[i]) := by simp [List.getElem?_zipWith, hil, hir]
      rw [List.take_add_one, e]
      simp
    clear N1 F1 F2
    by_cases hpos : 0 < cs[i]
    · have b6 := b5 hpos
      clear b5
      k_steps
      rename Fr _ _ _ _ => F9
      rename News _ _ _ _ => N9
      refine endG F9 N9 ⟨_, (by rw [es]; exact rfl), Same.put (by decide) (Same.put (by decide) (Same.put (by decide) (Same.put (by decide) Same.mix)))⟩ hoff rfl (fun p hp => hp)
    · have e0 : cs[i] = 0 := by lia  
      clear b5
      k_steps
      rename Fr _ _ _ _ => F9
      rename News _ _ _ _ => N9
      refine endG F9 N9 ⟨t3, ?_, Same.put (by decide) (Same.put (by decide) (Same.put (by decide) Same.mix))⟩ hoff rfl (fun p hp => hp)
      rw [es, e0, Int.zero_mul, Int.add_zero]
      rfl
  · intro m₁ nx h tk hJ0 F2 N3
    induction hJ0
    rename_i t3 hf hS
    have F3 := hS.frv hf F2
    clear N1 F1 F2
    k_steps
    have e : (List.zipWith (fun c l => c * l) cs ls).take vs.length = List.zipWith (fun c l => c * l) cs ls := List.take_of_length_le (by rw [List.length_zipWith, hc.length]; lia  )
    rw [e]
    exact hret _ _ _ (by assumption) (by assumption)
theorem tune_merged : True := by
  w_top off
  exact True.intro
/-- the ascending row, with a mark for each leaf -/
def mergeL : List Int → List Int → List (Bool × Int)
  | [], ps => ps.map fun p => (false, p)
  | w :: ws, [] => (w :: ws).map fun p => (true, p)
  | w :: ws, p :: ps => if w ≤ p then (true, w) :: mergeL ws (p :: ps) else (false, p) :: mergeL (w :: ws) ps
termination_by w p => w.length + p.length

theorem mergeL_leaf {ws ps : List Int} {i j : Nat} (hi : i < ws.length) (h : ps.length ≤ j ∨ ∃ hj : j < ps.length, ws[i] ≤ ps[j]) : mergeL (ws.drop i) (ps.drop j) = (true, ws[i]) :: mergeL (ws.drop (i + 1)) (ps.drop j) := by
  rw [List.drop_eq_getElem_cons hi]
  rcases h with h | ⟨hj, h⟩
  · rw [List.drop_eq_nil_of_le h]
    cases e : ws.drop (i + 1) with
    | nil => simp [mergeL]
    | cons a r => simp [mergeL]
  · rw [List.drop_eq_getElem_cons hj, mergeL, if_pos h]
theorem mergeL_pair {ws ps : List Int} {i j : Nat} (hj : j < ps.length) (h : ws.length ≤ i ∨ ∃ hi : i < ws.length, ¬ ws[i] ≤ ps[j]) : mergeL (ws.drop i) (ps.drop j) = (false, ps[j]) :: mergeL (ws.drop i) (ps.drop (j + 1)) := by
  rw [List.drop_eq_getElem_cons hj]
  rcases h with h | ⟨hi, h⟩
  · rw [List.drop_eq_nil_of_le h]
    simp only [mergeL, List.map_cons]
  · rw [List.drop_eq_getElem_cons hi, mergeL, if_neg h]
theorem ints_snoc {vs : List Value} {ns : List Int} (h : IntsAre vs ns) (x : Int) (t : Tok) : IntsAre (vs ++ [.int x t]) (ns ++ [x]) := by
  induction h with
  | nil => exact .cons _ _ .nil
  | cons n t' _ ih => exact .cons n t' ih

def leafB (ws ps : List Int) (i j : Nat) : Bool := decide (j = ps.length) || (decide (i < ws.length) && decide (ws.getD i 0 ≤ ps.getD j 0))
theorem leafB_both {ws ps : List Int} {i j : Nat} (hi : i < ws.length) (hj : j < ps.length) : leafB ws ps i j = decide (ws[i] ≤ ps[j]) := by
  unfold leafB
  rw [decide_eq_false (Nat.ne_of_lt hj), decide_eq_true hi, Bool.false_or, Bool.true_and, List.getD_eq_getElem?_getD, List.getD_eq_getElem?_getD, List.getElem?_eq_getElem hi, List.getElem?_eq_getElem hj]
  rfl
theorem leafB_end {ws ps : List Int} {i j : Nat} (hj : j = ps.length) : leafB ws ps i j = true := by
  unfold leafB
  rw [decide_eq_true hj, Bool.true_or]
theorem leafB_no {ws ps : List Int} {i j : Nat} (hi : ¬ i < ws.length) (hj : j < ps.length) : leafB ws ps i j = false := by
  unfold leafB
  rw [decide_eq_false (Nat.ne_of_lt hj), decide_eq_false hi, Bool.false_or, Bool.false_and]
theorem leafB_true {ws ps : List Int} {i j : Nat} (he : i < ws.length ∨ j < ps.length) (h : leafB ws ps i j = true) : ∃ hi2 : i < ws.length, ps.length ≤ j ∨ ∃ hj2 : j < ps.length, ws[i] ≤ ps[j] := by
  by_cases hj : j < ps.length
  · by_cases hi : i < ws.length
    · rw [leafB_both hi hj] at h
      exact ⟨hi, .inr ⟨hj, of_decide_eq_true h⟩⟩
    · rw [leafB_no hi hj] at h
      cases h
  · exact ⟨he.resolve_right hj, .inl (Nat.not_lt.mp hj)⟩
theorem leafB_false {ws ps : List Int} {i j : Nat} (hj0 : j ≤ ps.length) (h : leafB ws ps i j = false) : ∃ hj2 : j < ps.length, ws.length ≤ i ∨ ∃ hi2 : i < ws.length, ¬ ws[i] ≤ ps[j] := by
  by_cases hj : j < ps.length
  · by_cases hi : i < ws.length
    · rw [leafB_both hi hj] at h
      exact ⟨hj, .inr ⟨hi, of_decide_eq_false h⟩⟩
    · exact ⟨hj, .inl (Nat.not_lt.mp hi)⟩
  · rw [leafB_end (Nat.le_antisymm hj0 (Nat.not_lt.mp hj))] at h
    cases h
inductive MgJ (ws ps : List Int) (la ra : Addr) (news : List (Addr × Obj)) (m₀ : Str → Option Value) (μ : Nat) (m : Str → Option Value) : List (Addr × Obj) → Prop
  | mk (i j : Nat) (acc : List (Bool × Int)) (rv : List Value) (k1 k2 : Nat) (t1 t2 : Tok) (hμ : μ = (ws.length - i) + (ps.length - j)) (hi : i ≤ ws.length) (hj : j ≤ ps.length) (hacc : acc ++ mergeL (ws.drop i) (ps.drop j) = mergeL ws ps) (hal : acc.length = i + j)
    (hrv : IntsAre rv (acc.map (·.2))) (hm1 : m (Str.ofString "leaf") = some (.int (i : Int) t1)) (hm2 : m (Str.ofString "pair") = some (.int (j : Int) t2)) (hS : Same [Str.ofString "leaf", Str.ofString "pair", Str.ofString "is_leaf"] m₀ m) :
    MgJ ws ps la ra news m₀ μ m ((la, W.listOf (acc.map fun x => Value.bool x.1).toArray k2) :: (ra, W.listOf rv.toArray k1) :: news)

section
local macro_rules | `(tactic| walk_at "exec Assign") => `(tactic| (k_here; refine Stop.join (by with_reducible assumption) ?_))
theorem merged_does (prog : Program) (w : World) (mean : ExcName → Option Value) (mg mb : Str → Option Value) (news : List (Addr × Obj)) (wa pa : Addr) (vs us : List Value) (n n2 : Nat) (ws ps : List Int)
    (hW : (wa, W.listOf vs.toArray n) ∈ news) (hw : IntsAre vs ws) (hP : (pa, W.listOf us.toArray n2) ∈ news) (hp : IntsAre us ps) (hwl : ws.length ≤ 1000) (hpl : ps.length ≤ 1000) :
    CallTo prog w mean mg mb 82 1 news [.ref wa, .ref pa] (fun h₀ L m s Q => ∀ ta ra la rv k1 k2 k3 h' tk', Fr h₀ L h' m →
      News h₀ L h' ((ta, ({ cls := .type "tuple", data := .seq (List.toArray [Value.ref ra, Value.ref la]) k3 } : Obj)) :: (la, W.listOf (((mergeL ws ps).map fun x => Value.bool x.1)).toArray k2) :: (ra, W.listOf rv.toArray k1) :: news) → (∀ p ∈ news, p.1 < ra) → ra < la → la < ta →
      IntsAre rv ((mergeL ws ps).map (·.2)) → Q (.ref ta) { s with heap := h', toks := tk' }) := by
  unfold CallTo
  intro dp un gd cn cs' a ccd cl outer A₀ base h₀ L m s Q E B F X N T hk hd hu hret
  refine wpAny_call ?_
  k_dflt (refine' code_def (binds := [(Str.ofString "weights", .ref wa), (Str.ofString "pairs", .ref pa)]) ?k1 ?k2 ?k3 ?k4 ?k5 ?kA ?kF ?kK ?k6 ?k7 ?k8 ?k9 ?kB ?_ ?c2 ?c3 ?c4 ?c5; walk_at "enter")
  k_steps
  rename_i g1 L1 _ FG1 B1 X1 T1 _ ra _ hra la _ hla D1 _ hD1 _ _ _ _ _ F1 N1
  refine Stop.mk ?_
  have N2 : News g1 L1 _ ((la, W.listOf (([] : List (Bool × Int)).map fun x => Value.bool x.1).toArray 0) :: (ra, W.listOf ([] : List Value).toArray 0) :: news) := fun p hp => N1 p (.tail _ hp)
  have hlw := hw.length
  have hlp := hp.length
  have nel : ∀ p ∈ news, p.1 ≠ la := lt_ne fun p hp => Nat.lt_trans (hra p hp) hla.1
  have ner : ∀ p ∈ news, p.1 ≠ ra := lt_ne hra
  have hrl := hla.1
  clear hD1 N1 hla
  refine my_while (MgJ ws ps la ra news _)
    F1 N2 ⟨0, 0, [], [], 0, 0, _, _, rfl, Nat.zero_le _, Nat.zero_le _, rfl, rfl, .nil, rfl, rfl, Same.refl⟩ ?_
  intro μ m₁ nx h tk hJ0 F2 N3
  induction hJ0
  rename_i i j acc rv k1 k2 t1 t2 hμ hi hj hacc hal hrv hm1 hm2 hS
  have F3 := hS.frv2 hm1 hm2 F2
  have hrvl := hrv.length
  rw [List.length_map] at hrvl
  clear F1 N2 F2
  by_cases hend : i < ws.length ∨ j < ps.length
  · refine cut_true (by exact F3) ((la, W.listOf (acc.map fun x => Value.bool x.1).toArray k2) :: (ra, W.listOf rv.toArray k1) :: news) ?_ ?_
    · by_cases hi2 : i < ws.length
      · k_steps
        exact .mk _ _ (by assumption) (by assumption)
      · have hj2 : j < ps.length := by lia  
        k_steps
        exact .mk _ _ (by assumption) (by assumption)
    · intro h5 tk5 F5 N5
      clear F3 N3
      rw [if_pos rfl]
      have jon : JoinOn := ⟨⟩
      k_steps
      clear jon
      refine Stop.mk ?_
      refine cut_bool (by exact F5) (Str.ofString "is_leaf") (leafB ws ps i j) ((la, W.listOf (acc.map fun x => Value.bool x.1).toArray k2) :: (ra, W.listOf rv.toArray k1) :: news) ?_ ?_
      · by_cases hj2 : j < ps.length
        · obtain ⟨tp, hp2⟩ := hp.get j ps[j] (by simp [hj2])
          by_cases hi2 : i < ws.length
          · obtain ⟨tw, hw2⟩ := hw.get i ws[i] (by simp [hi2])
            rw [leafB_both hi2 hj2]
            k_steps
            all_goals try (exfalso; lia  )
            exact .mk _ _ (by assumption) (by assumption)
          · rw [leafB_no hi2 hj2]
            k_steps
            all_goals try (exfalso; lia  )
            rename Fr _ _ _ _ => F9
            rw [show decide ((i : Int) < (ws.length : Int)) = false from decide_eq_false (by lia  )] at F9
            exact .mk _ _ F9 (by assumption)
        · rw [leafB_end (by lia  )]
          k_steps
          all_goals try (exfalso; lia  )
          rename Fr _ _ _ _ => F9
          rw [show ((j : Int) == (ps.length : Int)) = true from beq_iff_eq.mpr (by lia  )] at F9
          exact .mk _ _ F9 (by assumption)
      · intro h6 tk6 F6 N6
        clear F5 N5
        rcases hb : leafB ws ps i j with _ | _
        · rw [hb] at F6
          obtain ⟨hj2, hor⟩ := leafB_false hj hb
          obtain ⟨tp, hp2⟩ := hp.get j ps[j] (by simp [hj2])
          k_steps
          rename Fr _ _ _ _ => F9
          rename News _ _ _ _ => N9
          rw [show (acc.map fun x => Value.bool x.1) ++ [Value.bool false] = (acc ++ [(false, ps[j])]).map fun x => Value.bool x.1 by simp] at N9
          refine endW ((ws.length - i) + (ps.length - (j + 1))) F9 N9 ⟨i, j + 1, acc ++ [(false, ps[j])], rv ++ [Value.int ps[j] tp], k1 + 1, k2 + 1, _, _, rfl, by lia  , by lia  , ?_, by rw [List.length_append, hal]; simp only [List.length_cons, List.length_nil]; lia  , by rw [List.map_append]; exact ints_snoc hrv _ _, rfl, rfl, Same.put (by decide) (Same.put (by decide) (Same.put (by decide) (Same.put (by decide) Same.mix)))⟩ (by lia  ) (fun p hp => hp)
          rw [List.append_assoc, List.singleton_append, ← mergeL_pair hj2 hor]
          exact hacc
        · rw [hb] at F6
          obtain ⟨hi2, hor⟩ := leafB_true hend hb
          obtain ⟨tw, hw2⟩ := hw.get i ws[i] (by simp [hi2])
          k_steps
          rename Fr _ _ _ _ => F9
          rename News _ _ _ _ => N9
          rw [show (acc.map fun x => Value.bool x.1) ++ [Value.bool true] = (acc ++ [(true, ws[i])]).map fun x => Value.bool x.1 by simp] at N9
          refine endW ((ws.length - (i + 1)) + (ps.length - j)) F9 N9 ⟨i + 1, j, acc ++ [(true, ws[i])], rv ++ [Value.int ws[i] tw], k1 + 1, k2 + 1, _, _, rfl, by lia  , by lia  , ?_, by rw [List.length_append, hal]; simp only [List.length_cons, List.length_nil]; lia  , by rw [List.map_append]; exact ints_snoc hrv _ _, rfl, rfl, Same.put (by decide) (Same.put (by decide) (Same.put (by decide) (Same.put (by decide) Same.mix)))⟩ (by lia  ) (fun p hp => hp)
          rw [List.append_assoc, List.singleton_append, ← mergeL_leaf hi2 hor]
          exact hacc
  · have hi2 : ¬ i < ws.length := fun h => hend (.inl h)
    have hj2 : ¬ j < ps.length := fun h => hend (.inr h)
    k_steps
    all_goals try (exfalso; lia  )
    rename Fr _ _ _ _ => F9
    rename News _ _ _ _ => N9
    rename _ ∧ _ ∧ AllLt _ _ => hD9
    have e1 : ws.drop i = [] := List.drop_eq_nil_of_le (by lia  )
    have e2 : ps.drop j = [] := List.drop_eq_nil_of_le (by lia  )
    have e3 : acc = mergeL ws ps := by
      rw [← hacc, e1, e2]
      simp [mergeL]
    subst e3
    refine hret _ ra la rv k1 k2 0 _ _ F9 N9 hra hrl (hD9.1) hrv
end
theorem tune_package : True := by
  w_top off
  exact True.intro
def pairsL : List Int → List Int
  | a :: b :: r => (a + b) :: pairsL r
  | _ => []
/-- the row of a lap: leaves and pairs, with a mark for each leaf -/
def rowAt (ws : List Int) : Nat → List (Bool × Int)
  | 0 => []
  | k + 1 => mergeL ws (pairsL ((rowAt ws k).map (·.2)))
def bumpL (t : Nat) (ds : List Int) : List Int := (ds.take t).map (· + 1) ++ ds.drop t
def stepL (st : List Int × Nat) (leaves : List Bool) : List Int × Nat := (bumpL ((leaves.take st.2).count true) st.1, 2 * (st.2 - (leaves.take st.2).count true))
def depthsL (ws : List Int) (L : Nat) : List Int := ((((List.range L).map fun k => (rowAt ws (k + 1)).map (·.1)).reverse).foldl stepL (List.replicate ws.length 0, 2 * ws.length - 2)).1

theorem pairsL_len : ∀ (r : List Int), (pairsL r).length = r.length / 2
  | [] => rfl
  | [_] => by simp [pairsL]
  | a :: b :: r => by
    show (pairsL r).length + 1 = (r.length + 2) / 2
    rw [pairsL_len r]
    lia  
theorem mergeL_len : ∀ (ws ps : List Int), (mergeL ws ps).length = ws.length + ps.length
  | [], ps => by simp [mergeL]
  | w :: ws, [] => by simp [mergeL]
  | w :: ws, p :: ps => by
    unfold mergeL
    split
    · rw [List.length_cons, mergeL_len ws (p :: ps)]
      simp only [List.length_cons]
      lia  
    · rw [List.length_cons, mergeL_len (w :: ws) ps]
      simp only [List.length_cons]
      lia  
termination_by ws ps => ws.length + ps.length
theorem rowAt_len (ws : List Int) : ∀ k, (rowAt ws k).length ≤ 2 * ws.length
  | 0 => Nat.zero_le _
  | k + 1 => by
    show (mergeL ws (pairsL ((rowAt ws k).map (·.2)))).length ≤ _
    have := rowAt_len ws k
    rw [mergeL_len, pairsL_len, List.length_map]
    lia  
theorem mergeL_count : ∀ (ws ps : List Int), ((mergeL ws ps).map (·.1)).count true = ws.length
  | [], ps => by
    rw [show mergeL [] ps = ps.map fun p => (false, p) by simp [mergeL]]
    rw [show ([] : List Int).length = 0 from rfl, List.count_eq_zero]
    simp
  | w :: ws, [] => by
    rw [show mergeL (w :: ws) [] = (w :: ws).map fun p => (true, p) by simp [mergeL]]
    rw [List.count_eq_length.mpr]
    · simp
    · simp
  | w :: ws, p :: ps => by
    unfold mergeL
    split
    · rw [List.map_cons, List.count_cons, mergeL_count ws (p :: ps)]
      simp
    · rw [List.map_cons, List.count_cons, mergeL_count (w :: ws) ps]
      simp
termination_by ws ps => ws.length + ps.length
theorem stepL_len (st : List Int × Nat) (lv : List Bool) : (stepL st lv).1.length = st.1.length := by
  simp only [stepL, bumpL]
  rw [List.length_append, List.length_map, ← List.length_append, List.take_append_drop]
theorem pairsL_get : ∀ (r : List Int) (k : Nat) (h : 2 * k + 1 < r.length), (pairsL r)[k]? = some (r[2 * k] + r[2 * k + 1])
  | [], k, h => absurd h (Nat.not_lt_zero _)
  | [_], k, h => by simp at h
  | a :: b :: r, 0, h => rfl
  | a :: b :: r, k + 1, h => by
    have h' : 2 * k + 1 < r.length := by simp only [List.length_cons] at h; lia  
    have e := pairsL_get r k h'
    show (pairsL r)[k]? = _
    rw [e]
    rfl

theorem bump_set (j : Nat) (dl : List Int) (h : j < dl.length) : (bumpL j dl).set j ((bumpL j dl).getD j 0 + 1) = bumpL (j + 1) dl := by
  unfold bumpL
  have e1 : ((dl.take j).map (· + 1)).length = j := by rw [List.length_map, List.length_take]; lia  
  have e2 : dl.drop j = dl[j] :: dl.drop (j + 1) := List.drop_eq_getElem_cons h
  rw [e2]
  have e3 : (((dl.take j).map (· + 1)) ++ dl[j] :: dl.drop (j + 1)).getD j 0 = dl[j] := by
    rw [List.getD_eq_getElem?_getD, List.getElem?_append_right (by lia  ), e1, Nat.sub_self]
    rfl
  rw [e3, List.set_append_right _ _ (by lia  ), e1, Nat.sub_self, List.set_cons_zero, List.take_add_one, List.getElem?_eq_getElem h, List.map_append, List.append_assoc]
  rfl
inductive PkA (ws : List Int) (news : List (Addr × Obj)) (ra C : Addr) (m₀ : Str → Option Value) (i : Nat) (m : Str → Option Value) : List (Addr × Obj) → Prop
  | mk (hS : Same [Str.ofString "lap", Str.ofString "pairs", Str.ofString "leaves"] m₀ m) (rest : List (Addr × Obj)) (rv : List Value) (k1 : Nat) (oc : Obj) (rowA : Addr) (rowV : List Value) (k2 : Nat)
    (hnr : ∀ p ∈ news, p ∈ rest) (hr1 : ∀ p ∈ rest, p.1 ≠ ra) (hr2 : ∀ p ∈ rest, p.1 ≠ C) (hoc : oc.data = .cell (some (.ref rowA))) (hrow : (rowA, W.listOf rowV.toArray k2) ∈ rest) (hI : IntsAre rowV ((rowAt ws i).map (·.2))) (hlr : rv.length = i)
    (hlv : ∀ k, k < i → ∃ a kk, rv[k]? = some (.ref a) ∧ (a, W.listOf (((rowAt ws (k + 1)).map fun x => Value.bool x.1)).toArray kk) ∈ rest) : PkA ws news ra C m₀ i m ((ra, W.listOf rv.toArray k1) :: (C, oc) :: rest)
def packRun (ws : List Int) (L₀ i : Nat) : List Int × Nat := (((((List.range L₀).map fun k => (rowAt ws (k + 1)).map (·.1)).reverse).take i).foldl stepL (List.replicate ws.length 0, 2 * ws.length - 2))
inductive PkB (ws : List Int) (L₀ : Nat) (D1 : Addr) (X : List (Addr × Obj)) (m₀ : Str → Option Value) (i : Nat) (m : Str → Option Value) : List (Addr × Obj) → Prop
  | mk (dv : List Value) (kk : Nat) (dl : List Int) (wn : Nat) (t : Tok) (hdv : IntsAre dv dl) (hwm : m (Str.ofString "wanted") = some (.int (wn : Int) t)) (hst : packRun ws L₀ i = (dl, wn))
    (hS : Same [Str.ofString "leaves", Str.ofString "taken", Str.ofString "is_leaf", Str.ofString "place", Str.ofString "wanted"] m₀ m) : PkB ws L₀ D1 X m₀ i m ((D1, W.listOf dv.toArray kk) :: X)
inductive PkD (Y : Addr × Obj) (D1 : Addr) (X : List (Addr × Obj)) (dl : List Int) (m₀ : Str → Option Value) (j : Nat) (m : Str → Option Value) : List (Addr × Obj) → Prop
  | mk (dv3 : List Value) (k3 : Nat) (hdv3 : IntsAre dv3 (bumpL j dl)) (hS : Same [Str.ofString "place"] m₀ m) : PkD Y D1 X dl m₀ j m (Y :: (D1, W.listOf dv3.toArray k3) :: X)
inductive TwoInts (vs : List Value) (i j : Nat) (e : Option Int) : Prop
  | mk (xa xb : Int) (ta tb : Tok) (hxa : vs[i]? = some (.int xa ta)) (hxb : vs[j]? = some (.int xb tb)) (hpk : e = some (xa + xb))

theorem package_does (prog : Program) (w : World) (mean : ExcName → Option Value) (mg mb : Str → Option Value) (news : List (Addr × Obj)) (wa : Addr) (vs : List Value) (n : Nat) (ws : List Int) (L₀ : Nat) (tL : Tok)
    (hW : (wa, W.listOf vs.toArray n) ∈ news) (hw : IntsAre vs ws) (hwl : ws.length ≤ 100) (hw2 : 2 ≤ ws.length) (hL : L₀ ≤ 100) :
    CallTo prog w mean mg mb 87 2 news [.ref wa, .int (L₀ : Int) tL] (fun h₀ L m s Q => ∀ a us k h' tk', Fr h₀ L h' m → News h₀ L h' ((a, W.listOf us.toArray k) :: news) → (∀ p ∈ news, p.1 < a) →
      IntsAre us (depthsL ws L₀) → Q (.ref a) { s with heap := h', toks := tk' }) := by
  unfold CallTo
  intro dp un gd cn cs' a ccd cl outer A₀ base h₀ L m s Q E B F X N T hk hd hu hret
  refine wpAny_call ?_
  k_dflt (refine' code_defC (binds := [(Str.ofString "weights", .ref wa), (Str.ofString "longest", .int (L₀ : Int) tL)]) ?k1 ?k2 ?k3 ?k4 ?k5 ?kA ?kF ?kK ?k6 ?k7 ?k8 ?k9 ?kB ?kD ?_ ?c2 ?c3 ?c4; walk_at "enterC")
  k_steps
  rename_i g1 L1 _ _ FG1 B1 X1 T1 hlL oc0 _ ra _ hra row0 _ hrow0 D1 _ hD1 _ _ _ oc1 _ _ hoc1 _ _ t1 u1 v1 hR1 F1 N1 _
  refine Stop.mk ?_
  have N2 : News g1 L1 _ ((ra, W.listOf ([] : List Value).toArray 0) :: (L1 + 1, oc1) :: ((row0, W.listOf ([] : List Value).toArray 0) :: news)) := fun p hp => N1 p (by
    rcases List.mem_cons.mp hp with h | hp
    · exact h ▸ .tail _ (.tail _ (.head _))
    · rcases List.mem_cons.mp hp with h | hp
      · exact h ▸ .tail _ (.tail _ (.tail _ (.head _)))
      · rcases List.mem_cons.mp hp with h | hp
        · exact h ▸ .tail _ (.head _)
        · exact .tail _ (.tail _ (.tail _ (.tail _ hp))))
  clear N1
  have hra' := hra.1
  have hr0' := hrow0.2.1
  have hr0'' := hrow0.1
  have hlw := hw.length
  refine for_range (n := L₀) (PkA ws news ra (L1 + 1) _)
    (by rfl) F1 N2 hR1 ?_ ?_ ⟨Same.refl, _, [], 0, oc1, row0, [], 0, ?_, ?_, ?_, hoc1, List.mem_cons_self, .nil, rfl, ?_⟩ ?_ ?_
  · exact small_of (by lia  ) (by lia  ) (by lia  ) (by lia  ) (by lia  ) (by lia  )
  · exact size_nat L₀
  · exact fun p hp => .tail _ hp
  · intro p hp
    rcases List.mem_cons.mp hp with rfl | hp
    · exact Nat.ne_of_gt hr0''
    · exact Nat.ne_of_lt (Nat.lt_trans (hlL p hp) (Nat.lt_trans (Nat.lt_succ_self _) hra'))
  · intro p hp
    rcases List.mem_cons.mp hp with rfl | hp
    · exact Nat.ne_of_gt hr0'
    · exact Nat.ne_of_lt (Nat.lt_succ_of_lt (hlL p hp))
  · exact fun k hk => absurd hk (Nat.not_lt_zero _)
  · intro i t m₁ nx h tk own hi hoff hJ0 F2 N3
    induction hJ0
    rename_i hS rest rv k1 oc rowA rowV k2 hnr hr1 hr2 hoc hrow hI hlr hlv
    have F3 := hS.fr F2
    rw [List.cons_append, List.cons_append] at N3
    have hrl := hI.length
    rw [List.length_map] at hrl
    have hrb := rowAt_len ws i
    clear F1 N2 F2
    k_steps
    walk_at "acomp0"
    k_steps
    refine Stop.mk ?_
    rename IsRange _ _ _ _ _ _ _ _ => hR2
    rename Fr _ _ _ _ => F5
    rename News _ _ _ _ => N5
    have hIl := hI.length
    have hpl : (pairsL ((rowAt ws i).map (·.2))).length = (rowAt ws i).length / 2 := by rw [pairsL_len, List.length_map]
    refine src_range (n := (rowAt ws i).length / 2) (JI ((ra, W.listOf rv.toArray k1) :: (L1 + 1, oc) :: (rest ++ own)) fun k => (pairsL ((rowAt ws i).map (·.2))).take k) (by rfl) (by rfl) (by rfl) F5 N5 hR2 (small_of (by lia  ) (by lia  ) (by lia  ) (by lia  ) (by lia  ) (by lia  )) (size_two _) (by lia  ) ⟨.nil⟩ ?_ ?_
    · intro k t9 ys nx h9 tk9 own9 C oC D m₂ E' hk hm hJ0 hoC F6 N6 hdis
      induction hJ0
      rename_i hys
      rw [List.cons_append, List.cons_append] at N6
      have hl1 : 2 * k + 1 < ((rowAt ws i).map (·.2)).length := by rw [List.length_map]; lia  
      obtain ⟨xa, xb, ta, tb, hxa, hxb, hpk⟩ : TwoInts rowV (0 + (k : Int) * 2).toNat (0 + (k : Int) * 2 + 1).toNat (pairsL ((rowAt ws i).map (·.2)))[k]? := by
        have e1 : (0 + (k : Int) * 2).toNat = 2 * k := by lia  
        have e2 : (0 + (k : Int) * 2 + 1).toNat = 2 * k + 1 := by lia  
        rw [e1, e2]
        obtain ⟨ta, hxa⟩ := hI.get (2 * k) (((rowAt ws i).map (·.2))[2 * k]) (List.getElem?_eq_getElem _)
        obtain ⟨tb, hxb⟩ := hI.get (2 * k + 1) (((rowAt ws i).map (·.2))[2 * k + 1]) (List.getElem?_eq_getElem _)
        exact ⟨_, _, ta, tb, hxa, hxb, pairsL_get _ k hl1⟩
      clear N5 F5
      show wpAny _ _ _ _ _ _
      k_steps
      refine endC _ F6 N6 ⟨?_⟩ (fun p hp => by rw [List.cons_append, List.cons_append] at hp; exact hp) hdis
      rw [List.take_add_one, hpk]
      exact ints_snoc hys _ _
    · intro g2 ys nx hJ0
      induction hJ0
      rename_i hys
      rw [List.take_of_length_le (by lia  )] at hys
      have hyl := hys.length
      intro D2 h2 tk2 F7 N7 hd7
      clear F5 N5
      have hWr := hnr _ hW
      have ne1 : ∀ p ∈ rest ++ own, p.1 ≠ ra := forall_append hr1 fun p hp => hoff p hp ra (.head _)
      have ne2 : ∀ p ∈ rest ++ own, p.1 ≠ L1 + 1 := forall_append hr2 fun p hp => hoff p hp (L1 + 1) (.tail _ (.head _))
      k_steps
      refine Stop.mk ?_
      k_dflt (refine' merged_does prog w mean mg mb _ wa D2 vs ys n ys.length ws (pairsL ((rowAt ws i).map (·.2))) ?m1 hw ?m2 hys (by lia  ) (by lia  ) _ _ _ _ _ _ _ _ _ _ _ _ _ _ _ _ _ ?k1 ?k2 ?k3 ?k4 ?k5 ?kK ?kd ?ku ?_; walk_at "callto")
      (case m1 => k_mem)
      (case m2 => k_mem)
      intro ta2 rA lA rowV2 kk1 kk2 kk3 h8 tk8 F8 N8 hA1 hA2 hA3 hI8
      have q1 : @LT.lt Nat _ (L1 + 1) rA := hA1 (L1 + 1, oc) (by k_mem)
      have q2 : @LT.lt Nat _ ra rA := hA1 (ra, _) (by k_mem)
      have q3 : @Ne Nat (L1 + 1) D2 := hd7 (L1 + 1, oc) (by k_mem)
      have q4 : @Ne Nat ra D2 := hd7 (ra, _) (by k_mem)
      have q5 : @LT.lt Nat _ rA lA := hA2
      have q6 : @LT.lt Nat _ lA ta2 := hA3
      clear F7 N7
      k_steps
      rename_i o9 d9 _ _ _ F9 N9
      have hoff9 : OwnOff own (ra :: (L1 + 1) :: lA :: rA :: rest.map (·.1)) := by
        intro p hp b hb
        have hpr : @LT.lt Nat _ p.1 rA := hA1 p (by k_mem)
        rcases List.mem_cons.mp hb with e | hb
        · exact e ▸ hoff p hp _ (.head _)
        rcases List.mem_cons.mp hb with e | hb
        · exact e ▸ hoff p hp _ (.tail _ (.head _))
        rcases List.mem_cons.mp hb with e | hb
        · exact e ▸ Nat.ne_of_lt (Nat.lt_trans hpr q5)
        rcases List.mem_cons.mp hb with e | hb
        · exact e ▸ Nat.ne_of_lt hpr
        · exact hoff p hp b (.tail _ (.tail _ hb))
      refine endG (nx := (ra, W.listOf (rv ++ [Value.ref lA]).toArray (k1 + 1)) :: (L1 + 1, o9) :: (lA, W.listOf (((rowAt ws (i + 1)).map fun x => Value.bool x.1)).toArray kk2) :: (rA, W.listOf rowV2.toArray kk1) :: rest) F9 N9
        ⟨Same.put (by decide) (Same.put (by decide) (Same.put (by decide) Same.mix)), (lA, W.listOf (((rowAt ws (i + 1)).map fun x => Value.bool x.1)).toArray kk2) :: (rA, W.listOf rowV2.toArray kk1) :: rest, rv ++ [Value.ref lA], k1 + 1, o9, rA, rowV2, kk1, ?_, ?_, ?_, d9, .tail _ (.head _), hI8, ?_, ?_⟩ hoff9 rfl ?_
      · exact fun p hp => .tail _ (.tail _ (hnr p hp))
      · intro p hp
        rcases List.mem_cons.mp hp with rfl | hp
        · exact Nat.ne_of_gt (Nat.lt_trans q2 q5)
        rcases List.mem_cons.mp hp with rfl | hp
        · exact Nat.ne_of_gt q2
        · exact hr1 p hp
      · intro p hp
        rcases List.mem_cons.mp hp with rfl | hp
        · exact Nat.ne_of_gt (Nat.lt_trans q1 q5)
        rcases List.mem_cons.mp hp with rfl | hp
        · exact Nat.ne_of_gt q1
        · exact hr2 p hp
      · rw [List.length_append, hlr]; rfl
      · intro k hk
        by_cases hki : k = i
        · exact ⟨lA, kk2, by rw [hki, List.getElem?_append_right (by lia  ), hlr]; simp, by rw [hki]; exact List.mem_cons_self ..⟩
        · obtain ⟨a', kk, h1, h2⟩ := hlv k (by lia  )
          exact ⟨a', kk, by rw [List.getElem?_append_left (by lia  )]; exact h1, .tail _ (.tail _ h2)⟩
      · intro p hp
        rcases List.mem_append.mp hp with hp | hp
        · rcases List.mem_cons.mp hp with rfl | hp
          · k_mem
          rcases List.mem_cons.mp hp with rfl | hp
          · k_mem
          rcases List.mem_cons.mp hp with rfl | hp
          · k_mem
          rcases List.mem_cons.mp hp with rfl | hp
          · k_mem
          · k_mem
        · k_mem
  · intro m₁ nx h tk hJ0 F2 N3
    induction hJ0
    rename_i hS rest rv k1 oc rowA rowV k2 hnr hr1 hr2 hoc hrow hI hlr hlv
    have F3 := hS.fr F2
    have hWr := hnr _ hW
    have hL1L := hL
    clear F1 N2 F2
    k_steps
    refine Stop.mk ?_
    rename_i lz _ _ _ _ _ _ D1 _ i1 n1 s1 e1 e2 e3 l1 _ _ D2 _ l2 _ F4 N4 _ _ It _ F5 N5 hIt
    rw [show (List.replicate ((ws.length : Int)).toNat [(0 : Int)]).flatten = List.replicate ws.length (0 : Int) by rw [Int.toNat_natCast, List.flatten_replicate_singleton]] at *
    have hlen2 : ((2 : Int) * (ws.length : Int) - 2) = ((2 * ws.length - 2 : Nat) : Int) := by lia  
    rw [hlen2] at F5
    have N6 : News g1 L1 _ ((It, revObj ra ((rv.length : Int) - 1)) :: (D1, W.listOf _ 0) :: (ra, W.listOf rv.toArray k1) :: (L1 + 1, oc) :: rest) := fun p hp => N5 p (by
      rcases List.mem_cons.mp hp with rfl | hp
      · exact .head _
      rcases List.mem_cons.mp hp with rfl | hp
      · exact .tail _ (.tail _ (.head _))
      · exact .tail _ (.tail _ (.tail _ (.tail _ hp))))
    clear N4 N5
    refine for_revIter (PkB ws L₀ D1 ((ra, W.listOf rv.toArray k1) :: (L1 + 1, oc) :: rest) _)
      (nn := k1) (by rfl) F5 N6 ?_ ?_ ?_ ⟨_, 0, _, _, _, i1, rfl, rfl, Same.refl⟩ ?_ ?_
    · k_mem
    · intro p hp
      rcases List.mem_cons.mp hp with rfl | hp
      · exact Nat.ne_of_lt hIt.2.1
      rcases List.mem_cons.mp hp with rfl | hp
      · exact Nat.ne_of_lt hIt.2.2.2.1
      rcases List.mem_cons.mp hp with rfl | hp
      · exact Nat.ne_of_lt hIt.2.2.2.2.1
      · exact Nat.ne_of_lt (kst_ltOf hIt.2.2.2.2.2 p hp)
    · rintro i m nx ⟨dv, kk, dl, wn, t, _, _, _, _⟩
      k_mem
    · intro i v m₁ nx h tk own hi hv hoff hJ0 F6 N7
      induction hJ0
      rename_i dv kk dl wn t hdv hwm hst hS2
      rw [hlr] at hi hv
      obtain ⟨la2, kk2, hv2, hla2⟩ := hlv (L₀ - 1 - i) (by lia  )
      rw [hv2] at hv
      cases hv
      have F7 := hS2.frv hwm F6
      rw [List.cons_append, List.cons_append, List.cons_append] at N7
      have hrw := rowAt_len ws (L₀ - 1 - i + 1)
      have slon : SliceOn := ⟨⟩
      clear F4 F5 N6 F6
      k_steps
      refine Stop.mk ?_
      rename_i _ _ D3 _ F8 N8 l3
      generalize hbl : ((rowAt ws (L₀ - 1 - i + 1)).map (·.1)).take wn = bl
      rw [show (List.take wn (List.map (fun x => Value.bool x.1) (rowAt ws (L₀ - 1 - i + 1)))) = bl.map Value.bool by rw [← hbl, List.map_take, List.map_map]; rfl] at N8
      clear F7 N7
      refine for_list (nn := 0) (JC ((D3, W.listOf (bl.map Value.bool).toArray 0) :: (D1, W.listOf dv.toArray kk) :: (ra, W.listOf rv.toArray k1) :: (L1 + 1, oc) :: (rest ++ own)) (fun j => (((bl.take j).count true : Nat) : Int)) (Str.ofString "taken") [Str.ofString "taken", Str.ofString "is_leaf"] _)
        (by rfl) F8 N8 (.head _) ?_ ⟨_, rfl, Same.refl⟩ ?_ ?_
      · rintro i m nx ⟨_, _, _⟩
        exact .head _
      · intro j v m₂ nx h2 tk2 own2 hv2 hoff2 hJ0 F9 N9
        induction hJ0
        rename_i t2 hm2 hS3
        have F10 := hS3.frv hm2 F9
        rw [List.cons_append, List.cons_append, List.cons_append, List.cons_append] at N9
        rw [List.getElem?_map] at hv2
        obtain ⟨b, hb, rfl⟩ := Option.map_eq_some_iff.mp hv2
        clear F8 N8 F9
        k_steps
        rename Fr _ _ _ _ => F11
        rename News _ _ _ _ => N11
        refine endG F11 N11 ⟨_, congrArg (fun z => some (Value.int z _)) ?_, Same.put (by decide) (Same.put (by decide) (Same.put (by decide) Same.mix))⟩ hoff2 rfl (fun p hp => by simpa using hp)
        rw [List.take_add_one, hb, List.count_append]
        cases b <;> simp
      · intro m₂ nx h2 tk2 hJ0 F9 N9
        induction hJ0
        rename_i t2 hm2 hS3
        rw [List.length_map, List.take_length] at hm2
        have F10 := hS3.frv hm2 F9
        have hbc : bl.count true ≤ ws.length := by
          rw [← hbl]
          have h1 := List.Sublist.count_le true (List.take_sublist wn ((rowAt ws (L₀ - 1 - i + 1)).map (·.1)))
          have h2 := mergeL_count ws (pairsL ((rowAt ws (L₀ - 1 - i)).map (·.2)))
          exact Nat.le_trans h1 (Nat.le_of_eq h2)
        have hbw : bl.count true ≤ wn := by
          have h1 := List.count_le_length (a := true) (l := bl)
          rw [← hbl] at h1 ⊢
          rw [List.length_take] at h1
          lia  
        have hdl : dl.length = ws.length := by
          have h1 : ∀ (rows : List (List Bool)) (st : List Int × Nat), (rows.foldl stepL st).1.length = st.1.length := by
            intro rows
            induction rows with
            | nil => exact fun _ => rfl
            | cons r rows ih => exact fun st => (ih _).trans (stepL_len st r)
          have h2 := h1 _ _ |>.symm.trans (congrArg (fun x => x.1.length) hst)
          rw [List.length_replicate] at h2
          exact h2.symm
        have hdvl := hdv.length
        clear F8 N8 F9
        k_steps
        refine Stop.mk ?_
        rename IsRange _ _ _ _ _ _ _ _ => hR3
        rename Fr _ _ _ _ => F11
        rename News _ _ _ _ => N11
        refine for_range (n := bl.count true) (PkD (D3, W.listOf (bl.map Value.bool).toArray 0) D1 ((ra, W.listOf rv.toArray k1) :: (L1 + 1, oc) :: (rest ++ own)) dl _)
          (by rfl) F11 N11 hR3 (small_of (by lia  ) (by lia  ) (by lia  ) (by lia  ) (by lia  ) (by lia  )) (size_nat _) ⟨dv, kk, ?_, Same.refl⟩ ?_ ?_
        · rw [show bumpL 0 dl = dl from rfl]; exact hdv
        · intro j t3 m₃ nx h3 tk3 own3 hj hoff3 hJ0 F12 N12
          induction hJ0
          rename_i dv3 k3 hdv3 hS4
          have F13 := hS4.fr F12
          rw [List.cons_append, List.cons_append, List.cons_append, List.cons_append] at N12
          have hdl3 := hdv3.length
          have hbl3 : (bumpL j dl).length = dl.length := by
            unfold bumpL
            rw [List.length_append, List.length_map, ← List.length_append, List.take_append_drop]
          have r1 : @LT.lt Nat _ ra D1 := l1.2.1
          have r2 : @LT.lt Nat _ (L1 + 1) D1 := l1.2.2.1
          have r3 : ∀ p ∈ rest ++ own ++ own3, p.1 ≠ D1 := forall_append (forall_append (fun p hp => Nat.ne_of_lt (kst_ltOf l1.2.2.2 p hp)) fun p hp => hoff p hp D1 (.head _)) fun p hp => hoff3 p hp D1 (.tail _ (.head _))
          clear F11 N11 F12
          k_steps
          rename_i F15 N15 hi15 _ _
          generalize dv3.set _ _ = dv4 at N15 hi15
          refine endG F15 N15 ⟨dv4, k3, ?_, Same.put (by decide) Same.mix⟩ hoff3 rfl (fun p hp => by simpa using hp)
          have e1 : (0 + (j : Int) * 1).toNat = j := by lia  
          simp only [e1] at hi15
          rw [bump_set j dl (by lia  )] at hi15
          exact hi15
        · intro m₃ nx h3 tk3 hJ0 F12 N12
          induction hJ0
          rename_i dv3 k3 hdv3 hS4
          have F13 := hS4.fr F12
          clear F11 N11 F12
          k_steps
          rename Fr _ _ _ _ => F15
          rename News _ _ _ _ => N15
          refine endG F15 N15 ⟨dv3, k3, bumpL (bl.count true) dl, 2 * (wn - bl.count true), _, hdv3, congrArg (fun z => some (Value.int z _)) (by lia  ), ?_, ?_⟩ hoff rfl (fun p hp => .tail _ hp)
          · unfold packRun at hst ⊢
            rw [List.take_add_one]
            have e1 : ((List.range L₀).map fun k => (rowAt ws (k + 1)).map (·.1)).reverse[i]? = some ((rowAt ws (L₀ - 1 - i + 1)).map (·.1)) := by
              rw [List.getElem?_reverse (by simpa using hi)]
              simp only [List.length_map, List.length_range, List.getElem?_map]
              rw [List.getElem?_range (by lia  )]
              rfl
            rw [e1, List.foldl_append, hst]
            show (bumpL _ _, _) = _
            rw [hbl]
          · exact Same.put (by decide) (Same.over (by intro z hz; revert hz; simp only [List.contains_cons, List.contains_nil, Bool.or_false, Bool.or_eq_true]; intro hz; simp only [hz, or_true, true_or]) (Same.put (by decide) (Same.over (by intro z hz; revert hz; simp only [List.contains_cons, List.contains_nil, Bool.or_false, Bool.or_eq_true]; intro hz; rcases hz with hz | hz <;> simp only [hz, or_true, true_or]) (Same.put (by decide) (Same.put (by decide) (Same.put (by decide) Same.mix))))))
    · intro m₁ nx h tk hJ0 F6 N7
      induction hJ0
      rename_i dv kk dl wn t hdv hwm hst hS2
      unfold packRun at hst
      have F7 := hS2.frv hwm F6
      clear F4 F5 N6 F6
      k_steps
      rename_i kF kN _ _
      have e1 : depthsL ws L₀ = dl := by
        unfold depthsL
        rw [List.take_of_length_le (by simp [hlr])] at hst
        rw [hst]
      exact hret D1 dv kk _ _ kF (fun p hp => kN p (by
        rcases List.mem_cons.mp hp with rfl | hp
        · exact .head _
        · exact .tail _ (.tail _ (.tail _ (hnr p hp))))) (fun p hp => kst_ltOf l1.2.2.2 p (hnr p hp)) (e1 ▸ hdv)
theorem tune_check_room : True := by
  w_top off
  exact True.intro
theorem room_does (prog : Program) (w : World) (mean : ExcName → Option Value) (mg mb : Str → Option Value) (news : List (Addr × Obj)) (n L₀ : Nat) (t1 t2 : Tok) (hL : 0 < L₀) (hL2 : L₀ ≤ 100) (hn : n ≤ 2 ^ L₀) :
    CallTo prog w mean mg mb 75 1 news [.int (n : Int) t1, .int (L₀ : Int) t2] (fun h₀ L m s Q => ∀ h' tk', Fr h₀ L h' m → News h₀ L h' news → Q .none { s with heap := h', toks := tk' }) := by
  unfold CallTo
  intro dp un gd cn cs' a ccd cl outer A₀ base h₀ L m s Q E B F X N T hk hd hu hret
  refine wpAny_call ?_
  k_dflt (refine' code_def (binds := [(Str.ofString "many", .int (n : Int) t1), (Str.ofString "longest", .int (L₀ : Int) t2)]) ?k1 ?k2 ?k3 ?k4 ?k5 ?kA ?kF ?kK ?k6 ?k7 ?k8 ?k9 ?kB ?_ ?c2 ?c3 ?c4 ?c5; walk_at "enter")
  have hroom : ¬ ((n : Int) > 1 * 2 ^ (if (L₀ : Int) > 0 then (L₀ : Int) else 0).toNat) := by
    rw [if_pos (by lia  ), Int.toNat_natCast, Int.one_mul]
    have : ((n : Nat) : Int) ≤ ((2 ^ L₀ : Nat) : Int) := by exact_mod_cast hn
    rw [Int.natCast_pow] at this
    exact Int.not_lt.mpr this
  have hone : ¬ ((L₀ : Int) < 1) := by lia  
  k_steps
  all_goals exact hret _ _ (by assumption) (by assumption)
theorem tune_used : True := by
  w_top off
  exact True.intro
/-- the symbols in use, with their counts -/
def usedL (cs : List Int) : List (Int × Int) := (cs.zipIdx.filter fun p => decide (0 < p.1)).map fun p => (p.1, (p.2 : Int))

inductive UsJ (cs : List Int) (la : Addr) (news : List (Addr × Obj)) (m₀ : Str → Option Value) (i : Nat) (m : Str → Option Value) : List (Addr × Obj) → Prop
  | mk (hS : Same [Str.ofString "symbol", Str.ofString "count"] m₀ m) (us : List Value) (kk : Nat) (tups : List (Addr × Obj)) (htl : ∀ p ∈ tups, la < p.1) (hul : us.length ≤ i)
    (hta : TupsAre tups us (((cs.zipIdx.take i).filter fun p => decide (0 < p.1)).map fun p => (p.1, (p.2 : Int)))) : UsJ cs la news m₀ i m ((la, W.listOf (List.toArray us) kk) :: (tups ++ news))
theorem used_does (prog : Program) (w : World) (mean : ExcName → Option Value) (mg mb : Str → Option Value) (news : List (Addr × Obj)) (ca : Addr) (vs : List Value) (n : Nat) (cs : List Int)
    (hC : (ca, W.listOf vs.toArray n) ∈ news) (hc : IntsAre vs cs) (hcl : cs.length ≤ 60) (hpos : ∀ c ∈ cs, 0 ≤ c) (h2 : 2 ≤ (usedL cs).length) :
    CallTo prog w mean mg mb 54 1 news [.ref ca] (fun h₀ L m s Q => ∀ a us rows k tups h' tk', Fr h₀ L h' m → News h₀ L h' ((a, W.listOf (List.toArray us) k) :: (tups ++ news)) → (∀ p ∈ news, p.1 < a) → (∀ p ∈ tups, p.1 < a) →  (∀ p ∈ news, ∀ q ∈ tups, p.1 < q.1) →
      TupsAre (tups ++ news) us rows → rows.Perm (usedL cs) → rows.Pairwise (fun a b => keyT a ≤ keyT b) → Q (.ref a) { s with heap := h', toks := tk' }) := by
  unfold CallTo
  intro dp un gd cn cs' a ccd cl outer A₀ base h₀ L m s Q E B F X N T hk hd hu hret
  refine wpAny_call ?_
  k_dflt (refine' code_def (binds := [(Str.ofString "counts", .ref ca)]) ?k1 ?k2 ?k3 ?k4 ?k5 ?kA ?kF ?kK ?k6 ?k7 ?k8 ?k9 ?kB ?_ ?c2 ?c3 ?c4 ?c5; walk_at "enter")
  k_steps
  rename_i g1 L1 _ FG1 B1 X1 T1 la _ hla _ F1 N1
  refine for_enum (UsJ cs la news _)
    (by rfl) F1 N1 (.tail _ hC) ?_ ⟨Same.refl, [], 0, [], (fun _ h => nomatch h), Nat.zero_le _, .nil⟩ ?_ ?_
  · rintro i m nx ⟨_, us, kk, tups, _, _, _⟩
    exact .tail _ (List.mem_append_right _ hC)
  · intro i x T t' m₁ nx h tk own hx hT hoff hJ0 F2 N3
    induction hJ0
    rename_i hS us kk tups htl hul hta
    have F3 := hS.fr F2
    rw [List.cons_append] at N3
    have hlv := hc.length
    have hil : i < cs.length := by
      have := (List.getElem?_eq_some_iff.mp hx).1
      lia  
    obtain ⟨t2, hx2⟩ := hc.get i cs[i] (by simp [hil])
    have ex : x = .int cs[i] t2 := by rw [hx] at hx2; exact Option.some.inj hx2
    subst ex
    have hp0 := hpos cs[i] (List.getElem_mem hil)
    have ez : cs.zipIdx.take (i + 1) = cs.zipIdx.take i ++ [(cs[i], i)] := by
      rw [List.take_add_one]
      congr 1
      simp [hil]
    have hne : ∀ p ∈ tups ++ news ++ own, p.1 ≠ la := forall_append (forall_append (fun p hp => Nat.ne_of_gt (htl p hp)) (lt_ne hla)) (off_own hoff)
    clear N1 F1 F2
    by_cases hpos : 0 < cs[i]
    · k_steps
      rename_i D9 _ l9 _ F9 N9
      obtain ⟨o9, ho9, N9⟩ : ∃ o, (∃ u1 u2 n, o = ({ cls := .type "tuple", data := .seq (List.toArray [Value.int cs[i] u1, Value.int (i : Int) u2]) n } : Obj)) ∧ News _ _ _ ((D9, o) :: _) := ⟨_, ⟨_, _, _, rfl⟩, N9⟩
      have hoff9 : OwnOff own (la :: D9 :: (tups ++ news).map (·.1)) := by
        intro p hp b hb
        rcases List.mem_cons.mp hb with rfl | hb
        · exact hoff p hp _ (.head _)
        rcases List.mem_cons.mp hb with rfl | hb
        · exact Nat.ne_of_lt (kst_ltOf l9.2 p (List.mem_append_right _ hp))
        · exact hoff p hp b (.tail _ hb)
      refine endG (nx := (la, W.listOf (List.toArray (us ++ [Value.ref D9])) (kk + 1)) :: (((D9, o9) :: tups) ++ news)) F9 N9 ⟨Same.put (by decide) (Same.put (by decide) Same.mix), us ++ [Value.ref D9], kk + 1, (D9, o9) :: tups, ?_, ?_, ?_⟩ hoff9 rfl ?_
      · intro p hp
        rcases List.mem_cons.mp hp with rfl | hp
        · exact l9.1
        · exact htl p hp
      · rw [List.length_append]
        simpa using hul
      · rw [ez, List.filter_append, List.map_append]
        have e9 : List.map (fun p => (p.1, (p.2 : Int))) (List.filter (fun p => decide (0 < p.1)) [(cs[i], i)]) = [(cs[i], (i : Int))] := by simp [hpos]
        rw [e9]
        exact (hta.mono fun p hp => .tail _ hp).snoc (by obtain ⟨u1, u2, n9, e⟩ := ho9; exact ⟨D9, u1, u2, n9, rfl, e ▸ .head _⟩)
      · intro p hp
        rcases List.mem_append.mp hp with hp | hp
        · rcases List.mem_cons.mp hp with rfl | hp
          · k_mem
          rw [List.cons_append] at hp
          rcases List.mem_cons.mp hp with rfl | hp
          · k_mem
          · exact .tail _ (.tail _ (List.mem_append_left _ hp))
        · k_mem
    · k_steps
      rename Fr _ _ _ _ => F9
      rename News _ _ _ _ => N9
      refine endG F9 N9 ⟨Same.put (by decide) (Same.put (by decide) Same.mix), us, kk, tups, htl, by lia  , ?_⟩ hoff rfl (fun p hp => hp)
      rw [ez, List.filter_append]
      simpa [hpos] using hta
  · intro m₁ nx h tk hJ0 F2 N3
    induction hJ0
    rename_i hS us kk tups htl hul hta
    have F3 := hS.fr F2
    clear N1 F1 F2
    k_steps
    refine Stop.mk ?_
    rw [List.take_of_length_le (by rw [List.length_zipIdx, hc.length]; lia  )] at hta
    have hta2 : TupsAre ((la, W.listOf us.toArray kk) :: (tups ++ news)) us (usedL cs) := hta.mono fun p hp => .tail _ (List.mem_append_left _ hp)
    have hu60 : (usedL cs).length ≤ 60 := by
      unfold usedL
      rw [List.length_map]
      refine Nat.le_trans (List.length_filter_le _ _) ?_
      rw [List.length_zipIdx]
      exact hcl
    have hu2 : ∀ r ∈ usedL cs, -10000 ≤ r.2 ∧ r.2 ≤ 10000 := by
      intro r hr
      obtain ⟨q, hq, rfl⟩ := List.mem_map.mp hr
      have h3 := List.mem_zipIdx (List.mem_filter.mp hq).1
      simp only
      lia  
    refine my_sorted_tups F3 N3 (.head _) hta2 h2 (by lia  ) hu2 fun D h9 vs9 rows9 k9 F9 N9 l9 ht9 hp9 hs9 => ?_
    clear F3 N3
    k_steps
    rename_i kF kN _ _
    refine hret D vs9 rows9 k9 ((la, W.listOf us.toArray kk) :: tups) _ _ kF kN (fun p hp => l9 p (.tail _ (List.mem_append_right _ hp))) (fun p hp => ?_) (fun p hp q hq => ?_) ht9 hp9 hs9
    · rcases List.mem_cons.mp hp with rfl | hp
      · exact l9 _ (.head _)
      · exact l9 p (.tail _ (List.mem_append_left _ hp))
    · rcases List.mem_cons.mp hq with rfl | hq
      · exact hla p hp
      · exact Nat.lt_trans (hla p hp) (htl q hq)
theorem tune_least : True := by
  w_top off
  exact True.intro
theorem dat_rows {news : List (Addr × Obj)} : ∀ {vs : List Value} {rs : List (Int × Int)}, TupsAre news vs rs → (∀ r ∈ rs, 0 ≤ r.2) → DatAll news vs ((rs.map fun r => (r.1, r.2.toNat)).map rowD)
  | _, _, .nil, _ => .nil
  | _, _, .cons (r := r) ⟨T, u1, u2, n, e, hm⟩ t, h => by
    have h0 := h _ List.mem_cons_self
    subst e
    refine .cons (.tuple hm (.cons (.int _ _) (.cons ?_ .nil))) (dat_rows t fun r hr => h r (List.mem_cons_of_mem _ hr))
    have e2 : ((r.2.toNat : Nat) : Int) = r.2 := Int.toNat_of_nonneg h0
    show DatIn news _ (Dat.int ((r.2.toNat : Nat) : Int))
    rw [e2]
    exact .int _ _
def sortU (cs : List Int) : List (Int × Int) := (usedL cs).mergeSort fun a b => decide (keyT a ≤ keyT b)
def leastL (cs : List Int) (L : Nat) : List Int := placedL cs.length ((sortU cs).map fun r => r.2.toNat) (depthsL ((sortU cs).map (·.1)) L)
theorem usedL_snd {cs : List Int} (h : cs.length ≤ 60) : ∀ r ∈ usedL cs, 0 ≤ r.2 ∧ r.2 < cs.length := by
  intro r hr
  obtain ⟨q, hq, rfl⟩ := List.mem_map.mp hr
  have h3 := List.mem_zipIdx (List.mem_filter.mp hq).1
  simp only
  lia  
theorem sorted_unique {rows : List (Int × Int)} {cs : List Int} (h60 : cs.length ≤ 60) (hp : rows.Perm (usedL cs)) (hs : rows.Pairwise fun a b => keyT a ≤ keyT b) : rows = sortU cs := by
  have hp2 : (sortU cs).Perm (usedL cs) := List.mergeSort_perm _ _
  have hs2 : (sortU cs).Pairwise fun a b => keyT a ≤ keyT b := by
    have := List.pairwise_mergeSort (le := fun a b => decide (keyT a ≤ keyT b)) (fun a b c h1 h2 => by simp only [decide_eq_true_eq] at *; lia  ) (fun a b => by simp only [Bool.or_eq_true, decide_eq_true_eq]; lia  ) (usedL cs)
    exact this.imp fun h => by simpa using h
  refine (hp.trans hp2.symm).eq_of_pairwise (le := fun a b => keyT a ≤ keyT b) (fun a b ha hb h1 h2 => ?_) hs hs2
  have a1 := usedL_snd h60 a (hp.mem_iff.mp ha)
  have b1 := usedL_snd h60 b (hp2.mem_iff.mp hb)
  unfold keyT at h1 h2
  exact Prod.ext (by lia  ) (by lia  )
theorem depths_len (ws : List Int) (L : Nat) : (depthsL ws L).length = ws.length := by
  have h1 : ∀ (rows : List (List Bool)) (st : List Int × Nat), (rows.foldl stepL st).1.length = st.1.length := by
    intro rows
    induction rows with
    | nil => exact fun _ => rfl
    | cons r rows ih => exact fun st => (ih _).trans (stepL_len st r)
  unfold depthsL
  rw [h1, List.length_replicate]

theorem least_does (prog : Program) (w : World) (mean : ExcName → Option Value) (mg mb : Str → Option Value) (news : List (Addr × Obj)) (ca : Addr) (vs : List Value) (n : Nat) (cs : List Int) (L₀ : Nat) (tL : Tok)
    (hC : (ca, W.listOf vs.toArray n) ∈ news) (hc : IntsAre vs cs) (hcl : cs.length ≤ 60) (hpos : ∀ c ∈ cs, 0 ≤ c) (h2 : 2 ≤ (usedL cs).length) (hL : 0 < L₀) (hL2 : L₀ ≤ 100) (hroom : (usedL cs).length ≤ 2 ^ L₀) :
    CallTo prog w mean mg mb 92 3 news [.ref ca, .int (L₀ : Int) tL] (fun h₀ L m s Q => ∀ a us k h' tk', Fr h₀ L h' m → News h₀ L h' ((a, W.listOf us.toArray k) :: news) → (∀ p ∈ news, p.1 < a) →
      IntsAre us (leastL cs L₀) → Q (.ref a) { s with heap := h', toks := tk' }) := by
  unfold CallTo
  intro dp un gd cn cs' a ccd cl outer A₀ base h₀ L m s Q E B F X N T hk hd hu hret
  refine wpAny_call ?_
  k_dflt (refine' code_def (binds := [(Str.ofString "counts", .ref ca), (Str.ofString "longest", .int (L₀ : Int) tL)]) ?k1 ?k2 ?k3 ?k4 ?k5 ?kA ?kF ?kK ?k6 ?k7 ?k8 ?k9 ?kB ?_ ?c2 ?c3 ?c4 ?c5; walk_at "enter")
  k_steps
  refine Stop.mk ?_
  k_dflt (refine' used_does prog w mean mg mb _ ca vs n cs ?m1 hc hcl hpos h2 _ _ _ _ _ _ _ _ _ _ _ _ _ _ _ _ _ ?k1 ?k2 ?k3 ?k4 ?k5 ?kK ?kd ?ku ?_; walk_at "callto")
  (case m1 => k_mem)
  intro ra us rows k1 tups h2' tk2 F2 N2 hra1 hra2 hra3 hT hperm hsort
  have hrows := sorted_unique hcl hperm hsort
  have hlu : us.length = rows.length := hT.length
  have hlr : rows.length = (usedL cs).length := hperm.length_eq
  have hlr2 : (usedL cs).length ≤ cs.length := by
    unfold usedL
    rw [List.length_map]
    refine Nat.le_trans (List.length_filter_le _ _) ?_
    rw [List.length_zipIdx]
    exact Nat.le_refl _
  have hlv := hc.length
  have hl2 : 2 ≤ rows.length := by lia  
  k_steps
  refine Stop.mk ?_
  k_dflt (refine' room_does prog w mean mg mb _ rows.length L₀ _ tL hL hL2 (by lia  ) _ _ _ _ _ _ _ _ _ _ _ _ _ _ _ _ _ ?k1 ?k2 ?k3 ?k4 ?k5 ?kK ?kd ?ku ?_; walk_at "callto")
  intro h3 tk3 F3 N3
  skip
  rename_i g1 L1 _ FG1 _ B1 X1 T1 _ _ _ _ _
  k_steps
  walk_at "ecomp0"
  k_steps
  refine Stop.mk ?_
  rename Fr _ _ _ _ => F4
  rename News _ _ _ _ => N4
  obtain ⟨pr, hpr1, hpr2, hpr3, hpr4⟩ := tups_pr hT
  refine src_pairs (JI ((ra, W.listOf us.toArray k1) :: (tups ++ news)) fun i => ((rows.map (·.1)).take i)) pr (by rfl) (by rfl) (by rfl) (by decide) (by rfl) F4 N4 (.head _) (by lia  ) hpr1 (fun p hp => .tail _ (hpr2 p hp)) ?_ ⟨.nil⟩ ?_ ?_
  · rintro i ys nx ⟨_⟩ p hp
    exact hp
  · intro i p ys nx h tk own C oC D m₂ E' hp hm1 hm2 hJ0 hoC F5 N5 hdis
    induction hJ0
    rename_i hys
    obtain ⟨r, u1, u2, hr, e1, e2⟩ := hpr4 i p hp
    rw [e1] at hm1
    rw [e2] at hm2
    rw [List.cons_append, List.cons_append] at N5
    clear F4 N4
    show wpAny _ _ _ _ _ _
    k_steps
    refine endC _ F5 N5 ⟨?_⟩ (fun p hp => by rw [List.cons_append, List.cons_append] at hp; exact hp) hdis
    rw [List.take_add_one, List.getElem?_map, hr]
    exact ints_snoc hys _ _
  · intro g ys nx hJ0
    induction hJ0
    rename_i hys
    rw [List.take_of_length_le (by rw [List.length_map]; lia  )] at hys
    have hyl := hys.length
    rw [List.length_map] at hyl
    intro D h5 tk5 F5 N5 hD
    have hws : 2 ≤ (rows.map (·.1)).length := by rw [List.length_map]; lia  
    clear F4 N4
    k_steps
    refine Stop.mk ?_
    k_dflt (refine' package_does prog w mean mg mb _ D ys ys.length (rows.map (·.1)) L₀ tL ?m1 hys (by rw [List.length_map]; lia  ) hws hL2 _ _ _ _ _ _ _ _ _ _ _ _ _ _ _ _ _ ?k1 ?k2 ?k3 ?k4 ?k5 ?kK ?kd ?ku ?_; walk_at "callto")
    (case m1 => k_mem)
    intro da us6 k6 h6 tk6 F6 N6 hd1 hI6
    clear F5 N5
    have hda := hI6.length
    rw [depths_len, List.length_map] at hda
    have hsnd := fun r (hr : r ∈ rows) => usedL_snd hcl r (hperm.mem_iff.mp hr)
    k_steps
    refine Stop.mk ?_
    k_dflt (refine' placed_does prog w mean mg mb _ cs.length _ ra da (rows.map fun r => (r.1, r.2.toNat)) us6 k6 (depthsL (rows.map (·.1)) L₀) ?m1 ?m2 hI6 ?m3 ?m4 (by lia  ) (by rw [depths_len, List.length_map]; lia  ) _ _ _ _ _ _ _ _ _ _ _ _ _ _ _ _ _ ?k1 ?k2 ?k3 ?k4 ?k5 ?kK ?kd ?ku ?_; walk_at "callto")
    (case m1 => exact .list (.tail _ (.tail _ (.head _))) (dat_rows (hT.mono fun p hp => .tail _ (.tail _ (.tail _ hp))) fun r hr => (hsnd r hr).1))
    (case m2 => k_mem)
    (case m3 => rw [depths_len, List.length_map, List.length_map])
    (case m4 => intro r hr; obtain ⟨q, hq, rfl⟩ := List.mem_map.mp hr; have := hsnd q hq; simp only; lia  )
    intro pa us7 k7 h7 tk7 F7 N7 hp1 hI7
    clear F6 N6
    k_steps
    rename_i kF kN _ _
    refine hret pa us7 k7 _ _ kF (fun p hp => kN p ?_) (fun p hp => hp1 p ?_) ?_
    · rcases List.mem_cons.mp hp with rfl | hp
      · exact .head _
      · exact .tail _ (.tail _ (.tail _ (.tail _ (List.mem_append_right _ hp))))
    · exact .tail _ (.tail _ (.tail _ (List.mem_append_right _ hp)))
    · rw [List.map_map] at hI7
      unfold leastL
      rw [← hrows]
      exact hI7
theorem tune_cell : True := by
  w_top off
  exact True.intro
def cellL (sc : List Int) (k : Nat) : Int := ((sc.getD k 0).natAbs : Int)
theorem cell_does (prog : Program) (w : World) (mean : ExcName → Option Value) (mg mb : Str → Option Value) (news : List (Addr × Obj)) (sa : Addr) (vs : List Value) (sc : List Int) (k : Nat) (tk₀ : Tok)
    (hc : IntsAre vs sc) (hcl : sc.length ≤ 63) (hk1 : k ≤ 1) :
    CallTo prog w mean mg mb 99 1 news [.ref sa, .int (k : Int) tk₀] (fun h₀ L m s Q => h₀.IsList sa vs.toArray ∧ ∀ t h' tk', Fr h₀ L h' m → News h₀ L h' news → Q (.int (cellL sc k) t) { s with heap := h', toks := tk' }) := by
  unfold CallTo
  intro dp un gd cn cs' a ccd cl outer A₀ base h₀ L m s Q E B F X N T hk hd hu hret
  obtain ⟨hS, hret⟩ := hret
  refine wpAny_call ?_
  k_dflt (refine' code_def (binds := [(Str.ofString "script", .ref sa), (Str.ofString "k", .int (k : Int) tk₀)]) ?k1 ?k2 ?k3 ?k4 ?k5 ?kA ?kF ?kK ?k6 ?k7 ?k8 ?k9 ?kB ?_ ?c2 ?c3 ?c4 ?c5; walk_at "enter")
  rename_i g1 L1 _ FG1 F1 N1 B1 X1 T1
  have hS1 := hS.at (fun o e => FG1.keep _ _ e)
  have hlv := hc.length
  by_cases hkl : k < sc.length
  · k_steps
    rename_i kF kN _ _
    have e : cellL sc k = (if sc.getD (k : Int).toNat 0 < 0 then -sc.getD (k : Int).toNat 0 else sc.getD (k : Int).toNat 0) := by
      unfold cellL
      rw [Int.toNat_natCast]
      split <;> lia  
    rw [← e]
    exact hret _ _ _ kF kN
  · k_steps
    rename_i kF kN _ _
    have e : cellL sc k = 0 := by
      unfold cellL
      rw [List.getD_eq_getElem?_getD, List.getElem?_eq_none (by lia  )]
      rfl
    rw [← e]
    exact hret _ _ _ kF kN
theorem tune_total : True := by
  w_top off
  exact True.intro
/-- what the walk needs of the lengths -/
def GoodL (cs : List Int) (L : Nat) : Prop := (leastL cs L).length = cs.length ∧ ∀ i (h : i < cs.length) (h2 : i < (leastL cs L).length), 0 ≤ (leastL cs L)[i] ∧ (leastL cs L)[i] ≤ (L : Int) ∧ (0 < cs[i] → 0 < (leastL cs L)[i])
structure Fit (cs : List Int) (L : Nat) : Prop where
  len : cs.length ≤ 60
  pos : ∀ c ∈ cs, 0 ≤ c ∧ c ≤ 100000
  two : 2 ≤ (usedL cs).length
  L0 : 0 < L
  L1 : L ≤ 100
  room : (usedL cs).length ≤ 2 ^ L
  good : GoodL cs L
theorem Fit.bounds {cs : List Int} {L : Nat} (f : Fit cs L) : ∀ i (h : i < cs.length) (h2 : i < (leastL cs L).length), 0 ≤ cs[i] ∧ cs[i] ≤ 1000000 ∧ 0 ≤ (leastL cs L)[i] ∧ (leastL cs L)[i] ≤ 1000 ∧ (0 < cs[i] → 0 < (leastL cs L)[i]) := by
  intro i h h2
  have a := f.pos _ (List.getElem_mem h)
  have b := f.good.2 i h h2
  have c := f.L1
  exact ⟨a.1, by lia  , b.1, by lia  , b.2.2⟩
def TT (cs : List Int) (L : Nat) : Int := totalL cs (leastL cs L)

theorem total_does (prog : Program) (w : World) (mean : ExcName → Option Value) (mg mb : Str → Option Value) (news : List (Addr × Obj)) (ca : Addr) (vs : List Value) (n : Nat) (cs : List Int) (L₀ : Nat) (tL : Tok)
    (hC : (ca, W.listOf vs.toArray n) ∈ news) (hc : IntsAre vs cs) (hf : Fit cs L₀) :
    CallTo prog w mean mg mb 106 4 news [.ref ca, .int (L₀ : Int) tL] (fun h₀ L m s Q => ∀ t h' tk', Fr h₀ L h' m → News h₀ L h' news → Q (.int (TT cs L₀) t) { s with heap := h', toks := tk' }) := by
  unfold CallTo
  intro dp un gd cn cs' a ccd cl outer A₀ base h₀ L m s Q E B F X N T hk hd hu hret
  refine wpAny_call ?_
  k_dflt (refine' code_def (binds := [(Str.ofString "counts", .ref ca), (Str.ofString "longest", .int (L₀ : Int) tL)]) ?k1 ?k2 ?k3 ?k4 ?k5 ?kA ?kF ?kK ?k6 ?k7 ?k8 ?k9 ?kB ?_ ?c2 ?c3 ?c4 ?c5; walk_at "enter")
  k_steps
  refine Stop.mk ?_
  k_dflt (refine' least_does prog w mean mg mb _ ca vs n cs L₀ tL ?m1 hc hf.len (fun c h => (hf.pos c h).1) hf.two hf.L0 hf.L1 hf.room _ _ _ _ _ _ _ _ _ _ _ _ _ _ _ _ _ ?k1 ?k2 ?k3 ?k4 ?k5 ?kK ?kd ?ku ?_; walk_at "callto")
  (case m1 => k_mem)
  intro la us k1 h2 tk2 F2 N2 hl1 hI2
  k_steps
  refine Stop.mk ?_
  k_dflt (refine' total_bits_does prog w mean mg mb _ ca la vs us n k1 cs (leastL cs L₀) ?m1 hc ?m2 hI2 hf.good.1.symm (Nat.le_trans hf.len (by decide)) hf.bounds _ _ _ _ _ _ _ _ _ _ _ _ _ _ _ _ _ ?k1 ?k2 ?k3 ?k4 ?k5 ?kK ?kd ?ku ?_; walk_at "callto")
  (case m1 => k_mem)
  (case m2 => k_mem)
  intro t3 h3 tk3 F3 N3
  k_steps
  rename_i kF kN _ _
  exact hret _ _ _ kF (fun p hp => kN p (.tail _ hp))
theorem tune_joined : True := by
  w_top off
  exact True.intro
def posL (cs : List Int) : List Int := cs.filter fun c => decide (0 < c)
def joinT : Nat → List Int → Int
  | 0, _ => 0
  | n + 1, l => (l.getD 0 0 + l.getD 1 0) + joinT n (isort (l.drop 2 ++ [l.getD 0 0 + l.getD 1 0]))
def joinedL (cs : List Int) : Int := joinT ((posL cs).length - 1) (isort (posL cs))
inductive JnJ (cs : List Int) (news : List (Addr × Obj)) (m₀ : Str → Option Value) (i : Nat) (m : Str → Option Value) : List (Addr × Obj) → Prop
  | mk (la : Addr) (lv : List Value) (lk : Nat) (l : List Int) (t : Int) (tt : Tok) (hI : IntsAre lv l) (hll : l.length = (posL cs).length - i) (htot : t + joinT ((posL cs).length - 1 - i) l = joinedL cs)
    (hm1 : m (Str.ofString "left") = some (.ref la)) (hm2 : m (Str.ofString "total") = some (.int t tt)) (hS : Same [Str.ofString "turn", Str.ofString "both", Str.ofString "left", Str.ofString "total"] m₀ m) : JnJ cs news m₀ i m ((la, W.listOf (List.toArray lv) lk) :: news)
theorem joined_does (prog : Program) (w : World) (mean : ExcName → Option Value) (mg mb : Str → Option Value) (news : List (Addr × Obj)) (ca : Addr) (vs : List Value) (n : Nat) (cs : List Int)
    (hC : (ca, W.listOf vs.toArray n) ∈ news) (hc : IntsAre vs cs) (hcl : cs.length ≤ 60) (h2 : 2 ≤ (posL cs).length) :
    CallTo prog w mean mg mb 111 1 news [.ref ca] (fun h₀ L m s Q => ∀ t h' tk', Fr h₀ L h' m → News h₀ L h' news → Q (.int (joinedL cs) t) { s with heap := h', toks := tk' }) := by
  unfold CallTo
  intro dp un gd cn cs' a ccd cl outer A₀ base h₀ L m s Q E B F X N T hk hd hu hret
  refine wpAny_call ?_
  k_dflt (refine' code_def (binds := [(Str.ofString "counts", .ref ca)]) ?k1 ?k2 ?k3 ?k4 ?k5 ?kA ?kF ?kK ?k6 ?k7 ?k8 ?k9 ?kB ?_ ?c2 ?c3 ?c4 ?c5; walk_at "enter")
  k_steps
  rename_i g1 L1 _ FG1 _ B1 X1 T1 _
  walk_at "ecomp1"
  k_steps
  refine Stop.mk ?_
  rename Fr _ _ _ _ => F4
  rename News _ _ _ _ => N4
  have hlv := hc.length
  refine src_list (nn := n) (JI (news) fun i => (posL (cs.take i))) (by rfl) (by rfl) (by rfl) F4 N4 hC (by lia  ) ?_ ⟨.nil⟩ ?_ ?_
  · rintro i ys nx ⟨_⟩
    exact hC
  · intro i v ys nx h tk own C oC D m₂ E' hp hm1 hJ0 hoC F5 N5 hdis
    induction hJ0
    rename_i hys
    have hil : i < cs.length := by
      have := (List.getElem?_eq_some_iff.mp hp).1
      lia  
    obtain ⟨t2, hx2⟩ := hc.get i cs[i] (by simp [hil])
    have ex : v = .int cs[i] t2 := by rw [hp] at hx2; exact Option.some.inj hx2
    subst ex
    rw [List.cons_append, List.cons_append] at N5
    have e9 : cs.take (i + 1) = cs.take i ++ [cs[i]] := by rw [List.take_add_one, List.getElem?_eq_getElem hil]; rfl
    clear F4 N4
    show wpAny _ _ _ _ _ _
    by_cases hpos : 0 < cs[i]
    · k_steps
      refine endC _ F5 N5 ⟨?_⟩ (fun p hp => by rw [List.cons_append, List.cons_append] at hp; exact hp) hdis
      rw [e9]
      unfold posL at hys ⊢
      rw [List.filter_append]
      have e8 : List.filter (fun c => decide (0 < c)) [cs[i]] = [cs[i]] := by simp [hpos]
      rw [e8]
      exact ints_snoc hys _ _
    · k_steps
      refine endC _ F5 N5 ⟨?_⟩ (fun p hp => by rw [List.cons_append, List.cons_append] at hp; exact hp) hdis
      rw [e9]
      unfold posL at hys ⊢
      rw [List.filter_append]
      have e8 : List.filter (fun c => decide (0 < c)) [cs[i]] = [] := by simp [hpos]
      rw [e8, List.append_nil]
      exact hys
  · intro g ys nx hJ0
    induction hJ0
    rename_i hys
    rw [List.take_of_length_le (by lia  )] at hys
    intro D h5 tk5 F5 N5 hD
    clear F4 N4
    k_steps
    refine Stop.mk ?_
    refine my_sorted_ints F5 N5 (.head _) hys (by have hp60 : (posL cs).length ≤ 60 := Nat.le_trans (List.length_filter_le _ _) hcl; lia  ) fun D2 h6 vs6 k6 F6 N6 hD2 hI6 => ?_
    have hl6 := hI6.length
    rw [isort_len] at hl6
    have hp60 : (posL cs).length ≤ 60 := Nat.le_trans (List.length_filter_le _ _) hcl
    clear F5 N5
    k_steps
    refine Stop.mk ?_
    rename IsRange _ _ _ _ _ _ _ _ => hR3
    rename Fr _ _ _ _ => F7
    rename News _ _ _ _ => N7
    have N8 : News g1 L1 _ ((D2, W.listOf vs6.toArray k6) ::  news) := fun p hp => N7 p (by
      rcases List.mem_cons.mp hp with rfl | hp
      · exact .tail _ (.head _)
      · exact .tail _ (.tail _ (.tail _ hp)))
    clear N7
    refine for_range (n := (posL cs).length - 1) (JnJ cs news _)
      (by rfl) F7 N8 hR3 (small_of (by lia  ) (by lia  ) (by lia  ) (by lia  ) (by lia  ) (by lia  )) (size_of (by lia  )) ⟨D2, vs6, k6, isort (posL cs), 0, _, hI6, by rw [isort_len]; rfl, by rw [Int.zero_add]; rfl, rfl, rfl, Same.refl⟩ ?_ ?_
    · intro i t m₁ ny h tk own hi hoff hJ0 F9 N9
      induction hJ0
      rename_i la lv lk l tt tk0 hI hll htot hm1 hm2 hS
      have F10 := hS.frv2 hm1 hm2 F9
      rw [List.cons_append] at N9
      have hlv2 := hI.length
      clear F9 F7 N8
      k_steps
      refine Stop.mk ?_
      rename_i _ hd3 _ lc3 _ hd4 _ _ F11 N11 hI11 l11
      have hln : (l.drop 2 ++ [l.getD (Int.toNat 0) 0 + l.getD (Int.toNat 1) 0]).length = l.length - 1 := by
        rw [List.length_append, List.length_drop, List.length_singleton]
        lia  
      refine my_sorted_ints F11 N11 (.head _) hI11 (by lia  ) fun D9 h12 vs12 k12 F12 N12 hD12 hI12 => ?_
      have hl12 := hI12.length
      rw [isort_len] at hl12
      clear F10 N9 F11 N11
      k_steps
      rename Fr _ _ _ _ => F13
      rename News _ _ _ _ => N13
      have hoff9 : OwnOff own (D9 ::  news.map (·.1)) := by
        intro p hp b hb
        rcases List.mem_cons.mp hb with rfl | hb
        · exact Nat.ne_of_lt (hD12 p (by k_mem))
        · exact hoff p hp b (.tail _ hb)
      refine endG (nx := (D9, W.listOf (List.toArray vs12) k12) ::  news) F13 N13 ⟨D9, vs12, k12, _, _, _, hI12, ?_, ?_, rfl, rfl, Same.put (by decide) (Same.put (by decide) (Same.put (by decide) (Same.put (by decide) (Same.put (by decide) (Same.put (by decide) Same.mix)))))⟩ hoff9 rfl ?_
      · rw [isort_len, hln]
        lia  
      · obtain ⟨q, hq⟩ : ∃ q, (posL cs).length - 1 - i = q + 1 := ⟨(posL cs).length - 1 - i - 1, by lia  ⟩
        rw [hq] at htot
        have e8 : (posL cs).length - 1 - (i + 1) = q := by lia  
        rw [e8, ← htot]
        show _ = tt + ((l.getD 0 0 + l.getD 1 0) + joinT q (isort (l.drop 2 ++ [l.getD 0 0 + l.getD 1 0])))
        have e7 : Int.toNat 0 = 0 := rfl
        have e6 : Int.toNat 1 = 1 := rfl
        rw [e7, e6, Int.add_assoc]
      · intro p hp
        rw [List.cons_append] at hp
        rcases List.mem_cons.mp hp with rfl | hp
        · k_mem
        rcases List.mem_append.mp hp with hp | hp
        · k_mem
        · k_mem
    · intro m₁ ny h tk hJ0 F9 N9
      induction hJ0
      rename_i la lv lk l tt tk0 hI hll htot hm1 hm2 hS
      have F10 := hS.frv2 hm1 hm2 F9
      clear F9 F7 N8
      k_steps
      rename_i kF kN _ _
      rw [Nat.sub_self] at htot
      have e9 : tt = joinedL cs := by rw [← htot]; exact (Int.add_zero _).symm
      rw [e9]
      exact hret _ _ _ kF (fun p hp => kN p (.tail _ hp))
theorem tune_looked : True := by
  w_top off
  exact True.intro
/-- what looking over needs -/
structure Fine (cs : List Int) (L : Nat) : Prop where
  fit : Fit cs L
  same : (leastL cs L).map (fun l => decide (0 < l)) = cs.map (fun c => decide (0 < c))
  mono : ∀ i j (hi : i < cs.length) (hj : j < cs.length) (hi2 : i < (leastL cs L).length) (hj2 : j < (leastL cs L).length), 0 < cs[i] → cs[i] < cs[j] → (leastL cs L)[j] ≤ (leastL cs L)[i]
  kraft : (((leastL cs L).filter fun l => decide (0 < l)).map fun l => (2 : Int) ^ ((L : Int) - l).toNat).sum = 2 ^ L

def inuseL (cs ls : List Int) : List (Int × Int) := ((cs.zip ls).filter fun p => decide (0 < p.1)).map fun p => (p.1, 0 - p.2)
theorem filt_len {α : Type} (l : List (Int × α)) : (l.filter fun p => decide (0 < p.1)).length = ((l.map (·.1)).filter fun c => decide (0 < c)).length := by
  rw [List.filter_map, List.length_map]
  rfl
theorem used_len (cs : List Int) : (usedL cs).length = (posL cs).length := by
  unfold usedL posL
  rw [List.length_map, filt_len]
  congr 2
  rw [List.zipIdx_map_fst]
theorem inuse_len {cs ls : List Int} (h : ls.length = cs.length) : (inuseL cs ls).length = (posL cs).length := by
  unfold inuseL posL
  rw [List.length_map, filt_len, List.map_fst_zip (by lia  )]
theorem inuse_mem {cs ls : List Int} {r : Int × Int} (h : r ∈ inuseL cs ls) : ∃ i, ∃ (h1 : i < cs.length) (h2 : i < ls.length), r = (cs[i], 0 - ls[i]) ∧ 0 < cs[i] := by
  obtain ⟨q, hq, rfl⟩ := List.mem_map.mp h
  obtain ⟨hq1, hq2⟩ := List.mem_filter.mp hq
  obtain ⟨i, hi, rfl⟩ := List.getElem_of_mem hq1
  rw [List.length_zip] at hi
  simp only [List.getElem_zip, decide_eq_true_eq] at hq2 ⊢
  exact ⟨i, by lia  , by lia  , rfl, hq2⟩
inductive LkT (cs ls : List Int) (la : Addr) (X : List (Addr × Obj)) (i : Nat) (ys : List Value) : List (Addr × Obj) → Prop
  | mk (tups : List (Addr × Obj)) (hta : TupsAre tups ys ((((cs.zip ls).take i).filter fun p => decide (0 < p.1)).map fun p => (p.1, 0 - p.2))) (htl : ∀ p ∈ tups, la < p.1) (hyl : ys.length ≤ i) : LkT cs ls la X i ys (tups ++ X)
theorem looked_does (prog : Program) (w : World) (mean : ExcName → Option Value) (mg mb : Str → Option Value) (news : List (Addr × Obj)) (ca : Addr) (vs : List Value) (n : Nat) (cs : List Int) (L₀ : Nat) (tL : Tok)
    (hC : (ca, W.listOf vs.toArray n) ∈ news) (hc : IntsAre vs cs) (hf : Fine cs L₀) :
    CallTo prog w mean mg mb 116 4 news [.ref ca, .int (L₀ : Int) tL] (fun h₀ L m s Q => ∀ t h' tk', Fr h₀ L h' m → News h₀ L h' news → Q (.int (TT cs L₀) t) { s with heap := h', toks := tk' }) := by
  unfold CallTo
  intro dp un gd cn cs' a ccd cl outer A₀ base h₀ L m s Q E B F X N T hk hd hu hret
  refine wpAny_call ?_
  k_dflt (refine' code_defC (binds := [(Str.ofString "counts", .ref ca), (Str.ofString "longest", .int (L₀ : Int) tL)]) ?k1 ?k2 ?k3 ?k4 ?k5 ?kA ?kF ?kK ?k6 ?k7 ?k8 ?k9 ?kB ?kD ?_ ?c2 ?c3 ?c4; walk_at "enterC")
  k_steps
  refine Stop.mk ?_
  rename_i g1 L1 _ _ FG1 _ B1 X1 T1 hlL oc0 d0 N1
  have d1 : oc0.data = .cell (some (Value.int (L₀ : Int) tL)) := d0
  k_dflt (refine' least_does prog w mean mg mb _ ca vs n cs L₀ tL ?m1 hc hf.fit.len (fun c h => (hf.fit.pos c h).1) hf.fit.two hf.fit.L0 hf.fit.L1 hf.fit.room _ _ _ _ _ _ _ _ _ _ _ _ _ _ _ _ _ ?k1 ?k2 ?k3 ?k4 ?k5 ?kK ?kd ?ku ?_; walk_at "callto")
  (case m1 => k_mem)
  intro la us k1 h2 tk2 F2 N2 hl1 hI2
  generalize hls : leastL cs L₀ = ls at *
  have hlv := hc.length
  have hlu := hI2.length
  have hlen : ls.length = cs.length := by rw [← hls]; exact hf.fit.good.1
  have hcl := hf.fit.len
  have hbs : ls.map (fun l => decide (0 < l)) = cs.map (fun c => decide (0 < c)) := by rw [← hls]; exact hf.same
  clear N1 d0
  k_steps
  walk_at "ecomp0"
  k_steps
  refine Stop.mk ?_
  rename Fr _ _ _ _ => F4
  rename News _ _ _ _ => N4
  refine src_list (nn := k1) (JV ((la, W.listOf us.toArray k1) :: (L1 + 1, oc0) :: news) fun i => (ls.take i).map fun l => Value.bool (decide (0 < l))) (by rfl) (by rfl) (by rfl) F4 N4 (.head _) (by lia  ) ?_ ⟨rfl⟩ ?_ ?_
  · rintro i ys nx ⟨_⟩
    exact .head _
  · intro i v ys nx h tk own C oC D m₂ E' hp hm1 hJ0 hoC F5 N5 hdis
    induction hJ0
    rename_i hys
    have hil : i < ls.length := by
      have := (List.getElem?_eq_some_iff.mp hp).1
      lia  
    obtain ⟨t2, hx2⟩ := hI2.get i ls[i] (by simp [hil])
    have ex : v = .int ls[i] t2 := by rw [hp] at hx2; exact Option.some.inj hx2
    subst ex
    rw [List.cons_append, List.cons_append] at N5
    clear F4 N4
    show wpAny _ _ _ _ _ _
    k_steps
    refine endC _ F5 N5 ⟨?_⟩ (fun p hp => by rw [List.cons_append, List.cons_append] at hp; exact hp) hdis
    rw [List.take_add_one, List.getElem?_eq_getElem hil, hys, List.map_append]
    rfl
  · intro g ys nx hJ0
    induction hJ0
    rename_i hys
    rw [List.take_of_length_le (by lia  )] at hys
    subst hys
    intro D h5 tk5 F5 N5 hD
    clear F4 N4
    k_steps
    walk_at "ecomp0"
    k_steps
    refine Stop.mk ?_
    rename Fr _ _ _ _ => F6
    rename News _ _ _ _ => N6
    refine src_list (nn := n) (JV ((D, W.listOf ((ls.map fun l => Value.bool (decide (0 < l)))).toArray (ls.map fun l => Value.bool (decide (0 < l))).length) :: (la, W.listOf us.toArray k1) :: (L1 + 1, oc0) :: news) fun i => (cs.take i).map fun l => Value.bool (decide (0 < l))) (by rfl) (by rfl) (by rfl) F6 N6 (.tail _ (.tail _ (.tail _ hC))) (by lia  ) ?_ ⟨rfl⟩ ?_ ?_
    · rintro i ys nx ⟨_⟩
      exact .tail _ (.tail _ (.tail _ hC))
    · intro i v ys nx h tk own C oC D2 m₂ E' hp hm1 hJ0 hoC F7 N7 hdis
      induction hJ0
      rename_i hys
      have hil : i < cs.length := by
        have := (List.getElem?_eq_some_iff.mp hp).1
        lia  
      obtain ⟨t2, hx2⟩ := hc.get i cs[i] (by simp [hil])
      have ex : v = .int cs[i] t2 := by rw [hp] at hx2; exact Option.some.inj hx2
      subst ex
      rw [List.cons_append, List.cons_append] at N7
      clear F6 N6
      show wpAny _ _ _ _ _ _
      k_steps
      refine endC _ F7 N7 ⟨?_⟩ (fun p hp => by rw [List.cons_append, List.cons_append] at hp; exact hp) hdis
      rw [List.take_add_one, List.getElem?_eq_getElem hil, hys, List.map_append]
      rfl
    · intro g ys nx hJ0
      induction hJ0
      rename_i hys
      rw [List.take_of_length_le (by lia  )] at hys
      subst hys
      intro D2 h7 tk7 F7 N7 hD2
      have eb : cs.map (fun l => Value.bool (decide (0 < l))) = ls.map (fun l => Value.bool (decide (0 < l))) := by
        have := congrArg (List.map Value.bool) hbs
        rw [List.map_map, List.map_map] at this
        exact this.symm
      rw [eb] at N7
      clear F6 N6
      k_steps
      refine Stop.mk ?_
      k_dflt (refine my_ne_bools N7 (.tail _ (.head _)) (.head _) ?_ (by ktr_units) ?_)
      · intro v hv
        obtain ⟨l, _, rfl⟩ := List.mem_map.mp hv
        exact ⟨_, rfl⟩
      have hmax : ∀ l ∈ ls, l ≤ (L₀ : Int) := by
        intro l hl
        obtain ⟨i, hi, rfl⟩ := List.getElem_of_mem hl
        subst hls
        exact (hf.fit.good.2 i (by lia  ) hi).2.1
      have hcs2 := hf.fit.two
      have hlr2 : (usedL cs).length ≤ cs.length := by
        unfold usedL
        rw [List.length_map]
        refine Nat.le_trans (List.length_filter_le _ _) ?_
        rw [List.length_zipIdx]
        exact Nat.le_refl _
      k_steps
      refine Stop.mk ?_
      rename Fr _ _ _ _ => F8
      rename News _ _ _ _ => N8
      refine kso_max F8 N8 ⟨_, (N8 (la, W.listOf us.toArray k1) (.tail _ (.tail _ (.head _)))).1, rfl, k1, rfl⟩ hI2 (by lia  ) rfl fun h9 M t9 tk9 F9 N9 hM hM2 => ?_
      have hML := hmax M hM
      have N10 : News g1 L1 _ ((la, W.listOf us.toArray k1) :: (L1 + 1, oc0) :: news) := fun p hp => N9 p (.tail _ (.tail _ hp))
      clear F8 N8 N9
      k_steps
      walk_at "ecomp1"
      k_steps
      refine Stop.mk ?_
      rename Fr _ _ _ _ => F11
      rename News _ _ _ _ => N11
      refine src_zip (n1 := n) (n2 := k1) (LkT cs ls la ((la, W.listOf us.toArray k1) :: (L1 + 1, oc0) :: news))
        (by rfl) (by rfl) (by rfl) (by decide) (by rfl) F11 N11 (.tail _ (.tail _ hC)) (.head _) (by lia  ) ?_ ⟨[], .nil, (fun _ h => nomatch h), Nat.zero_le _⟩ ?_ ?_
      · rintro i ys nx ⟨tups, _, _, _⟩
        exact ⟨List.mem_append_right _ (.tail _ (.tail _ hC)), List.mem_append_right _ (.head _)⟩
      · intro i u v ys nx h tk own C oC D3 m₂ E' hu hv hm1 hm2 hJ0 hoC F12 N12 hdis
        induction hJ0
        rename_i tups hta htl hyl
        have hil : i < cs.length := by
          have := (List.getElem?_eq_some_iff.mp hu).1
          lia  
        have hil2 : i < ls.length := by lia  
        obtain ⟨t2, hx2⟩ := hc.get i cs[i] (by simp [hil])
        have ex : u = .int cs[i] t2 := by rw [hu] at hx2; exact Option.some.inj hx2
        subst ex
        obtain ⟨t3, hx3⟩ := hI2.get i ls[i] (by simp [hil2])
        have ex : v = .int ls[i] t3 := by rw [hv] at hx3; exact Option.some.inj hx3
        subst ex
        rw [List.cons_append, List.cons_append] at N12
        have ez : (cs.zip ls).take (i + 1) = (cs.zip ls).take i ++ [(cs[i], ls[i])] := by
          rw [List.take_add_one]
          rw [List.getElem?_eq_getElem (by rw [List.length_zip]; lia  ), List.getElem_zip]
          rfl
        clear F11 N11
        show wpAny _ _ _ _ _ _
        by_cases hpos : 0 < cs[i]
        · k_steps
          rename_i D9 _ F13 N13 l13
          obtain ⟨o9, ho9, N14⟩ : ∃ o, (∃ u1 u2 n, o = ({ cls := .type "tuple", data := .seq (List.toArray [Value.int cs[i] u1, Value.int (0 - ls[i]) u2]) n } : Obj)) ∧ News _ _ _ ((D9, o) :: _) := ⟨_, ⟨_, _, _, rfl⟩, N13⟩
          refine endC (((D9, o9) :: tups) ++ ((la, W.listOf us.toArray k1) :: (L1 + 1, oc0) :: news)) F13 N14 ⟨(D9, o9) :: tups, ?_, ?_, ?_⟩ ?_ ?_
          · rw [ez, List.filter_append, List.map_append]
            have e9 : List.map (fun p => (p.1, 0 - p.2)) (List.filter (fun p => decide (0 < p.1)) [(cs[i], ls[i])]) = [(cs[i], 0 - ls[i])] := by simp [hpos]
            rw [e9]
            exact (hta.mono fun p hp => .tail _ hp).snoc (by obtain ⟨u1, u2, n9, e⟩ := ho9; exact ⟨D9, u1, u2, n9, rfl, e ▸ .head _⟩)
          · intro p hp
            rcases List.mem_cons.mp hp with rfl | hp
            · exact kst_ltOf l13.2.2 (la, _) (List.mem_append_right _ (List.mem_append_right _ (.head _)))
            · exact htl p hp
          · rw [List.length_append]
            simpa using hyl
          · intro p hp
            rw [List.cons_append, List.cons_append] at hp
            rcases List.mem_cons.mp hp with rfl | hp
            · k_mem
            rcases List.mem_cons.mp hp with rfl | hp
            · k_mem
            rcases List.mem_append.mp hp with hp | hp
            · exact .tail _ (.tail _ (.tail _ (List.mem_append_left _ hp)))
            rw [List.cons_append] at hp
            rcases List.mem_cons.mp hp with rfl | hp
            · exact .head _
            · exact .tail _ (.tail _ (.tail _ (List.mem_append_right _ hp)))
          · intro p hp q hq
            rw [List.cons_append] at hq
            rcases List.mem_cons.mp hq with rfl | hq
            · rcases List.mem_cons.mp hp with rfl | hp
              · exact Nat.ne_of_lt l13.1
              rcases List.mem_cons.mp hp with rfl | hp
              · exact Nat.ne_of_lt l13.2.1
              · exact Nat.ne_of_lt (kst_ltOf l13.2.2 p (List.mem_append_left _ hp))
            · exact hdis p hp q hq
        · k_steps
          refine endC (tups ++ ((la, W.listOf us.toArray k1) :: (L1 + 1, oc0) :: news)) F12 N12 ⟨tups, ?_, htl, by lia  ⟩ (fun p hp => by rw [List.cons_append, List.cons_append] at hp; exact hp) hdis
          rw [ez, List.filter_append]
          simpa [hpos] using hta
      · intro g ys nx hJ0
        induction hJ0
        rename_i tups hta htl hyl
        rw [List.take_of_length_le (by rw [List.length_zip]; lia  )] at hta
        intro D3 h12 tk12 F12 N12 hD3
        clear F11 N11
        k_steps
        refine Stop.mk ?_
        have hta2 : TupsAre ((D3, W.listOf ys.toArray ys.length) :: (tups ++ ((la, W.listOf us.toArray k1) :: (L1 + 1, oc0) :: news))) ys (inuseL cs ls) := hta.mono fun p hp => .tail _ (List.mem_append_left _ hp)
        have hil := inuse_len hlen
        have hul := used_len cs
        have hbound : ∀ r ∈ inuseL cs ls, -10000 ≤ r.2 ∧ r.2 ≤ 10000 := by
          intro r hr
          obtain ⟨i, h1, h2, rfl, _⟩ := inuse_mem hr
          have b1 := hmax _ (List.getElem_mem h2)
          have b2 := hf.fit.L1
          subst hls
          have b3 := (hf.fit.good.2 i h1 h2).1
          simp only
          lia  
        refine my_sorted_tups F12 N12 (.head _) hta2 (by lia  ) (by lia  ) hbound fun D4 h14 vs14 rows k14 F14 N14 l14 ht14 hp14 hs14 => ?_
        have hvl := ht14.length
        have hrl := hp14.length_eq
        have slon : SliceOn := ⟨⟩
        clear F12 N12
        k_steps
        refine Stop.mk ?_
        rename_i _ D5 _ F16 N16 l16
        clear slon
        have hmon : ∀ r1 ∈ inuseL cs ls, ∀ r2 ∈ inuseL cs ls, r1.1 < r2.1 → r1.2 ≤ r2.2 := by
          intro r1 hr1 r2 hr2 hlt
          obtain ⟨i, h1, h2, rfl, h0⟩ := inuse_mem hr1
          obtain ⟨j, g1, g2, rfl, _⟩ := inuse_mem hr2
          subst hls
          have := hf.mono i j h1 g1 h2 g2 h0 hlt
          simp only
          lia  
        refine for_zip (n1 := k14) (n2 := 0) (JS ((D5, W.listOf (List.drop 1 vs14).toArray 0) :: (D4, W.listOf (List.toArray vs14) k14) :: (D3, W.listOf ys.toArray ys.length) :: (tups ++ ((la, W.listOf us.toArray k1) :: (L1 + 1, oc0) :: news))) [Str.ofString "one", Str.ofString "other"] _)
          (by rfl) F16 N16 (.tail _ (.head _)) (.head _) ?_ ⟨Same.refl⟩ ?_ ?_
        · rintro i m nx ⟨_⟩
          exact ⟨.tail _ (.head _), .head _⟩
        · intro i x y T m₁ nx h tk own hx hy hTT hoff hJ0 F17 N17
          induction hJ0
          rename_i hS
          have F18 := hS.fr F17
          rw [List.cons_append, List.cons_append, List.cons_append] at N17
          rw [List.getElem?_drop] at hy
          have hi1 : 1 + i < rows.length := by
            have h9 : (1 : Nat) + i < vs14.length := (List.getElem?_eq_some_iff.mp hy).1
            lia  
          obtain ⟨v1, hv1, T1, u1, u2, nn1, rfl, hm1⟩ := ht14.get (i := i) (r := rows[i]) (by simp)
          obtain ⟨v2, hv2, T2, u3, u4, nn2, rfl, hm2⟩ := ht14.get (i := 1 + i) (r := rows[1 + i]) (by simp)
          rw [hv1] at hx
          rw [hv2] at hy
          cases hx
          cases hy
          have hmm := hmon rows[i] (hp14.mem_iff.mp (List.getElem_mem _)) rows[1 + i] (hp14.mem_iff.mp (List.getElem_mem _))
          generalize hr1 : rows[i] = r1 at *
          generalize hr2 : rows[1 + i] = r2 at *
          obtain ⟨a1, b1⟩ := r1
          obtain ⟨a2, b2⟩ := r2
          simp only at hm1 hm2 hmm
          have up : ∀ p ∈ (D3, W.listOf ys.toArray ys.length) :: (tups ++ ((la, W.listOf us.toArray k1) :: (L1 + 1, oc0) :: news)), p ∈ (D5, W.listOf (List.drop 1 vs14).toArray 0) :: (D4, W.listOf (List.toArray vs14) k14) :: (D3, W.listOf ys.toArray ys.length) :: (tups ++ ((la, W.listOf us.toArray k1) :: (L1 + 1, oc0) :: news) ++ own) := by
            intro p hp
            rcases List.mem_cons.mp hp with rfl | hp
            · exact .tail _ (.tail _ (.head _))
            · exact .tail _ (.tail _ (.tail _ (List.mem_append_left _ hp)))
          have hm3 := up _ hm1
          have hm4 := up _ hm2
          clear hm1 hm2 F17 F16 N16 up
          by_cases hac : a1 < a2
          · have hbd := hmm hac
            k_steps
            rename Fr _ _ _ _ => F19
            rename News _ _ _ _ => N19
            exact endG F19 N19 ⟨Same.put (by decide) (Same.put (by decide) Same.mix)⟩ hoff rfl (fun p hp => hp)
          · k_steps
            rename Fr _ _ _ _ => F19
            rename News _ _ _ _ => N19
            exact endG F19 N19 ⟨Same.put (by decide) (Same.put (by decide) Same.mix)⟩ hoff rfl (fun p hp => hp)
        · intro m₁ nx h tk hJ0 F17 N17
          induction hJ0
          rename_i hS
          have F18 := hS.fr F17
          have N18 : News g1 L1 _ ((la, W.listOf us.toArray k1) :: (L1 + 1, oc0) :: news) := fun p hp => N17 p (.tail _ (.tail _ (.tail _ (List.mem_append_right _ hp))))
          clear F16 F17 N16 N17
          k_steps
          walk_at "ecomp1"
          k_steps
          refine Stop.mk ?_
          rename Fr _ _ _ _ => F20
          rename News _ _ _ _ => N20
          refine src_list (nn := k1) (JI ((la, W.listOf us.toArray k1) :: (L1 + 1, oc0) :: news) fun i => (((ls.take i).filter fun l => decide (0 < l)).map fun l => (2 : Int) ^ ((L₀ : Int) - l).toNat)) (by rfl) (by rfl) (by rfl) F20 N20 (.head _) (by lia  ) ?_ ⟨.nil⟩ ?_ ?_
          · rintro i ys nx ⟨_⟩
            exact .head _
          · intro i v ys nx h tk own C oC D6 m₂ E' hp hm1 hJ0 hoC F21 N21 hdis
            induction hJ0
            rename_i hys
            have hil : i < ls.length := by
              have := (List.getElem?_eq_some_iff.mp hp).1
              lia  
            obtain ⟨t2, hx2⟩ := hI2.get i ls[i] (by simp [hil])
            have ex : v = .int ls[i] t2 := by rw [hp] at hx2; exact Option.some.inj hx2
            subst ex
            rw [List.cons_append, List.cons_append] at N21
            have e9 : ls.take (i + 1) = ls.take i ++ [ls[i]] := by rw [List.take_add_one, List.getElem?_eq_getElem hil]; rfl
            have hlm := hmax _ (List.getElem_mem hil)
            have hL100 := hf.fit.L1
            clear F20 N20
            show wpAny _ _ _ _ _ _
            by_cases hpos : 0 < ls[i]
            · k_steps
              refine endC _ F21 N21 ⟨?_⟩ (fun p hp => by rw [List.cons_append, List.cons_append] at hp; exact hp) hdis
              rw [e9, List.filter_append, List.map_append]
              have e8 : List.map (fun l => (2 : Int) ^ ((L₀ : Int) - l).toNat) (List.filter (fun c => decide (0 < c)) [ls[i]]) = [(2 : Int) ^ ((L₀ : Int) - ls[i]).toNat] := by simp [hpos]
              rw [e8]
              exact ints_snoc hys _ _
            · k_steps
              refine endC _ F21 N21 ⟨?_⟩ (fun p hp => by rw [List.cons_append, List.cons_append] at hp; exact hp) hdis
              rw [e9, List.filter_append]
              have e8 : List.filter (fun c => decide (0 < c)) [ls[i]] = [] := by simp [hpos]
              rw [e8, List.append_nil]
              exact hys
          · intro g ys nx hJ0
            induction hJ0
            rename_i hys
            rw [List.take_of_length_le (by lia  )] at hys
            intro D6 h21 tk21 F21 N21 hD6
            clear F20 N20
            k_steps
            refine Stop.mk ?_
            refine LSm.sum_ints F21 N21 rfl ⟨_, (N21 _ (.head _)).1, rfl, ys.length, rfl⟩ hys fun h22 tk22 t22 F22 N22 => ?_
            have hkr := hf.kraft
            rw [hls] at hkr
            rw [hkr]
            have hL100 := hf.fit.L1
            clear F21 N21
            k_steps
            · refine Stop.mk ?_
              k_dflt (refine' total_bits_does prog w mean mg mb _ ca la vs us n k1 cs ls ?m1 hc ?m2 hI2 hlen.symm (Nat.le_trans hcl (by decide)) ?m3 _ _ _ _ _ _ _ _ _ _ _ _ _ _ _ _ _ ?k1 ?k2 ?k3 ?k4 ?k5 ?kK ?kd ?ku ?_; walk_at "callto")
              (case m1 => k_mem)
              (case m2 => k_mem)
              (case m3 => subst hls; exact hf.fit.bounds)
              intro t3 h3 tk3 F3 N3
              k_steps
              rename_i kF kN _ _
              have e9 : totalL cs ls = TT cs L₀ := by rw [← hls]; rfl
              rw [e9]
              exact hret _ _ _ kF (fun p hp => kN p (.tail _ (.tail _ (.tail _ hp))))
            · exfalso
              rename _ ≠ _ => hne
              exact hne (by rw [Int.toNat_natCast])
theorem tune_same : True := by
  w_top off
  exact True.intro
structure SameOk (cs : List Int) (L sp : Nat) (more : Int) : Prop where
  fit : Fit cs L
  fitR : Fit cs.reverse L
  eqR : TT cs.reverse L = TT cs L
  fitT : Fit (cs.drop sp ++ cs.take sp) L
  eqT : TT (cs.drop sp ++ cs.take sp) L = TT cs L
  fitM : Fit (cs.map fun c => more * c) L
  eqM : TT (cs.map fun c => more * c) L = more * TT cs L
  fitZ : Fit (cs.take sp ++ [0] ++ cs.drop sp) L
  eqZ : leastL (cs.take sp ++ [0] ++ cs.drop sp) L = (leastL cs L).take sp ++ [0] ++ (leastL cs L).drop sp

theorem same_does (prog : Program) (w : World) (mean : ExcName → Option Value) (mg mb : Str → Option Value) (news : List (Addr × Obj)) (ca : Addr) (vs : List Value) (n : Nat) (cs : List Int) (L₀ sp : Nat) (more : Int) (tL tS tM : Tok)
    (hC : (ca, W.listOf vs.toArray n) ∈ news) (hc : IntsAre vs cs) (hf : SameOk cs L₀ sp more) (hsp : sp < cs.length) (hm : 0 ≤ more ∧ more ≤ 1000) :
    CallTo prog w mean mg mb 121 14 news [.ref ca, .int (L₀ : Int) tL, .int (sp : Int) tS, .int more tM] (fun h₀ L m s Q => ∀ h' tk', Fr h₀ L h' m → News h₀ L h' news → Q (.bool true) { s with heap := h', toks := tk' }) := by
  unfold CallTo
  intro dp un gd cn cs' a ccd cl outer A₀ base h₀ L m s Q E B F X N T hk hd hu hret
  refine wpAny_call ?_
  k_dflt (refine' code_defC (binds := [(Str.ofString "counts", .ref ca), (Str.ofString "longest", .int (L₀ : Int) tL), (Str.ofString "spot", .int (sp : Int) tS), (Str.ofString "more", .int more tM)]) ?k1 ?k2 ?k3 ?k4 ?k5 ?kA ?kF ?kK ?k6 ?k7 ?k8 ?k9 ?kB ?kD ?_ ?c2 ?c3 ?c4; walk_at "enterC")
  k_steps
  refine Stop.mk ?_
  rename_i g1 L1 _ _ FG1 _ B1 X1 T1 hlL oc0 d0 N1
  have d1 : oc0.data = .cell (some (Value.int more tM)) := d0
  k_dflt (refine' least_does prog w mean mg mb _ ca vs n cs L₀ tL ?m1 hc hf.fit.len (fun c h => (hf.fit.pos c h).1) hf.fit.two hf.fit.L0 hf.fit.L1 hf.fit.room _ _ _ _ _ _ _ _ _ _ _ _ _ _ _ _ _ ?k1 ?k2 ?k3 ?k4 ?k5 ?kK ?kd ?ku ?_; walk_at "callto")
  (case m1 => k_mem)
  intro la us k1 h2 tk2 F2 N2 hl1 hI2
  have hlen := hf.fit.good.1
  have hlv := hc.length
  have hlu := hI2.length
  have hcl := hf.fit.len
  k_steps
  refine Stop.mk ?_
  k_dflt (refine' total_bits_does prog w mean mg mb _ ca la vs us n k1 cs (leastL cs L₀) ?m1 hc ?m2 hI2 hlen.symm (Nat.le_trans hcl (by decide)) hf.fit.bounds _ _ _ _ _ _ _ _ _ _ _ _ _ _ _ _ _ ?k1 ?k2 ?k3 ?k4 ?k5 ?kK ?kd ?ku ?_; walk_at "callto")
  (case m1 => k_mem)
  (case m2 => k_mem)
  intro t3 h3 tk3 F3 N3
  rw [show totalL cs (leastL cs L₀) = TT cs L₀ from rfl]
  skip
  k_steps
  refine Stop.mk ?_
  rename_i D4 ws4 _ F4 N4 hI4 _ _
  k_dflt (refine' total_does prog w mean mg mb _ D4 ws4 0 cs.reverse L₀ tL ?m1 hI4 hf.fitR _ _ _ _ _ _ _ _ _ _ _ _ _ _ _ _ _ ?k1 ?k2 ?k3 ?k4 ?k5 ?kK ?kd ?ku ?_; walk_at "callto")
  (case m1 => k_mem)
  intro t5 h5 tk5 F5 N5
  rw [hf.eqR]
  have slon : SliceOnI := ⟨⟩
  clear F4 N4
  k_steps
  all_goals try (exfalso; rename _ ≠ _ => hne; exact hne rfl)
  refine Stop.mk ?_
  rename_i D6 ws6 _ F6 N6 hI6 _
  k_dflt (refine' total_does prog w mean mg mb _ D6 ws6 0 (cs.drop sp ++ cs.take sp) L₀ tL ?m1 hI6 hf.fitT _ _ _ _ _ _ _ _ _ _ _ _ _ _ _ _ _ ?k1 ?k2 ?k3 ?k4 ?k5 ?kK ?kd ?ku ?_; walk_at "callto")
  (case m1 => k_mem)
  intro t7 h7 tk7 F7 N7
  rw [hf.eqT]
  have N8 : News g1 L1 _ ((la, W.listOf us.toArray k1) :: (L1 + 1, oc0) :: news) := fun p hp => N7 p (.tail _ (.tail _ (.tail _ (.tail _ hp))))
  clear F6 N6 N7
  k_steps
  all_goals try (exfalso; rename _ ≠ _ => hne; exact hne rfl)
  walk_at "ecomp0"
  k_steps
  refine Stop.mk ?_
  rename Fr _ _ _ _ => F9
  rename News _ _ _ _ => N9
  refine src_list (nn := n) (JI ((la, W.listOf us.toArray k1) :: (L1 + 1, oc0) :: news) fun i => ((cs.take i).map fun c => more * c)) (by rfl) (by rfl) (by rfl) F9 N9 (.tail _ (.tail _ hC)) (by lia  ) ?_ ⟨.nil⟩ ?_ ?_
  · rintro i ys nx ⟨_⟩
    exact .tail _ (.tail _ hC)
  · intro i v ys nx h tk own C oC D m₂ E' hp hm1 hJ0 hoC F10 N10 hdis
    induction hJ0
    rename_i hys
    have hil : i < cs.length := by
      have := (List.getElem?_eq_some_iff.mp hp).1
      lia  
    obtain ⟨t2, hx2⟩ := hc.get i cs[i] (by simp [hil])
    have ex : v = .int cs[i] t2 := by rw [hp] at hx2; exact Option.some.inj hx2
    subst ex
    rw [List.cons_append, List.cons_append] at N10
    have hb := hf.fit.pos _ (List.getElem_mem hil)
    clear F9 N9
    show wpAny _ _ _ _ _ _
    k_steps
    refine endC _ F10 N10 ⟨?_⟩ (fun p hp => by rw [List.cons_append, List.cons_append] at hp; exact hp) hdis
    rw [List.take_add_one, List.getElem?_eq_getElem hil, List.map_append]
    exact ints_snoc hys _ _
  · intro g ys nx hJ0
    induction hJ0
    rename_i hys
    rw [List.take_of_length_le (by lia  )] at hys
    intro D h10 tk10 F10 N10 hD
    clear F9 N9
    k_steps
    refine Stop.mk ?_
    k_dflt (refine' total_does prog w mean mg mb _ D ys ys.length (cs.map fun c => more * c) L₀ tL ?m1 hys hf.fitM _ _ _ _ _ _ _ _ _ _ _ _ _ _ _ _ _ ?k1 ?k2 ?k3 ?k4 ?k5 ?kK ?kd ?ku ?_; walk_at "callto")
    (case m1 => k_mem)
    intro t11 h11 tk11 F11 N11
    rw [hf.eqM]
    clear F10 N10
    k_steps
    all_goals try (exfalso; rename _ ≠ _ => hne; exact hne rfl)
    refine Stop.mk ?_
    rename_i D12 ws12 _ F12 N12 hI12 _
    k_dflt (refine' least_does prog w mean mg mb _ D12 ws12 0 (cs.take sp ++ [0] ++ cs.drop sp) L₀ tL ?m1 hI12 hf.fitZ.len (fun c h => (hf.fitZ.pos c h).1) hf.fitZ.two hf.fitZ.L0 hf.fitZ.L1 hf.fitZ.room _ _ _ _ _ _ _ _ _ _ _ _ _ _ _ _ _ ?k1 ?k2 ?k3 ?k4 ?k5 ?kK ?kd ?ku ?_; walk_at "callto")
    (case m1 => k_mem)
    intro za us13 k13 h13 tk13 F13 N13 hz13 hI13
    rw [hf.eqZ] at hI13
    have N14 : News g1 L1 _ ((za, W.listOf us13.toArray k13) :: (la, W.listOf us.toArray k1) :: (L1 + 1, oc0) :: news) := fun p hp => N13 p (by
      rcases List.mem_cons.mp hp with rfl | hp
      · k_mem
      · exact .tail _ (.tail _ (.tail _ (.tail _ (.tail _ (.tail _ (.tail _ hp)))))))
    have hzla : @LT.lt Nat _ la za := hz13 (la, _) (by k_mem)
    have hzL : @LT.lt Nat _ (L1 + 1) za := hz13 (L1 + 1, _) (by k_mem)
    have hzn : ∀ p ∈ news, p.1 < za := fun p hp => hz13 p (.tail _ (.tail _ (.tail _ (.tail _ (.tail _ (.tail _ (.tail _ (.tail _ hp))))))))
    clear F12 N12 N13
    k_steps
    refine Stop.mk ?_
    rename_i D15 ws15 _ F15 N15 hI15 _
    refine ke_eq_ints ⟨_, (N15 (za, W.listOf us13.toArray k13) (by k_mem)).1, rfl, k13, rfl⟩ ⟨_, (N15 (D15, W.listOf ws15.toArray 0) (.head _)).1, rfl, 0, rfl⟩ hI13 hI15 (by ktr_units) ?_
    rw [decide_eq_true (rfl : ((leastL cs L₀).take sp ++ [0] ++ (leastL cs L₀).drop sp) = _)]
    k_steps
    rename_i kF kN _ _
    exact hret _ _ kF (fun p hp => kN p (by k_mem))
theorem tune_grown : True := by
  w_top off
  exact True.intro
/-- the spot that grows -/
def spotG (cs : List Int) (sp : Nat) : Nat := if 0 < cs.getD sp 0 then sp else cs.length - 1
def grownL (cs : List Int) (q : Nat) : List Int := cs.take q ++ [cs.getD q 0 + 1] ++ cs.drop (q + 1)
def bothL (cs : List Int) : Int := (isort (posL cs)).getD 0 0 + (isort (posL cs)).getD 1 0
def restL (cs : List Int) : List Int := (isort (posL cs)).drop 2
structure GrownOk (cs : List Int) (L sp : Nat) : Prop where
  fit : Fit cs L
  fitG : Fit (grownL cs (spotG cs sp)) L
  lo : TT cs L + 1 ≤ TT (grownL cs (spotG cs sp)) L
  hi : TT (grownL cs (spotG cs sp)) L ≤ TT cs L + (leastL cs L).getD (spotG cs sp) 0
  three : 3 ≤ (posL cs).length
  two : 2 ≤ L
  joined : (restL cs).length < 2 ^ (L - 1) → Fit ([bothL cs] ++ restL cs) (L - 1) ∧ TT cs L ≤ bothL cs + TT ([bothL cs] ++ restL cs) (L - 1)
  fitA : Fit (List.zipWith (fun a b => a + b) cs cs.reverse) L
  added : 2 * TT cs L ≤ TT (List.zipWith (fun a b => a + b) cs cs.reverse) L

section
local macro_rules | `(tactic| walk_at "exec Assign cons IfExp") => `(tactic| (k_here; refine Stop.join (by with_reducible assumption) ?_))
local macro_rules | `(tactic| walk_at "exec If") => `(tactic| (k_here; refine Stop.join (by with_reducible assumption) ?_))
theorem grown_does (prog : Program) (w : World) (mean : ExcName → Option Value) (mg mb : Str → Option Value) (news : List (Addr × Obj)) (ca : Addr) (vs : List Value) (n : Nat) (cs : List Int) (L₀ sp : Nat) (tL tS : Tok)
    (hC : (ca, W.listOf vs.toArray n) ∈ news) (hc : IntsAre vs cs) (hf : GrownOk cs L₀ sp) (hsp : sp < cs.length) :
    CallTo prog w mean mg mb 126 6 news [.ref ca, .int (L₀ : Int) tL, .int (sp : Int) tS] (fun h₀ L m s Q => ∀ h' tk', Fr h₀ L h' m → News h₀ L h' news → Q (.bool true) { s with heap := h', toks := tk' }) := by
  unfold CallTo
  intro dp un gd cn cs' a ccd cl outer A₀ base h₀ L m s Q E B F X N T hk hd hu hret
  refine wpAny_call ?_
  k_dflt (refine' code_def (binds := [(Str.ofString "counts", .ref ca), (Str.ofString "longest", .int (L₀ : Int) tL), (Str.ofString "spot", .int (sp : Int) tS)]) ?k1 ?k2 ?k3 ?k4 ?k5 ?kA ?kF ?kK ?k6 ?k7 ?k8 ?k9 ?kB ?_ ?c2 ?c3 ?c4 ?c5; walk_at "enter")
  k_steps
  refine Stop.mk ?_
  rename_i g1 L1 _ FG1 _ B1 X1 T1 N1
  k_dflt (refine' least_does prog w mean mg mb _ ca vs n cs L₀ tL ?m1 hc hf.fit.len (fun c h => (hf.fit.pos c h).1) hf.fit.two hf.fit.L0 hf.fit.L1 hf.fit.room _ _ _ _ _ _ _ _ _ _ _ _ _ _ _ _ _ ?k1 ?k2 ?k3 ?k4 ?k5 ?kK ?kd ?ku ?_; walk_at "callto")
  (case m1 => k_mem)
  intro la us k1 h2 tk2 F2 N2 hl1 hI2
  have hlen := hf.fit.good.1
  have hlv := hc.length
  have hlu := hI2.length
  have hcl := hf.fit.len
  k_steps
  refine Stop.mk ?_
  k_dflt (refine' total_bits_does prog w mean mg mb _ ca la vs us n k1 cs (leastL cs L₀) ?m1 hc ?m2 hI2 hlen.symm (Nat.le_trans hcl (by decide)) hf.fit.bounds _ _ _ _ _ _ _ _ _ _ _ _ _ _ _ _ _ ?k1 ?k2 ?k3 ?k4 ?k5 ?kK ?kd ?ku ?_; walk_at "callto")
  (case m1 => k_mem)
  (case m2 => k_mem)
  intro t3 h3 tk3 F3 N3
  rw [show totalL cs (leastL cs L₀) = TT cs L₀ from rfl]
  have slon : SliceOnI := ⟨⟩
  have hthree := hf.three
  have hpc : (posL cs).length ≤ cs.length := List.length_filter_le _ _
  have hLtwo := hf.two
  have hL100 := hf.fit.L1
  have hsg : spotG cs sp < cs.length := by
    unfold spotG
    split <;> lia  
  have jon : JoinOn := ⟨⟩
  k_steps
  clear jon
  refine Stop.mk ?_
  rename Fr _ _ _ _ => FA
  rename News _ _ _ _ => NA
  refine cut_int (by exact FA) (Str.ofString "spot") ((spotG cs sp : Nat) : Int) ((la, W.listOf us.toArray k1) :: news) ?_ ?_
  · rcases Decidable.em (0 < cs.getD (sp : Int).toNat 0) with hpos | hpos
    · rw [show spotG cs sp = sp from if_pos (by rw [Int.toNat_natCast] at hpos; exact hpos)]
      k_steps
      exact .mk _ _ _ (by assumption) (by assumption)
    · rw [show ((spotG cs sp : Nat) : Int) = (cs.length : Int) - 1 by rw [show spotG cs sp = cs.length - 1 from if_neg (by rw [Int.toNat_natCast] at hpos; exact hpos)]; lia  ]
      k_steps
      exact .mk _ _ _ (by assumption) (by assumption)
  · intro h4 tk4 t4 FB NB
    have hfitG := hf.fitG
    have hlo := hf.lo
    have hhi := hf.hi
    clear FA NA
    generalize spotG cs sp = q at *
    rw [show (leastL cs L₀).getD q 0 = (leastL cs L₀).getD (q : Int).toNat 0 by rw [Int.toNat_natCast]] at hhi
    k_steps
    refine Stop.mk ?_
    rename_i D4 ws4 _ F4 N4 hI4 _
    have hI5 : IntsAre ws4 (grownL cs q) := by
      rw [show ((q : Int) + 1).toNat = q + 1 by lia  , Int.toNat_natCast] at hI4
      exact hI4
    k_dflt (refine' total_does prog w mean mg mb _ D4 ws4 0 (grownL cs q) L₀ tL ?m1 hI5 hfitG _ _ _ _ _ _ _ _ _ _ _ _ _ _ _ _ _ ?k1 ?k2 ?k3 ?k4 ?k5 ?kK ?kd ?ku ?_; walk_at "callto")
    (case m1 => k_mem)
    intro t5 h5 tk5 F5 N5
    have N6 : News g1 L1 _ ((la, W.listOf us.toArray k1) :: news) := fun p hp => N5 p (.tail _ (.tail _ (.tail _ (.tail _ (.tail _ hp)))))
    clear F4 N4 N5 hI4
    generalize TT (grownL cs q) L₀ = G at *
    k_steps
    walk_at "ecomp1"
    k_steps
    refine Stop.mk ?_
    rename Fr _ _ _ _ => F8
    rename News _ _ _ _ => N8
    refine src_list (nn := n) (JI ((la, W.listOf us.toArray k1) :: news) fun i => posL (cs.take i)) (by rfl) (by rfl) (by rfl) F8 N8 (.tail _ hC) (by lia  ) ?_ ⟨.nil⟩ ?_ ?_
    · rintro i ys nx ⟨_⟩
      exact .tail _ hC
    · intro i v ys nx h tk own C oC D m₂ E' hp hm1 hJ0 hoC F9 N9 hdis
      induction hJ0
      rename_i hys
      have hil : i < cs.length := by
        have := (List.getElem?_eq_some_iff.mp hp).1
        lia  
      obtain ⟨t2, hx2⟩ := hc.get i cs[i] (by simp [hil])
      have ex : v = .int cs[i] t2 := by rw [hp] at hx2; exact Option.some.inj hx2
      subst ex
      rw [List.cons_append, List.cons_append] at N9
      have e9 : cs.take (i + 1) = cs.take i ++ [cs[i]] := by rw [List.take_add_one, List.getElem?_eq_getElem hil]; rfl
      clear F8 N8
      show wpAny _ _ _ _ _ _
      by_cases hpos : 0 < cs[i]
      · k_steps
        refine endC _ F9 N9 ⟨?_⟩ (fun p hp => by rw [List.cons_append, List.cons_append] at hp; exact hp) hdis
        rw [e9]
        unfold posL at hys ⊢
        rw [List.filter_append]
        have e8 : List.filter (fun c => decide (0 < c)) [cs[i]] = [cs[i]] := by simp [hpos]
        rw [e8]
        exact ints_snoc hys _ _
      · k_steps
        refine endC _ F9 N9 ⟨?_⟩ (fun p hp => by rw [List.cons_append, List.cons_append] at hp; exact hp) hdis
        rw [e9]
        unfold posL at hys ⊢
        rw [List.filter_append]
        have e8 : List.filter (fun c => decide (0 < c)) [cs[i]] = [] := by simp [hpos]
        rw [e8, List.append_nil]
        exact hys
    · intro g ys nx hJ0
      induction hJ0
      rename_i hys
      rw [List.take_of_length_le (by lia  )] at hys
      intro D h9 tk9 F9 N9 hD
      clear F8 N8
      k_steps
      refine Stop.mk ?_
      refine my_sorted_ints F9 N9 (.head _) hys (by lia  ) fun D2 h10 vs10 k10 F10 N10 hD10 hI10 => ?_
      have N11 : News g1 L1 _ ((D2, W.listOf (List.toArray vs10) k10) :: (la, W.listOf us.toArray k1) :: news) := fun p hp => N10 p (by
        rcases List.mem_cons.mp hp with rfl | hp
        · exact .head _
        · exact .tail _ (.tail _ hp))
      have hl10 := hI10.length
      rw [isort_len] at hl10
      have hl11 : (isort (posL cs)).length = (posL cs).length := isort_len _
      clear F9 N9 N10
      have jon : JoinOn := ⟨⟩
      k_steps
      clear jon
      refine Stop.mk ?_
      rename_i Dr wr _ hIr lr _ _ _ _ _ _ F12 N12
      have hIr2 : IntsAre wr (restL cs) := hIr
      have hlr : wr.length = (restL cs).length := hIr2.length
      have hlr2 : (restL cs).length ≤ (posL cs).length := by unfold restL; rw [List.length_drop, hl11]; lia  
      have N13 : News g1 L1 _ ((Dr, W.listOf wr.toArray 0) :: (la, W.listOf us.toArray k1) :: news) := fun p hp => N12 p (by
        rcases List.mem_cons.mp hp with rfl | hp
        · exact .tail _ (.head _)
        · exact .tail _ (.tail _ (.tail _ hp)))
      clear N12
      refine cut_next (by exact F12) ((la, W.listOf us.toArray k1) :: news) ?_ ?_
      · obtain hlt | hlt := Decidable.em (((restL cs).length : Int) < 2 ^ ((L₀ : Int) - 1).toNat)
        · k_steps
          refine Stop.mk ?_
          rename_i _ _ _ D14 ws14 _ F14 N14 hI14 _
          have hltN : (restL cs).length < 2 ^ (L₀ - 1) := by
            rw [show ((L₀ : Int) - 1).toNat = L₀ - 1 by lia  ] at hlt
            exact_mod_cast hlt
          obtain ⟨hfJ, hjJ⟩ := hf.joined hltN
          rw [show ((L₀ : Int) - 1) = ((L₀ - 1 : Nat) : Int) by lia  ]
          k_dflt (refine' total_does prog w mean mg mb _ D14 ws14 0 ([bothL cs] ++ restL cs) (L₀ - 1) _ ?m1 hI14 hfJ _ _ _ _ _ _ _ _ _ _ _ _ _ _ _ _ _ ?k1 ?k2 ?k3 ?k4 ?k5 ?kK ?kd ?ku ?_; walk_at "callto")
          (case m1 => k_mem)
          intro t15 h15 tk15 F15 N15
          have hjj : TT cs L₀ ≤ (isort (posL cs)).getD (Int.toNat 0) 0 + (isort (posL cs)).getD (Int.toNat 1) 0 + TT ([bothL cs] ++ restL cs) (L₀ - 1) := hjJ
          clear F14 N14
          k_steps
          exact .mk _ _ (by assumption) (fun p hp => by
            rename News _ _ _ _ => N15
            exact N15 p (by rcases List.mem_cons.mp hp with rfl | hp <;> k_mem))
        · k_steps
          exact .mk _ _ (by assumption) (fun p hp => by
            rename News _ _ _ _ => N15
            exact N15 p (by rcases List.mem_cons.mp hp with rfl | hp <;> k_mem))
      · intro hD tkD FD ND
        clear F12 N13
        k_steps
        walk_at "ecomp0"
        k_steps
        refine Stop.mk ?_
        rename_i Dv wv _ F16 N16 hIv _ _
        have hlw := hIv.length
        rw [List.length_reverse] at hlw
        have hcr : cs.reverse.length = cs.length := List.length_reverse
        refine src_zip (n1 := n) (n2 := 0) (JI ((Dv, W.listOf wv.toArray 0) :: (la, W.listOf us.toArray k1) :: news) fun i => (List.zipWith (fun a b => a + b) cs cs.reverse).take i) (by rfl) (by rfl) (by rfl) (by decide) (by rfl) F16 N16 (.tail _ (.tail _ hC)) (.head _) (by lia  ) ?_ ⟨.nil⟩ ?_ ?_
        · rintro i ys nx ⟨_⟩
          exact ⟨.tail _ (.tail _ hC), .head _⟩
        · intro i u v ys nx h tk own C oC D m₂ E' hu hv hm1 hm2 hJ0 hoC F18 N18 hdis
          induction hJ0
          rename_i hys
          have hil : i < cs.length := by
            have := (List.getElem?_eq_some_iff.mp hu).1
            lia  
          have hil2 : i < cs.reverse.length := by lia  
          obtain ⟨t20, hx2⟩ := hc.get i cs[i] (by simp [hil])
          have ex : u = .int cs[i] t20 := by rw [hu] at hx2; exact Option.some.inj hx2
          subst ex
          obtain ⟨t21, hx3⟩ := hIv.get i cs.reverse[i] (List.getElem?_eq_getElem hil2)
          have ex : v = .int cs.reverse[i] t21 := by rw [hv] at hx3; exact Option.some.inj hx3
          subst ex
          have e9 : (List.zipWith (fun a b => a + b) cs cs.reverse)[i]? = some (cs[i] + cs.reverse[i]) := by
            rw [List.getElem?_zipWith, List.getElem?_eq_getElem hil, List.getElem?_eq_getElem hil2]
          generalize cs.reverse[i] = rv at *
          rw [List.cons_append, List.cons_append] at N18
          clear F16 N16
          show wpAny _ _ _ _ _ _
          k_steps
          refine endC _ F18 N18 ⟨?_⟩ (fun p hp => by rw [List.cons_append, List.cons_append] at hp; exact hp) hdis
          rw [List.take_add_one, e9]
          exact ints_snoc hys _ _
        · intro g ys nx hJ0
          induction hJ0
          rename_i hys
          rw [List.take_of_length_le (by rw [List.length_zipWith]; lia  )] at hys
          intro D20 h20 tk20 F20 N20 hD20
          clear F16 N16
          have hadd := hf.added
          k_steps
          refine Stop.mk ?_
          k_dflt (refine' total_does prog w mean mg mb _ D20 ys ys.length (List.zipWith (fun a b => a + b) cs cs.reverse) L₀ tL ?m1 hys hf.fitA _ _ _ _ _ _ _ _ _ _ _ _ _ _ _ _ _ ?k1 ?k2 ?k3 ?k4 ?k5 ?kK ?kd ?ku ?_; walk_at "callto")
          (case m1 => k_mem)
          intro t22 h22 tk22 F22 N22
          clear F20 N20
          k_steps
          rename_i kF kN _ _
          rw [decide_eq_true (show TT (List.zipWith (fun a b => a + b) cs cs.reverse) L₀ ≥ 2 * TT cs L₀ from hadd)]
          exact hret _ _ kF (fun p hp => kN p (by k_mem))
end
theorem tune_lawdef : True := by
  w_top off
  exact True.intro
def lowL (n : Nat) : Nat := ((List.range 9).filter fun k => decide (2 ^ k < n)).length
theorem lowL_lt : ∀ n, n < 11 → 3 ≤ n → lowL n < n ∧ 2 ≤ lowL n := by decide
structure LawOk (cs : List Int) : Prop where
  len : 3 ≤ cs.length ∧ cs.length ≤ 10
  fine : ∀ L, lowL cs.length ≤ L → L < cs.length → Fine cs L
  pos : ∀ L, lowL cs.length ≤ L → L < cs.length → 0 < TT cs L
  join : ∀ L, lowL cs.length ≤ L → L < cs.length → (posL cs).length - 1 ≤ L → TT cs L = joinedL cs
  mono : ∀ L L', lowL cs.length ≤ L → L ≤ L' → L' < cs.length → TT cs L' ≤ TT cs L
  same : ∀ L sp more, lowL cs.length ≤ L → L < cs.length → sp < cs.length → 2 ≤ more → more ≤ 60 → SameOk cs L sp more
  grown : ∀ L sp, lowL cs.length ≤ L → L < cs.length → sp < cs.length → GrownOk cs L sp
def lawCs (sc : List Int) : List Int := ((sc.take 7).map fun c => ((c.natAbs : Int)) % 64) ++ [1, 2, 5]
section
set_option maxHeartbeats 8000000
/-! sums over the first n places -/
def sm : Nat → (Nat → Int) → Int
  | 0, _ => 0
  | n + 1, f => sm n f + f n
theorem sm_congr {f g : Nat → Int} : ∀ n, (∀ j, j < n → f j = g j) → sm n f = sm n g
  | 0, _ => rfl
  | n + 1, h => by
    show sm n f + f n = sm n g + g n
    rw [sm_congr n fun j hj => h j (by lia  ), h n (by lia  )]
theorem sm_le {f g : Nat → Int} : ∀ n, (∀ j, j < n → f j ≤ g j) → sm n f ≤ sm n g
  | 0, _ => Int.le_refl _
  | n + 1, h => by
    show sm n f + f n ≤ sm n g + g n
    have h1 := sm_le n fun j hj => h j (by lia  )
    have h2 := h n (by lia  )
    lia  
theorem sm_add {f g : Nat → Int} : ∀ n, sm n (fun j => f j + g j) = sm n f + sm n g
  | 0 => rfl
  | n + 1 => by
    show sm n (fun j => f j + g j) + (f n + g n) = sm n f + f n + (sm n g + g n)
    rw [sm_add n]
    lia  
theorem sm_mul {f : Nat → Int} (c : Int) : ∀ n, sm n (fun j => c * f j) = c * sm n f
  | 0 => (Int.mul_zero c).symm
  | n + 1 => by
    show sm n (fun j => c * f j) + c * f n = c * (sm n f + f n)
    rw [sm_mul c n, Int.mul_add]
theorem sm_const (c : Int) : ∀ n, sm n (fun _ => c) = n * c
  | 0 => by simp [sm]
  | n + 1 => by
    show sm n (fun _ => c) + c = _
    rw [sm_const c n, Int.natCast_add, Int.add_mul]
    simp
theorem sm_lt (t : Nat) (c : Int) : ∀ n, t ≤ n → sm n (fun j => if j < t then c else 0) = t * c
  | 0, h => by
    have : t = 0 := by lia  
    subst this
    simp [sm]
  | n + 1, h => by
    show sm n (fun j => if j < t then c else 0) + (if n < t then c else 0) = t * c
    by_cases ht : t ≤ n
    · rw [sm_lt t c n ht, if_neg (by lia  ), Int.add_zero]
    · have : t = n + 1 := by lia  
      subst this
      rw [if_pos (by lia  ), sm_congr (g := fun _ => c) n (fun j hj => if_pos (by lia  )), sm_const, Int.natCast_add, Int.add_mul]
      simp
/-- the first t of a list, as a sum over places -/
theorem sm_take (w : List Int) (t : Nat) : ∀ n, n ≤ w.length → sm n (fun j => if j < t then w.getD j 0 else 0) = (w.take (min t n)).sum
  | 0, _ => by simp [sm]
  | n + 1, h => by
    show sm n (fun j => if j < t then w.getD j 0 else 0) + (if n < t then w.getD n 0 else 0) = _
    rw [sm_take w t n (by lia  )]
    by_cases ht : n < t
    · have e1 : w.take (n + 1) = w.take n ++ [w[n]] := by rw [List.take_add_one, List.getElem?_eq_getElem (by lia  )]; rfl
      have e2 : w.getD n 0 = w[n] := by rw [List.getD_eq_getElem?_getD, List.getElem?_eq_getElem (by lia  )]; rfl
      rw [if_pos ht, show min t n = n by lia  , show min t (n + 1) = n + 1 by lia  , e1, e2, List.sum_append]
      simp
    · rw [if_neg ht, show min t n = t by lia  , show min t (n + 1) = t by lia  , Int.add_zero]

/-! the merged row -/
theorem merge_take : ∀ (ws ps : List Int) (m : Nat), m ≤ (mergeL ws ps).length →
    (((mergeL ws ps).map (·.1)).take m).count true ≤ ws.length ∧ (((mergeL ws ps).map (·.1)).take m).count true ≤ m ∧ m - (((mergeL ws ps).map (·.1)).take m).count true ≤ ps.length ∧
    (((mergeL ws ps).map (·.2)).take m).sum = (ws.take ((((mergeL ws ps).map (·.1)).take m).count true)).sum + (ps.take (m - (((mergeL ws ps).map (·.1)).take m).count true)).sum
  | [], ps, m, h => by
    have e : mergeL [] ps = ps.map fun p => (false, p) := by simp [mergeL]
    rw [e] at h ⊢
    have e1 : (((ps.map fun p => (false, p)).map (·.1)).take m).count true = 0 := by
      rw [List.count_eq_zero]
      intro hm
      have := List.mem_of_mem_take hm
      simp at this
    rw [e1]
    have e2 : (ps.map fun p => (false, p)).map (·.2) = ps := by
      rw [List.map_map]
      exact List.map_id ps
    rw [e2]
    simp only [List.length_map] at h
    simp
    lia  
  | w :: ws, [], m, h => by
    have e : mergeL (w :: ws) [] = (w :: ws).map fun p => (true, p) := by simp [mergeL]
    rw [e] at h ⊢
    simp only [List.length_map] at h
    have e0 : ((w :: ws).map fun p => (true, p)).map (·.1) = List.replicate (w :: ws).length true := by
      rw [List.map_map]
      exact List.map_const' ..
    have e1 : ((((w :: ws).map fun p => (true, p)).map (·.1)).take m).count true = m := by
      rw [e0, List.take_replicate, List.count_replicate_self]
      lia  
    rw [e1]
    have e2 : ((w :: ws).map fun p => (true, p)).map (·.2) = w :: ws := by
      rw [List.map_map]
      exact List.map_id (w :: ws)
    rw [e2]
    refine ⟨h, Nat.le_refl _, by simp, by simp⟩
  | w :: ws, p :: ps, 0, h => by simp
  | w :: ws, p :: ps, m + 1, h => by
    unfold mergeL at h ⊢
    by_cases hle : w ≤ p
    · rw [if_pos hle] at h ⊢
      obtain ⟨h1, h2, h3, h4⟩ := merge_take ws (p :: ps) m (by simpa using h)
      simp only [List.map_cons, List.take_succ_cons, List.count_cons, beq_self_eq_true, if_true, List.sum_cons, List.length_cons] at *
      refine ⟨by lia  , by lia  , by lia  , ?_⟩
      rw [h4, show m + 1 - (List.count true (List.take m (List.map (fun x => x.1) (mergeL ws (p :: ps)))) + 1) = m - List.count true (List.take m (List.map (fun x => x.1) (mergeL ws (p :: ps)))) by lia  ]
      lia  
    · rw [if_neg hle] at h ⊢
      obtain ⟨h1, h2, h3, h4⟩ := merge_take (w :: ws) ps m (by simpa using h)
      have hft : (false == true) = false := rfl
      simp only [List.map_cons, List.take_succ_cons, List.count_cons, hft, Bool.false_eq_true, if_false, List.sum_cons, List.length_cons, Nat.add_zero] at *
      refine ⟨by lia  , by lia  , by lia  , ?_⟩
      rw [h4, show m + 1 - List.count true (List.take m (List.map (fun x => x.1) (mergeL (w :: ws) ps))) = (m - List.count true (List.take m (List.map (fun x => x.1) (mergeL (w :: ws) ps)))) + 1 by lia  , List.take_succ_cons, List.sum_cons]
      lia  
termination_by ws ps => ws.length + ps.length

theorem pairs_take : ∀ (r : List Int) (j : Nat), 2 * j ≤ r.length → ((pairsL r).take j).sum = (r.take (2 * j)).sum
  | _, 0, _ => by simp
  | [], j + 1, h => by simp at h
  | [_], j + 1, h => by simp at h; lia  
  | a :: b :: r, j + 1, h => by
    simp only [List.length_cons] at h
    rw [show 2 * (j + 1) = 2 * j + 1 + 1 by lia  ]
    simp only [pairsL, List.take_succ_cons, List.sum_cons]
    rw [pairs_take r j (by lia  )]
    lia  

/-! the rows, as weights -/
def rw' (w : List Int) (k : Nat) : List Int := (rowAt w k).map (·.2)
def rb' (w : List Int) (k : Nat) : List Bool := (rowAt w k).map (·.1)
theorem rw_succ (w : List Int) (k : Nat) : rw' w (k + 1) = (mergeL w (pairsL (rw' w k))).map (·.2) := rfl
theorem rb_succ (w : List Int) (k : Nat) : rb' w (k + 1) = (mergeL w (pairsL (rw' w k))).map (·.1) := rfl
theorem rw_len (w : List Int) (k : Nat) : (rw' w (k + 1)).length = w.length + (rw' w k).length / 2 := by
  rw [rw_succ, List.length_map, mergeL_len, pairsL_len]
/-- the weight of the first m of a row -/
def SS (w : List Int) (k m : Nat) : Int := ((rw' w k).take m).sum
/-- how many leaves lie among the first m of a row -/
def TC (w : List Int) (k m : Nat) : Nat := ((rb' w k).take m).count true
theorem SS_succ {w : List Int} {k m : Nat} (h : m ≤ (rw' w (k + 1)).length) :
    TC w (k + 1) m ≤ w.length ∧ TC w (k + 1) m ≤ m ∧ 2 * (m - TC w (k + 1) m) ≤ (rw' w k).length ∧ SS w (k + 1) m = (w.take (TC w (k + 1) m)).sum + SS w k (2 * (m - TC w (k + 1) m)) := by
  unfold SS TC
  rw [rw_succ, rb_succ]
  rw [rw_succ, List.length_map] at h
  obtain ⟨h1, h2, h3, h4⟩ := merge_take w (pairsL (rw' w k)) m h
  rw [pairsL_len] at h3
  refine ⟨h1, h2, by lia  , ?_⟩
  rw [h4, pairs_take _ _ (by lia  )]

def runL (w : List Int) : Nat → List Int × Nat → List Int × Nat
  | 0, st => st
  | k + 1, st => runL w k (stepL st (rb' w (k + 1)))
theorem depths_run (w : List Int) (L : Nat) : depthsL w L = (runL w L (List.replicate w.length 0, 2 * w.length - 2)).1 := by
  have h : ∀ (K : Nat) (st : List Int × Nat), (((List.range K).map fun k => (rowAt w (k + 1)).map (·.1)).reverse).foldl stepL st = runL w K st := by
    intro K
    induction K with
    | zero => exact fun _ => rfl
    | succ K ih =>
      intro st
      rw [List.range_succ, List.map_append, List.reverse_append]
      exact ih (stepL st (rb' w (K + 1)))
  unfold depthsL
  rw [h]

theorem bump_get {t j : Nat} {ds : List Int} (hj : j < ds.length) : (bumpL t ds).getD j 0 = ds.getD j 0 + (if j < t then 1 else 0) := by
  unfold bumpL
  rw [List.getD_eq_getElem?_getD, List.getD_eq_getElem?_getD]
  by_cases h : j < t
  · rw [List.getElem?_append_left (by rw [List.length_map, List.length_take]; lia  ), List.getElem?_map, List.getElem?_take, if_pos h, if_pos h, List.getElem?_eq_getElem hj]
    rfl
  · rw [List.getElem?_append_right (by rw [List.length_map, List.length_take]; lia  ), List.getElem?_drop, List.length_map, List.length_take, if_neg h, Int.add_zero]
    congr 2
    lia  
theorem bump_len (t : Nat) (ds : List Int) : (bumpL t ds).length = ds.length := by
  unfold bumpL
  rw [List.length_append, List.length_map, ← List.length_append, List.take_append_drop]

def P2 (k : Nat) : Int := 2 ^ k
theorem P2_succ (k : Nat) : P2 (k + 1) = 2 * P2 k := by
  unfold P2
  rw [Int.pow_succ, Int.mul_comm]
theorem P2_pos (k : Nat) : 0 < P2 k := Int.pow_pos (by decide)

theorem run_ok (w : List Int) (n : Nat) (hn : w.length = n) : ∀ (K : Nat) (ds : List Int) (m : Nat), ds.length = n → m ≤ (rw' w K).length →
    ∃ e u : Nat → Nat, (runL w K (ds, m)).1.length = n ∧ (∀ j, j < n → (runL w K (ds, m)).1.getD j 0 = ds.getD j 0 + (e j : Int)) ∧ (∀ j, e j ≤ K) ∧ (∀ i j, i ≤ j → e j ≤ e i) ∧
      sm n (fun j => (u j : Int)) = (m : Int) * P2 K ∧ (∀ j, (u j : Int) + P2 (K + 1 - e j) ≤ P2 (K + 1)) ∧ sm n (fun j => w.getD j 0 * (e j : Int)) = SS w K m
  | 0, ds, m, hd, hm => by
    have hm0 : m = 0 := by
      have : (rw' w 0).length = 0 := rfl
      lia  
    subst hm0
    refine ⟨fun _ => 0, fun _ => 0, hd, fun j _ => by simp [runL], fun _ => Nat.le_refl _, fun _ _ _ => Nat.le_refl _, ?_, fun _ => by simp, ?_⟩
    · rw [sm_const]
      simp
    · rw [sm_congr (g := fun _ => 0) n (fun j _ => by simp), sm_const]
      simp [SS]
  | K + 1, ds, m, hd, hm => by
    obtain ⟨h1, h2, h3, h4⟩ := SS_succ hm
    have hstep : stepL (ds, m) (rb' w (K + 1)) = (bumpL (TC w (K + 1) m) ds, 2 * (m - TC w (K + 1) m)) := rfl
    obtain ⟨e, u, r1, r2, r3, r4, r5, r6, r7⟩ := run_ok w n hn K (bumpL (TC w (K + 1) m) ds) (2 * (m - TC w (K + 1) m)) (by rw [bump_len]; exact hd) h3
    generalize ht : TC w (K + 1) m = t at *
    refine ⟨fun j => e j + (if j < t then 1 else 0), fun j => u j + (if j < t then 2 ^ (K + 1) else 0), ?_, ?_, ?_, ?_, ?_, ?_, ?_⟩
    · show (runL w K (stepL (ds, m) (rb' w (K + 1)))).1.length = n
      rw [hstep]
      exact r1
    · intro j hj
      show (runL w K (stepL (ds, m) (rb' w (K + 1)))).1.getD j 0 = _
      rw [hstep, r2 j hj, bump_get (by lia  )]
      by_cases hjt : j < t
      · simp only [if_pos hjt]; lia  
      · simp only [if_neg hjt]; lia  
    · intro j
      have := r3 j
      dsimp only
      split <;> lia  
    · intro i j hij
      have := r4 i j hij
      dsimp only
      by_cases hj : j < t
      · rw [if_pos hj, if_pos (by lia  )]; lia  
      · rw [if_neg hj]; lia  
    · rw [sm_congr (g := fun j => (u j : Int) + (if j < t then P2 (K + 1) else 0)) n (fun j _ => by
        by_cases hj : j < t
        · simp only [if_pos hj, Int.natCast_add, P2, Int.natCast_pow]; rfl
        · simp [if_neg hj]), sm_add, r5, sm_lt t _ n (by lia  ), P2_succ]
      have : ((2 * (m - t) : Nat) : Int) = 2 * (m : Int) - 2 * (t : Int) := by lia  
      rw [this, Int.sub_mul, ← Int.mul_assoc, ← Int.mul_assoc, Int.mul_comm 2 (m : Int), Int.mul_comm 2 (t : Int), Int.mul_assoc, Int.mul_assoc]
      lia  
    · intro j
      have a := r6 j
      have b := r3 j
      dsimp only
      by_cases hj : j < t
      · rw [if_pos hj, if_pos hj, show K + 1 + 1 - (e j + 1) = K + 1 - e j by lia  , P2_succ (K + 1)]
        have : ((u j + 2 ^ (K + 1) : Nat) : Int) = (u j : Int) + P2 (K + 1) := by simp only [Int.natCast_add, P2, Int.natCast_pow]; rfl
        rw [this]
        lia  
      · rw [if_neg hj, if_neg hj, show K + 1 + 1 - (e j + 0) = (K + 1 - e j) + 1 by lia  , P2_succ, P2_succ (K + 1), Nat.add_zero]
        have c : P2 (K + 1 - e j) ≤ P2 (K + 1) := by
          have : 0 ≤ (u j : Int) := Int.natCast_nonneg _
          lia  
        lia  
    · rw [sm_congr (g := fun j => w.getD j 0 * (e j : Int) + (if j < t then w.getD j 0 else 0)) n (fun j _ => by
        by_cases hj : j < t
        · simp only [if_pos hj, Int.natCast_add, Int.mul_add]; simp
        · simp [if_neg hj]), sm_add, r7, sm_take w t n (by lia  ), h4, show min t n = t by lia  ]
      lia  
end
section
set_option maxHeartbeats 8000000
abbrev Up (l : List Int) : Prop := l.Pairwise (· ≤ ·)
theorem up_take_le {l : List Int} (h0 : ∀ x ∈ l, 0 ≤ x) {i j : Nat} (hij : i ≤ j) : (l.take i).sum ≤ (l.take j).sum := by
  have e : l.take j = l.take i ++ (l.drop i).take (j - i) := by
    rw [← List.take_add]
    congr 1
    lia  
  rw [e, List.sum_append]
  have : ∀ (k : List Int), (∀ x ∈ k, 0 ≤ x) → 0 ≤ k.sum := by
    intro k
    induction k with
    | nil => intro _; simp
    | cons a k ih =>
      intro hk
      rw [List.sum_cons]
      have h1 := hk a List.mem_cons_self
      have h2 := ih fun x hx => hk x (List.mem_cons_of_mem _ hx)
      lia  
  have := this ((l.drop i).take (j - i)) fun x hx => h0 x (List.mem_of_mem_drop (List.mem_of_mem_take hx))
  lia  
theorem sum_nonneg : ∀ (k : List Int), (∀ x ∈ k, 0 ≤ x) → 0 ≤ k.sum
  | [], _ => by simp
  | a :: k, hk => by
    rw [List.sum_cons]
    have h1 := hk a List.mem_cons_self
    have h2 := sum_nonneg k fun x hx => hk x (List.mem_cons_of_mem _ hx)
    lia  
/-- a head below all: the first j+1 are at least the head and the first j -/
theorem up_first {w : Int} {ps : List Int} (hp : Up ps) (hw : ∀ x ∈ ps, w ≤ x) : ∀ j, j < ps.length → w + (ps.take j).sum ≤ (ps.take (j + 1)).sum := by
  intro j hj
  rw [List.take_add_one, List.getElem?_eq_getElem hj, List.sum_append]
  have := hw _ (List.getElem_mem hj)
  simp
  lia  
theorem merge_mem : ∀ (ws ps : List Int) (x : Int), x ∈ (mergeL ws ps).map (·.2) → x ∈ ws ∨ x ∈ ps
  | [], ps, x, h => by
    have e : mergeL [] ps = ps.map fun p => (false, p) := by simp [mergeL]
    rw [e] at h
    simp at h
    exact .inr h
  | w :: ws, [], x, h => by
    have e : mergeL (w :: ws) [] = (w :: ws).map fun p => (true, p) := by simp [mergeL]
    rw [e, List.map_map] at h
    obtain ⟨y, hy, rfl⟩ := List.mem_map.mp h
    exact .inl hy
  | w :: ws, p :: ps, x, h => by
    unfold mergeL at h
    split at h
    · rw [List.map_cons] at h
      rcases List.mem_cons.mp h with rfl | h
      · exact .inl List.mem_cons_self
      · rcases merge_mem ws (p :: ps) x h with h | h
        · exact .inl (List.mem_cons_of_mem _ h)
        · exact .inr h
    · rw [List.map_cons] at h
      rcases List.mem_cons.mp h with rfl | h
      · exact .inr List.mem_cons_self
      · rcases merge_mem (w :: ws) ps x h with h | h
        · exact .inl h
        · exact .inr (List.mem_cons_of_mem _ h)
termination_by ws ps => ws.length + ps.length
theorem merge_up : ∀ (ws ps : List Int), Up ws → Up ps → Up ((mergeL ws ps).map (·.2))
  | [], ps, _, h => by
    have e : mergeL [] ps = ps.map fun p => (false, p) := by simp [mergeL]
    rw [e, List.map_map]
    have e2 : List.map ((fun x => x.2) ∘ fun p => ((false, p) : Bool × Int)) ps = ps := List.map_id ps
    rw [e2]
    exact h
  | w :: ws, [], h, _ => by
    have e : mergeL (w :: ws) [] = (w :: ws).map fun p => (true, p) := by simp [mergeL]
    rw [e, List.map_map]
    have e2 : List.map ((fun x => x.2) ∘ fun p => ((true, p) : Bool × Int)) (w :: ws) = w :: ws := List.map_id (w :: ws)
    rw [e2]
    exact h
  | w :: ws, p :: ps, hw, hp => by
    have hw' := List.pairwise_cons.mp hw
    have hp' := List.pairwise_cons.mp hp
    unfold mergeL
    split
    · rename_i hle
      rw [List.map_cons]
      refine List.pairwise_cons.mpr ⟨fun x hx => ?_, merge_up ws (p :: ps) hw'.2 hp⟩
      rcases merge_mem _ _ _ hx with h | h
      · exact hw'.1 x h
      · rcases List.mem_cons.mp h with rfl | h
        · exact hle
        · exact Int.le_trans hle (hp'.1 x h)
    · rename_i hle
      rw [List.map_cons]
      refine List.pairwise_cons.mpr ⟨fun x hx => ?_, merge_up (w :: ws) ps hw hp'.2⟩
      rcases merge_mem _ _ _ hx with h | h
      · rcases List.mem_cons.mp h with rfl | h
        · show p ≤ x; lia  
        · have := hw'.1 x h; show p ≤ x; lia  
      · exact hp'.1 x h
termination_by ws ps => ws.length + ps.length
theorem pairs_mem_ge {b : Int} : ∀ (r : List Int), (∀ x ∈ r, b ≤ x) → ∀ y ∈ pairsL r, b + b ≤ y
  | [], _, y, h => by simp [pairsL] at h
  | [_], _, y, h => by simp [pairsL] at h
  | a :: c :: r, hb, y, h => by
    simp only [pairsL] at h
    rcases List.mem_cons.mp h with rfl | h
    · have h1 := hb a List.mem_cons_self
      have h2 := hb c (List.mem_cons_of_mem _ List.mem_cons_self)
      lia  
    · exact pairs_mem_ge r (fun x hx => hb x (List.mem_cons_of_mem _ (List.mem_cons_of_mem _ hx))) y h
theorem pairs_up : ∀ (r : List Int), Up r → Up (pairsL r)
  | [], _ => by simp [pairsL]
  | [_], _ => by simp [pairsL]
  | a :: c :: r, h => by
    have h1 := List.pairwise_cons.mp h
    have h2 := List.pairwise_cons.mp h1.2
    simp only [pairsL]
    refine List.pairwise_cons.mpr ⟨fun y hy => ?_, pairs_up r h2.2⟩
    have h3 := h1.1 c List.mem_cons_self
    have h4 := pairs_mem_ge r h2.1 y hy
    lia  
theorem row_up {w : List Int} (hw : Up w) : ∀ k, Up (rw' w k)
  | 0 => List.Pairwise.nil
  | k + 1 => by
    rw [rw_succ]
    exact merge_up w _ hw (pairs_up _ (row_up hw k))
/-- the first of a merged row are no more than any so many firsts of the two -/
theorem merge_min : ∀ (ws ps : List Int), Up ws → Up ps → ∀ i j, i ≤ ws.length → j ≤ ps.length → (((mergeL ws ps).map (·.2)).take (i + j)).sum ≤ (ws.take i).sum + (ps.take j).sum
  | [], ps, _, _, i, j, hi, hj => by
    have e : mergeL [] ps = ps.map fun p => (false, p) := by simp [mergeL]
    have e2 : List.map ((fun x => x.2) ∘ fun p => ((false, p) : Bool × Int)) ps = ps := List.map_id ps
    rw [e, List.map_map, e2]
    have : i = 0 := by simpa using hi
    subst this
    simp
  | w :: ws, [], _, _, i, j, hi, hj => by
    have e : mergeL (w :: ws) [] = (w :: ws).map fun p => (true, p) := by simp [mergeL]
    have e2 : List.map ((fun x => x.2) ∘ fun p => ((true, p) : Bool × Int)) (w :: ws) = w :: ws := List.map_id (w :: ws)
    rw [e, List.map_map, e2]
    have : j = 0 := by simpa using hj
    subst this
    simp
  | w :: ws, p :: ps, hw, hp, i, j, hi, hj => by
    have hw' := List.pairwise_cons.mp hw
    have hp' := List.pairwise_cons.mp hp
    unfold mergeL
    by_cases hle : w ≤ p
    · rw [if_pos hle, List.map_cons]
      cases i with
      | succ i =>
        rw [show i + 1 + j = (i + j) + 1 by lia  , List.take_succ_cons, List.take_succ_cons, List.sum_cons, List.sum_cons]
        have := merge_min ws (p :: ps) hw'.2 hp i j (by simpa using hi) hj
        show w + _ ≤ _
        lia  
      | zero =>
        cases j with
        | zero => simp
        | succ j =>
          rw [show 0 + (j + 1) = (0 + j) + 1 by lia  , List.take_succ_cons, List.sum_cons]
          have h1 := merge_min ws (p :: ps) hw'.2 hp 0 j (by lia  ) (by lia  )
          have h2 := up_first (w := w) hp (fun x hx => by
            rcases List.mem_cons.mp hx with rfl | hx
            · exact hle
            · exact Int.le_trans hle (hp'.1 x hx)) j (by lia  )
          simp only [List.take_zero, List.sum_nil] at h1 ⊢
          show w + _ ≤ _
          lia  
    · rw [if_neg hle, List.map_cons]
      cases j with
      | succ j =>
        rw [show i + (j + 1) = (i + j) + 1 by lia  , List.take_succ_cons, List.take_succ_cons, List.sum_cons, List.sum_cons]
        have := merge_min (w :: ws) ps hw hp'.2 i j hi (by simpa using hj)
        show p + _ ≤ _
        lia  
      | zero =>
        cases i with
        | zero => simp
        | succ i =>
          rw [Nat.add_zero (i + 1), List.take_succ_cons, List.sum_cons]
          have h1 := merge_min (w :: ws) ps hw hp'.2 i 0 (by lia  ) (by lia  )
          have h2 := up_first (w := p) hw (fun x hx => by
            rcases List.mem_cons.mp hx with rfl | hx
            · lia  
            · have := hw'.1 x hx; lia  ) i (by lia  )
          simp only [List.take_zero, List.sum_nil, Nat.add_zero] at h1 ⊢
          show p + _ ≤ _
          lia  
termination_by ws ps => ws.length + ps.length

/-- the lower bound: counts by level that fill m places of row K -/
theorem lower {w : List Int} (hw : Up w) (h0 : ∀ x ∈ w, 0 ≤ x) (c : Nat → Nat) (hc : ∀ k, c k ≤ w.length) : ∀ (K m : Nat), (m : Int) * P2 K ≤ sm K (fun i => (c i : Int) * P2 (i + 1)) →
    m ≤ (rw' w K).length ∧ SS w K m ≤ sm K (fun i => (w.take (c i)).sum)
  | 0, m, h => by
    have : m = 0 := by
      simp [sm, P2] at h
      lia  
    subst this
    exact ⟨Nat.zero_le _, by simp [SS, sm]⟩
  | K + 1, m, h => by
    have hps := pairs_up _ (row_up hw K)
    by_cases hcm : m ≤ c K
    · have hlen : m ≤ (rw' w (K + 1)).length := by
        rw [rw_len]
        have := hc K
        lia  
      refine ⟨hlen, ?_⟩
      have h1 := merge_min w (pairsL (rw' w K)) hw hps m 0 (by have := hc K; lia  ) (Nat.zero_le _)
      have h2 : (w.take m).sum ≤ (w.take (c K)).sum := up_take_le h0 hcm
      have h3 : 0 ≤ sm K (fun i => (w.take (c i)).sum) := by
        have := sm_le (f := fun _ => 0) (g := fun i => (w.take (c i)).sum) K (fun j _ => sum_nonneg _ fun x hx => h0 x (List.mem_of_mem_take hx))
        rw [sm_const] at this
        simpa using this
      show SS w (K + 1) m ≤ sm K (fun i => (w.take (c i)).sum) + (w.take (c K)).sum
      unfold SS
      rw [rw_succ]
      simp only [Nat.add_zero, List.take_zero, List.sum_nil, Int.add_zero] at h1
      lia  
    · have hlt : c K < m := by lia  
      have h1 : ((2 * (m - c K) : Nat) : Int) * P2 K ≤ sm K (fun i => (c i : Int) * P2 (i + 1)) := by
        have h2 : (m : Int) * P2 (K + 1) ≤ sm K (fun i => (c i : Int) * P2 (i + 1)) + (c K : Int) * P2 (K + 1) := h
        have e1 : ((2 * (m - c K) : Nat) : Int) = 2 * ((m : Int) - (c K : Int)) := by lia  
        rw [e1, Int.mul_comm 2, Int.mul_assoc, ← P2_succ, Int.sub_mul]
        lia  
      obtain ⟨h2, h3⟩ := lower hw h0 c hc K (2 * (m - c K)) h1
      have h4 : m - c K ≤ (pairsL (rw' w K)).length := by rw [pairsL_len]; lia  
      refine ⟨by rw [rw_len]; have := hc K; lia  , ?_⟩
      have h5 := merge_min w (pairsL (rw' w K)) hw hps (c K) (m - c K) (hc K) h4
      rw [pairs_take _ _ (by lia  ), show c K + (m - c K) = m by lia  ] at h5
      show SS w (K + 1) m ≤ sm K (fun i => (w.take (c i)).sum) + (w.take (c K)).sum
      unfold SS at h3 ⊢
      rw [rw_succ]
      lia  
end
section
set_option maxHeartbeats 8000000
theorem perm_sum {a b : List Int} (h : a.Perm b) : a.sum = b.sum := by
  induction h with
  | nil => rfl
  | cons x _ ih => rw [List.sum_cons, List.sum_cons, ih]
  | swap x y l => simp only [List.sum_cons]; lia  
  | trans _ _ ih1 ih2 => exact ih1.trans ih2
theorem sub_sum : ∀ (w s t : List Int), Up w → w.Perm (s ++ t) → (w.take s.length).sum ≤ s.sum
  | [], s, t, _, hp => by
    have : s ++ t = [] := hp.symm.eq_nil
    have hs : s = [] := List.append_eq_nil_iff.mp this |>.1
    subst hs
    simp
  | a :: w, s, t, hu, hp => by
    have hu' := List.pairwise_cons.mp hu
    cases s with
    | nil => simp
    | cons x s =>
      have hmem : a ∈ (x :: s) ++ t := hp.mem_iff.mp List.mem_cons_self
      rw [List.length_cons, List.take_succ_cons, List.sum_cons]
      rcases List.mem_append.mp hmem with ha | ha
      · have hpe : (x :: s).Perm (a :: (x :: s).erase a) := List.perm_cons_erase ha
        have hp2 : (a :: w).Perm (a :: ((x :: s).erase a ++ t)) := hp.trans (hpe.append_right t)
        have ih := sub_sum w ((x :: s).erase a) t hu'.2 (List.Perm.cons_inv hp2)
        have hlen : ((x :: s).erase a).length = s.length := by
          have := hpe.length_eq
          simpa using this.symm
        have hsum : (x :: s).sum = a + ((x :: s).erase a).sum := by
          have h9 : (x :: s).sum = (a :: (x :: s).erase a).sum := perm_sum hpe
          rw [h9, List.sum_cons]
        rw [hlen] at ih
        lia  
      · have hpe : t.Perm (a :: t.erase a) := List.perm_cons_erase ha
        have hp2 : (a :: w).Perm (a :: (s ++ (x :: t.erase a))) := by
          refine hp.trans ((hpe.append_left (x :: s)).trans ?_)
          have h1 : ((x :: s) ++ a :: t.erase a).Perm (a :: ((x :: s) ++ t.erase a)) := List.perm_middle
          refine h1.trans (List.Perm.cons _ ?_)
          exact (List.perm_middle (a := x) (l₁ := s) (l₂ := t.erase a)).symm
        have ih := sub_sum w s (x :: t.erase a) hu'.2 (List.Perm.cons_inv hp2)
        have hax : a ≤ x := by
          have : x ∈ a :: w := hp.mem_iff.mpr (List.mem_append_left _ List.mem_cons_self)
          rcases List.mem_cons.mp this with rfl | h
          · exact Int.le_refl _
          · exact hu'.1 x h
        rw [List.sum_cons]
        lia  

theorem one_cond (L l : Nat) (hl : l ≤ L) : ∀ K, K ≤ L → sm K (fun i => if L - i ≤ l then P2 (i + 1) else 0) = if K ≤ L - l then 0 else P2 (K + 1) - P2 (L + 1 - l)
  | 0, _ => by rw [if_pos (by lia  )]; rfl
  | K + 1, hK => by
    show sm K (fun i => if L - i ≤ l then P2 (i + 1) else 0) + (if L - K ≤ l then P2 (K + 1) else 0) = _
    rw [one_cond L l hl K (by lia  )]
    by_cases h1 : K + 1 ≤ L - l
    · rw [if_pos (by lia  ), if_neg (by lia  ), if_pos h1]; rfl
    · rw [if_neg h1, if_pos (show L - K ≤ l by lia  )]
      by_cases h2 : K ≤ L - l
      · rw [if_pos h2, show L + 1 - l = K + 1 by lia  , P2_succ (K + 1)]
        lia  
      · rw [if_neg h2, P2_succ (K + 1)]
        lia  
theorem one_sum (L l : Nat) (c : Int) (hl : l ≤ L) : ∀ K, K ≤ L → sm K (fun i => if L - i ≤ l then c else 0) = if K ≤ L - l then 0 else ((K - (L - l) : Nat) : Int) * c
  | 0, _ => by rw [if_pos (by lia  )]; rfl
  | K + 1, hK => by
    show sm K (fun i => if L - i ≤ l then c else 0) + (if L - K ≤ l then c else 0) = _
    rw [one_sum L l c hl K (by lia  )]
    by_cases h1 : K + 1 ≤ L - l
    · rw [if_pos (by lia  ), if_neg (by lia  ), if_pos h1]; rfl
    · rw [if_neg h1, if_pos (show L - K ≤ l by lia  )]
      by_cases h2 : K ≤ L - l
      · rw [if_pos h2, show K + 1 - (L - l) = 1 by lia  ]
        simp
      · rw [if_neg h2, show K + 1 - (L - l) = (K - (L - l)) + 1 by lia  , Int.natCast_add, Int.add_mul]
        simp
theorem one_cond' {L l : Nat} (hl : l ≤ L) : sm L (fun i => if L - i ≤ l then P2 (i + 1) else 0) = 2 * P2 L - 2 * P2 (L - l) := by
  rw [one_cond L l hl L (Nat.le_refl _)]
  by_cases h : l = 0
  · subst h
    rw [if_pos (by lia  ), Nat.sub_zero]
    lia  
  · rw [if_neg (by lia  ), show L + 1 - l = (L - l) + 1 by lia  , P2_succ, P2_succ]
theorem one_sum' {L l : Nat} (c : Int) (hl : l ≤ L) : sm L (fun i => if L - i ≤ l then c else 0) = c * (l : Int) := by
  rw [one_sum L l c hl L (Nat.le_refl _)]
  by_cases h : l = 0
  · subst h
    rw [if_pos (by lia  )]
    simp
  · rw [if_neg (by lia  ), show L - (L - l) = l by lia  , Int.mul_comm]

def ksum (L : Nat) (X : List (Int × Nat)) : Int := (X.map fun p => P2 (L - p.2)).sum
def wsum (X : List (Int × Nat)) : Int := (X.map fun p => p.1 * (p.2 : Int)).sum
def cnt (L : Nat) (X : List (Int × Nat)) (i : Nat) : List (Int × Nat) := X.filter fun p => decide (L - i ≤ p.2)
theorem cnt_sum (L : Nat) : ∀ (X : List (Int × Nat)), (∀ p ∈ X, p.2 ≤ L) → sm L (fun i => ((cnt L X i).length : Int) * P2 (i + 1)) = (X.length : Int) * (2 * P2 L) - 2 * ksum L X
  | [], _ => by
    rw [sm_congr (g := fun _ => 0) L (fun j _ => by simp [cnt]), sm_const]
    simp [ksum]
  | p :: X, h => by
    have ih := cnt_sum L X fun q hq => h q (List.mem_cons_of_mem _ hq)
    rw [sm_congr (g := fun i => (if L - i ≤ p.2 then P2 (i + 1) else 0) + ((cnt L X i).length : Int) * P2 (i + 1)) L (fun j _ => by
      unfold cnt
      rw [List.filter_cons]
      by_cases hc : L - j ≤ p.2
      · simp only [hc, decide_true, if_true, List.length_cons, Int.natCast_add, Int.add_mul]
        lia  
      · simp [hc]), sm_add, ih, one_cond' (h p List.mem_cons_self)]
    simp only [List.length_cons, ksum, List.map_cons, List.sum_cons, Int.natCast_add, Int.add_mul]
    lia  
theorem cnt_wsum (L : Nat) : ∀ (X : List (Int × Nat)), (∀ p ∈ X, p.2 ≤ L) → sm L (fun i => ((cnt L X i).map (·.1)).sum) = wsum X
  | [], _ => by
    rw [sm_congr (g := fun _ => 0) L (fun j _ => by simp [cnt]), sm_const]
    simp [wsum]
  | p :: X, h => by
    have ih := cnt_wsum L X fun q hq => h q (List.mem_cons_of_mem _ hq)
    rw [sm_congr (g := fun i => (if L - i ≤ p.2 then p.1 else 0) + ((cnt L X i).map (·.1)).sum) L (fun j _ => by
      unfold cnt
      rw [List.filter_cons]
      by_cases hc : L - j ≤ p.2
      · simp only [hc, decide_true, if_true, List.map_cons, List.sum_cons]
      · simp [hc]), sm_add, ih, one_sum' p.1 (h p List.mem_cons_self)]
    simp only [wsum, List.map_cons, List.sum_cons]

theorem cnt_take (L i : Nat) (X : List (Int × Nat)) : ((isort (X.map (·.1))).take (cnt L X i).length).sum ≤ ((cnt L X i).map (·.1)).sum := by
  have hp : (isort (X.map (·.1))).Perm ((cnt L X i).map (·.1) ++ (X.filter fun p => !decide (L - i ≤ p.2)).map (·.1)) := by
    rw [← List.map_append]
    exact (isort_perm _).trans ((List.filter_append_perm _ X).map _).symm
  have := sub_sum _ _ _ (isort_sorted _) hp
  rw [List.length_map] at this
  exact this

/-- no lengths that fit take less than the rows say -/
theorem opt {X : List (Int × Nat)} {L : Nat} (h0 : ∀ p ∈ X, 0 ≤ p.1) (hl : ∀ p ∈ X, p.2 ≤ L) (h1 : 1 ≤ X.length) (hk : ksum L X ≤ P2 L) :
    2 * X.length - 2 ≤ (rw' (isort (X.map (·.1))) L).length ∧ SS (isort (X.map (·.1))) L (2 * X.length - 2) ≤ wsum X := by
  have hlen : (isort (X.map (·.1))).length = X.length := by rw [isort_len, List.length_map]
  have hb := lower (w := isort (X.map (·.1))) (isort_sorted _) (fun x hx => by
    obtain ⟨p, hp, rfl⟩ := List.mem_map.mp ((isort_perm _).mem_iff.mp hx)
    exact h0 p hp) (fun i => (cnt L X i).length) (fun k => by rw [hlen]; exact List.length_filter_le _ _) L (2 * X.length - 2) (by
      rw [cnt_sum L X hl]
      have e : ((2 * X.length - 2 : Nat) : Int) = 2 * (X.length : Int) - 2 := by lia  
      rw [e, Int.sub_mul, ← Int.mul_assoc, Int.mul_comm 2 (X.length : Int)]
      lia  )
  refine ⟨hb.1, Int.le_trans hb.2 ?_⟩
  rw [← cnt_wsum L X hl]
  exact sm_le L fun j _ => cnt_take L j X
end
section
set_option maxHeartbeats 8000000
theorem isort_of {w : List Int} (h : Up w) : isort w = w := (isort_unique (List.Perm.refl _) h).symm
theorem sm_ge_one {f : Nat → Int} : ∀ (n : Nat), (∀ j, j < n → 1 ≤ f j) → (n : Int) ≤ sm n f
  | 0, _ => by simp [sm]
  | n + 1, h => by
    have h1 := sm_ge_one n fun j hj => h j (by lia  )
    have h2 := h n (by lia  )
    show ((n + 1 : Nat) : Int) ≤ sm n f + f n
    lia  
theorem sm_one {f : Nat → Int} : ∀ (n i : Nat), i < n → (∀ j, j < n → 1 ≤ f j) → f i + ((n : Int) - 1) ≤ sm n f
  | 0, _, h, _ => absurd h (Nat.not_lt_zero _)
  | n + 1, i, hi, h => by
    show f i + (((n + 1 : Nat) : Int) - 1) ≤ sm n f + f n
    by_cases hin : i = n
    · subst hin
      have := sm_ge_one i fun j hj => h j (by lia  )
      lia  
    · have := sm_one n i (by lia  ) fun j hj => h j (by lia  )
      have := h n (by lia  )
      lia  
theorem P2_one (k : Nat) : 1 ≤ P2 k := P2_pos k
theorem P2_cast (k : Nat) : ((2 ^ k : Nat) : Int) = P2 k := by simp only [P2, Int.natCast_pow]; rfl

theorem ach {w : List Int} {L : Nat} (hu : Up w) (h0 : ∀ x ∈ w, 0 ≤ x) (h2 : 2 ≤ w.length) (hL : w.length ≤ 2 ^ L) :
    ∃ e : Nat → Nat, (∀ j, j < w.length → (depthsL w L).getD j 0 = (e j : Int)) ∧ (∀ j, e j ≤ L) ∧ (∀ i j, i ≤ j → e j ≤ e i) ∧ (∀ j, j < w.length → 1 ≤ e j) ∧
      sm w.length (fun j => P2 (L - e j)) ≤ P2 L ∧ sm w.length (fun j => w.getD j 0 * (e j : Int)) = SS w L (2 * w.length - 2) := by
  have hX : (w.map fun c => (c, L)).map (·.1) = w := by rw [List.map_map]; exact List.map_id w
  have hk : ksum L (w.map fun c => (c, L)) = (w.length : Int) := by
    unfold ksum
    rw [List.map_map]
    have : ∀ (l : List Int), (l.map ((fun p => P2 (L - p.2)) ∘ fun c => (c, L))).sum = (l.length : Int) := by
      intro l
      induction l with
      | nil => rfl
      | cons a l ih =>
        rw [List.map_cons, List.sum_cons, ih]
        show P2 (L - L) + _ = _
        rw [Nat.sub_self, List.length_cons, Int.natCast_add]
        simp [P2]
        lia  
    exact this w
  have ho := opt (X := w.map fun c => (c, L)) (L := L) (fun p hp => by obtain ⟨c, hc, rfl⟩ := List.mem_map.mp hp; exact h0 c hc) (fun p hp => by obtain ⟨c, hc, rfl⟩ := List.mem_map.mp hp; exact Nat.le_refl _)
    (by rw [List.length_map]; lia  ) (by rw [hk, ← P2_cast]; exact_mod_cast hL)
  rw [hX, isort_of hu, List.length_map] at ho
  obtain ⟨e, u, r1, r2, r3, r4, r5, r6, r7⟩ := run_ok w w.length rfl L (List.replicate w.length 0) (2 * w.length - 2) (List.length_replicate ..) ho.1
  have hkr : sm w.length (fun j => P2 (L - e j)) ≤ P2 L := by
    have h3 := sm_le (f := fun j => (u j : Int) + 2 * P2 (L - e j)) (g := fun _ => 2 * P2 L) w.length (fun j _ => by
      have h4 := r6 j
      have h5 := r3 j
      rw [show L + 1 - e j = (L - e j) + 1 by lia  , P2_succ, P2_succ] at h4
      exact h4)
    rw [sm_add, sm_const, sm_mul, r5] at h3
    have e1 : ((2 * w.length - 2 : Nat) : Int) = 2 * (w.length : Int) - 2 := by lia  
    rw [e1, Int.sub_mul, ← Int.mul_assoc, Int.mul_comm (w.length : Int) 2] at h3
    lia  
  refine ⟨e, fun j hj => ?_, r3, r4, fun j hj => ?_, hkr, r7⟩
  · rw [depths_run, r2 j hj, List.getD_eq_getElem?_getD, List.getElem?_replicate, if_pos hj]
    simp
  · have h3 := sm_one (f := fun j => P2 (L - e j)) w.length j hj (fun i _ => P2_one _)
    by_cases h : e j = 0
    · rw [h, Nat.sub_zero] at h3
      lia  
    · lia  

/-! the symbols -/
theorem sortU_perm (cs : List Int) : (sortU cs).Perm (usedL cs) := List.mergeSort_perm _ _
theorem sortU_sorted (cs : List Int) : (sortU cs).Pairwise fun a b => keyT a ≤ keyT b := by
  have := List.pairwise_mergeSort (le := fun a b => decide (keyT a ≤ keyT b)) (fun a b c h1 h2 => by simp only [decide_eq_true_eq] at *; lia  ) (fun a b => by simp only [Bool.or_eq_true, decide_eq_true_eq]; lia  ) (usedL cs)
  exact this.imp fun h => by simpa using h
theorem used_fst (cs : List Int) : (usedL cs).map (·.1) = posL cs := by
  unfold usedL posL
  rw [List.map_map]
  have : ∀ (l : List (Int × Nat)), (l.filter fun p => decide (0 < p.1)).map ((fun x => x.1) ∘ fun p => (p.1, (p.2 : Int))) = (l.map (·.1)).filter fun c => decide (0 < c) := by
    intro l
    rw [List.filter_map]
    rfl
  rw [this, List.zipIdx_map_fst]
theorem sortU_fst {cs : List Int} (h60 : cs.length ≤ 60) : (sortU cs).map (·.1) = isort (posL cs) := by
  refine isort_unique ?_ ?_
  · rw [← used_fst]
    exact (sortU_perm cs).map _
  · show List.Pairwise (fun a b => a ≤ b) _
    rw [List.pairwise_map]
    refine List.Pairwise.imp_of_mem ?_ (sortU_sorted cs)
    intro a b ha hb h
    have a1 := usedL_snd h60 a ((sortU_perm cs).mem_iff.mp ha)
    have b1 := usedL_snd h60 b ((sortU_perm cs).mem_iff.mp hb)
    unfold keyT at h
    lia  
theorem pos_pos {cs : List Int} : ∀ x ∈ posL cs, 0 < x := fun x hx => by simpa using (List.mem_filter.mp hx).2

theorem placed_not {i : Nat} : ∀ (ps : List (Nat × Int)) (f : List Int), i ∉ ps.map (·.1) → (ps.foldl (fun f p => f.set p.1 p.2) f).getD i 0 = f.getD i 0
  | [], f, _ => rfl
  | p :: ps, f, h => by
    rw [List.map_cons, List.mem_cons] at h
    rw [List.foldl_cons, placed_not ps _ fun hm => h (.inr hm), List.getD_eq_getElem?_getD, List.getD_eq_getElem?_getD, List.getElem?_set_ne (fun e => h (.inl e.symm))]
theorem placed_mem {i : Nat} {d : Int} : ∀ (ps : List (Nat × Int)) (f : List Int), (ps.map (·.1)).Nodup → (i, d) ∈ ps → i < f.length → (ps.foldl (fun f p => f.set p.1 p.2) f).getD i 0 = d
  | [], f, _, h, _ => nomatch h
  | p :: ps, f, hn, h, hi => by
    rw [List.map_cons, List.nodup_cons] at hn
    rw [List.foldl_cons]
    rcases List.mem_cons.mp h with rfl | h
    · rw [placed_not ps _ hn.1, List.getD_eq_getElem?_getD, List.getElem?_set_self hi]
      rfl
    · exact placed_mem ps _ hn.2 h (by simpa using hi)
theorem used_nodup (cs : List Int) : ((usedL cs).map (·.2)).Nodup := by
  unfold usedL
  rw [List.map_map]
  have h1 : (cs.zipIdx.filter fun p => decide (0 < p.1)).Sublist cs.zipIdx := List.filter_sublist
  have h2 : (cs.zipIdx.map (·.2)).Nodup := by
    rw [List.zipIdx_map_snd]
    exact List.nodup_range'
  have h3 : ((cs.zipIdx.filter fun p => decide (0 < p.1)).map (·.2)).Nodup := (h1.map _).nodup h2
  have e : (cs.zipIdx.filter fun p => decide (0 < p.1)).map ((fun x => x.2) ∘ fun p => (p.1, (p.2 : Int))) = ((cs.zipIdx.filter fun p => decide (0 < p.1)).map (·.2)).map fun k => ((k : Nat) : Int) := by
    rw [List.map_map]
    rfl
  rw [e]
  exact List.Pairwise.map _ (fun a b hab he => hab (by exact_mod_cast he)) h3

/-- the used symbols with their counts and lengths -/
def XS (cs ls : List Int) : List (Int × Nat) := (usedL cs).map fun r => (r.1, (ls.getD r.2.toNat 0).toNat)
theorem XS_fst (cs ls : List Int) : (XS cs ls).map (·.1) = posL cs := by
  unfold XS
  rw [List.map_map, ← used_fst]
  rfl
theorem XS_len (cs ls : List Int) : (XS cs ls).length = (posL cs).length := by rw [← XS_fst cs ls, List.length_map]
theorem used_mem {cs : List Int} {r : Int × Int} (h : r ∈ usedL cs) : ∃ i, ∃ (h1 : i < cs.length), r = (cs[i], (i : Int)) ∧ 0 < cs[i] := by
  obtain ⟨q, hq, rfl⟩ := List.mem_map.mp h
  obtain ⟨hq1, hq2⟩ := List.mem_filter.mp hq
  have h3 := List.mem_zipIdx hq1
  obtain ⟨a, k⟩ := q
  simp only [Nat.zero_add, Nat.sub_zero] at h3
  simp only [decide_eq_true_eq] at hq2
  obtain ⟨_, hk, hak⟩ := h3
  have hak' : a = cs[k]'hk := hak
  exact ⟨k, hk, congrArg (fun z => (z, (k : Int))) hak', hak' ▸ hq2⟩
theorem mem_used {cs : List Int} {i : Nat} (h : i < cs.length) (h0 : 0 < cs[i]) : (cs[i], (i : Int)) ∈ usedL cs := by
  unfold usedL
  refine List.mem_map.mpr ⟨(cs[i], i), List.mem_filter.mpr ⟨?_, by simpa using h0⟩, rfl⟩
  rw [List.mem_iff_getElem]
  exact ⟨i, by simpa using h, by simp⟩

theorem total_zip : ∀ (cs ls : List Int) (k : Nat) (g : Nat → Int), (∀ c ∈ cs, 0 ≤ c) → cs.length = ls.length → (∀ i, i < ls.length → ls.getD i 0 = g (k + i)) →
    (List.zipWith (fun c l => c * l) cs ls).sum = (((cs.zipIdx k).filter fun p => decide (0 < p.1)).map fun p => p.1 * g p.2).sum
  | [], [], k, g, _, _, _ => rfl
  | c :: cs, l :: ls, k, g, h0, hl, hg => by
    have h1 := total_zip cs ls (k + 1) g (fun x hx => h0 x (List.mem_cons_of_mem _ hx)) (by simpa using hl) (fun i hi => by
      have := hg (i + 1) (by simpa using hi)
      rw [show k + 1 + i = k + (i + 1) by lia  , ← this]
      rfl)
    have h2 := hg 0 (by simp)
    have h3 := h0 c List.mem_cons_self
    rw [List.zipWith_cons_cons, List.sum_cons, h1, List.zipIdx_cons, List.filter_cons]
    have h4 : l = g k := by simpa using h2
    by_cases hc : 0 < c
    · simp only [hc, decide_true, if_true, List.map_cons, List.sum_cons, h4]
    · have : c = 0 := by lia  
      subst this
      simp
  | [], _ :: _, _, _, _, hl, _ => by simp at hl
  | _ :: _, [], _, _, _, hl, _ => by simp at hl
theorem total_X {cs ls : List Int} (h0 : ∀ c ∈ cs, 0 ≤ c) (hl : cs.length = ls.length) (hp : ∀ l ∈ ls, 0 ≤ l) : totalL cs ls = wsum (XS cs ls) := by
  unfold totalL
  rw [total_zip cs ls 0 (fun i => ls.getD i 0) h0 hl (fun i _ => by rw [Nat.zero_add])]
  unfold wsum XS usedL
  rw [List.map_map, List.map_map]
  congr 1
  refine List.map_congr_left fun p hp2 => ?_
  show p.1 * ls.getD p.2 0 = p.1 * (((ls.getD ((p.2 : Int)).toNat 0).toNat : Nat) : Int)
  rw [Int.toNat_natCast]
  have : 0 ≤ ls.getD p.2 0 := by
    rw [List.getD_eq_getElem?_getD]
    cases e : ls[p.2]? with
    | none => simp
    | some x => exact hp x (List.mem_of_getElem? e)
  rw [Int.toNat_of_nonneg this]

/-- the lengths of the used symbols are the depths -/
theorem least_X {cs : List Int} {L : Nat} (h60 : cs.length ≤ 60) :
    (leastL cs L).length = cs.length ∧ (∀ i, i < cs.length → (h : cs.getD i 0 ≤ 0) → (leastL cs L).getD i 0 = 0) ∧
    (∀ j r, (sortU cs)[j]? = some r → (leastL cs L).getD r.2.toNat 0 = (depthsL ((sortU cs).map (·.1)) L).getD j 0) := by
  have hlen : (depthsL ((sortU cs).map (·.1)) L).length = (sortU cs).length := by rw [depths_len, List.length_map]
  have hfst : ((((sortU cs).map fun r => r.2.toNat).zip (depthsL ((sortU cs).map (·.1)) L)).map (·.1)) = (sortU cs).map fun r => r.2.toNat := List.map_fst_zip (by rw [List.length_map]; lia  )
  have hnd : ((sortU cs).map fun r => r.2.toNat).Nodup := by
    have h1 : ((sortU cs).map (·.2)).Nodup := ((sortU_perm cs).map _).nodup_iff.mpr (used_nodup cs)
    rw [List.Nodup, List.pairwise_map] at h1 ⊢
    refine List.Pairwise.imp_of_mem ?_ h1
    intro a b ha hb hab he
    have a1 := usedL_snd h60 a ((sortU_perm cs).mem_iff.mp ha)
    have b1 := usedL_snd h60 b ((sortU_perm cs).mem_iff.mp hb)
    exact hab (by lia  )
  refine ⟨?_, ?_, ?_⟩
  · unfold leastL placedL
    exact placed_len (by simp)
  · intro i hi h
    unfold leastL placedL
    rw [placed_not _ _ (by
      rw [hfst]
      intro hm
      obtain ⟨r, hr, e⟩ := List.mem_map.mp hm
      obtain ⟨k, hk, e2, h3⟩ := used_mem ((sortU_perm cs).mem_iff.mp hr)
      rw [e2] at e
      simp only [Int.toNat_natCast] at e
      subst e
      rw [List.getD_eq_getElem?_getD, List.getElem?_eq_getElem hk] at h
      simp at h
      lia  ), List.getD_eq_getElem?_getD, List.getElem?_replicate, if_pos hi]
    rfl
  · intro j r hr
    have hj := (List.getElem?_eq_some_iff.mp hr).1
    have hr2 := usedL_snd h60 r ((sortU_perm cs).mem_iff.mp (List.mem_of_getElem? hr))
    unfold leastL placedL
    refine placed_mem _ _ (by rw [hfst]; exact hnd) ?_ (by rw [List.length_replicate]; lia  )
    rw [List.mem_iff_getElem]
    have hj2 : j < (depthsL ((sortU cs).map (·.1)) L).length := by lia  
    refine ⟨j, by rw [List.length_zip, List.length_map]; lia  , ?_⟩
    rw [List.getElem_zip, List.getElem_map]
    have e1 : (sortU cs)[j] = r := by
      have := List.getElem?_eq_getElem hj
      rw [hr] at this
      exact (Option.some.inj this).symm
    rw [e1, List.getD_eq_getElem?_getD, List.getElem?_eq_getElem hj2]
    rfl
end
section
set_option maxHeartbeats 8000000
theorem sm_range (f : Nat → Int) : ∀ n, sm n f = ((List.range n).map f).sum
  | 0 => rfl
  | n + 1 => by
    rw [List.range_succ, List.map_append, List.sum_append, ← sm_range f n]
    simp [sm]
theorem ksum_perm {L : Nat} {X Y : List (Int × Nat)} (h : X.Perm Y) : ksum L X = ksum L Y := perm_sum (h.map _)
theorem wsum_perm {X Y : List (Int × Nat)} (h : X.Perm Y) : wsum X = wsum Y := perm_sum (h.map _)

/-- what is asked of counts and a longest length -/
structure Pre (cs : List Int) (L : Nat) : Prop where
  len : cs.length ≤ 60
  pos : ∀ c ∈ cs, 0 ≤ c ∧ c ≤ 100000
  two : 2 ≤ (posL cs).length
  L0 : 0 < L
  L1 : L ≤ 100
  room : (posL cs).length ≤ 2 ^ L

theorem Pre.key {cs : List Int} {L : Nat} (h : Pre cs L) : ∃ e : Nat → Nat,
    (XS cs (leastL cs L)).Perm ((List.range (posL cs).length).map fun j => ((isort (posL cs)).getD j 0, e j)) ∧
    (∀ i, i < cs.length → 0 < cs.getD i 0 → ∃ j, j < (posL cs).length ∧ (leastL cs L).getD i 0 = (e j : Int) ∧ (isort (posL cs)).getD j 0 = cs.getD i 0) ∧
    (∀ j, e j ≤ L) ∧ (∀ i j, i ≤ j → e j ≤ e i) ∧ (∀ j, j < (posL cs).length → 1 ≤ e j) ∧
    sm (posL cs).length (fun j => P2 (L - e j)) ≤ P2 L ∧ sm (posL cs).length (fun j => (isort (posL cs)).getD j 0 * (e j : Int)) = SS (isort (posL cs)) L (2 * (posL cs).length - 2) := by
  have hw := sortU_fst h.len
  have hwl : (isort (posL cs)).length = (posL cs).length := isort_len _
  obtain ⟨h1, h2, h3⟩ := least_X (L := L) h.len
  obtain ⟨e, r1, r2, r3, r4, r5, r6⟩ := ach (w := isort (posL cs)) (L := L) (isort_sorted _) (fun x hx => Int.le_of_lt (pos_pos x ((isort_perm _).mem_iff.mp hx))) (by rw [hwl]; exact h.two) (by rw [hwl]; exact h.room)
  rw [hwl] at r1 r4 r5 r6
  rw [hw] at h3
  have hsl : (sortU cs).length = (posL cs).length := by rw [← hwl, ← hw, List.length_map]
  have hat : ∀ j r, (sortU cs)[j]? = some r → j < (posL cs).length ∧ (leastL cs L).getD r.2.toNat 0 = (e j : Int) ∧ (isort (posL cs)).getD j 0 = r.1 := by
    intro j r hr
    have hj := (List.getElem?_eq_some_iff.mp hr).1
    refine ⟨by lia  , by rw [h3 j r hr, r1 j (by lia  )], ?_⟩
    rw [← hw, List.getD_eq_getElem?_getD, List.getElem?_map, hr]
    rfl
  refine ⟨e, ?_, ?_, r2, r3, r4, r5, r6⟩
  · unfold XS
    refine ((sortU_perm cs).symm.map _).trans (List.Perm.of_eq ?_)
    apply List.ext_getElem?
    intro j
    rw [List.getElem?_map, List.getElem?_map]
    cases hr : (sortU cs)[j]? with
    | none =>
      have : (sortU cs).length ≤ j := List.getElem?_eq_none_iff.mp hr
      rw [List.getElem?_eq_none (by rw [List.length_range]; lia  )]
      rfl
    | some r =>
      obtain ⟨a1, a2, a3⟩ := hat j r hr
      rw [List.getElem?_range a1]
      simp only [Option.map_some, a2, a3, Int.toNat_natCast]
  · intro i hi h0
    have e0 : cs.getD i 0 = cs[i] := by rw [List.getD_eq_getElem?_getD, List.getElem?_eq_getElem hi]; rfl
    rw [e0] at h0 ⊢
    have hm := (sortU_perm cs).mem_iff.mpr (mem_used hi h0)
    obtain ⟨j, hj⟩ := List.mem_iff_getElem?.mp hm
    obtain ⟨a1, a2, a3⟩ := hat j _ hj
    exact ⟨j, a1, by simpa using a2, a3⟩

theorem Pre.getD {cs : List Int} {L : Nat} (h : Pre cs L) (i : Nat) : 0 ≤ (leastL cs L).getD i 0 ∧ (leastL cs L).getD i 0 ≤ (L : Int) ∧ (0 < (leastL cs L).getD i 0 ↔ 0 < cs.getD i 0) := by
  obtain ⟨h1, h2, h3⟩ := least_X (L := L) h.len
  by_cases hi : i < cs.length
  · by_cases h0 : 0 < cs.getD i 0
    · obtain ⟨e, _, r1, r2, _, r4, _⟩ := h.key
      obtain ⟨j, hj, a1, a2⟩ := r1 i hi h0
      have := r2 j
      have := r4 j hj
      rw [a1]
      lia  
    · have := h2 i hi (by lia  )
      lia  
  · have e1 : (leastL cs L).getD i 0 = 0 := by rw [List.getD_eq_getElem?_getD, List.getElem?_eq_none (by lia  )]; rfl
    have e2 : cs.getD i 0 = 0 := by rw [List.getD_eq_getElem?_getD, List.getElem?_eq_none (by lia  )]; rfl
    lia  
theorem getD_get {l : List Int} {i : Nat} (h : i < l.length) : l.getD i 0 = l[i] := by rw [List.getD_eq_getElem?_getD, List.getElem?_eq_getElem h]; rfl
theorem Pre.good {cs : List Int} {L : Nat} (h : Pre cs L) : GoodL cs L := by
  refine ⟨(least_X h.len).1, fun i h1 h2 => ?_⟩
  have := h.getD i
  rw [getD_get h1, getD_get h2] at this
  exact ⟨this.1, this.2.1, this.2.2.mpr⟩
theorem Pre.fit {cs : List Int} {L : Nat} (h : Pre cs L) : Fit cs L :=
  ⟨h.len, h.pos, by rw [used_len]; exact h.two, h.L0, h.L1, by rw [used_len]; exact h.room, h.good⟩
theorem Pre.lens {cs : List Int} {L : Nat} (h : Pre cs L) : ∀ l ∈ leastL cs L, 0 ≤ l := by
  intro l hl
  obtain ⟨i, hi, rfl⟩ := List.getElem_of_mem hl
  have := (h.getD i).1
  rw [getD_get hi] at this
  exact this
/-- the total is the weight of the rows' firsts -/
theorem Pre.total {cs : List Int} {L : Nat} (h : Pre cs L) : TT cs L = SS (isort (posL cs)) L (2 * (posL cs).length - 2) ∧ TT cs L = wsum (XS cs (leastL cs L)) ∧ ksum L (XS cs (leastL cs L)) ≤ P2 L := by
  have e1 : TT cs L = wsum (XS cs (leastL cs L)) := total_X (fun c hc => (h.pos c hc).1) (least_X h.len).1.symm h.lens
  obtain ⟨e, r0, r1, r2, r3, r4, r5, r6⟩ := h.key
  refine ⟨?_, e1, ?_⟩
  · rw [e1, wsum_perm r0, ← r6, sm_range]
    unfold wsum
    rw [List.map_map]
    rfl
  · rw [ksum_perm r0]
    refine Int.le_trans (Int.le_of_eq ?_) r5
    rw [sm_range]
    unfold ksum
    rw [List.map_map]
    rfl
/-- the least total, for lists of counts and lengths -/
theorem Pre.least {cs : List Int} {L : Nat} (h : Pre cs L) {X : List (Int × Nat)} (hX : (X.map (·.1)).Perm (posL cs)) (hl : ∀ p ∈ X, p.2 ≤ L) (hk : ksum L X ≤ P2 L) : TT cs L ≤ wsum X := by
  have e : isort (X.map (·.1)) = isort (posL cs) := isort_unique ((isort_perm _).trans hX) (isort_sorted _)
  have hlen : X.length = (posL cs).length := by rw [← hX.length_eq, List.length_map]
  have := opt (X := X) (L := L) (fun p hp => Int.le_of_lt (pos_pos _ (hX.mem_iff.mp (List.mem_map.mpr ⟨p, hp, rfl⟩)))) hl (by have := h.two; lia  ) hk
  rw [e, hlen] at this
  rw [h.total.1]
  exact this.2
theorem Pre.least' {cs ls : List Int} {L : Nat} (h : Pre cs L) (hlen : cs.length = ls.length) (hp : ∀ l ∈ ls, 0 ≤ l ∧ l ≤ (L : Int)) (hk : ksum L (XS cs ls) ≤ P2 L) : TT cs L ≤ totalL cs ls := by
  rw [total_X (fun c hc => (h.pos c hc).1) hlen fun l hl => (hp l hl).1]
  refine h.least (by rw [XS_fst]) (fun p hp2 => ?_) hk
  obtain ⟨r, _, rfl⟩ := List.mem_map.mp hp2
  show (ls.getD r.2.toNat 0).toNat ≤ L
  rw [List.getD_eq_getElem?_getD]
  cases e : ls[r.2.toNat]? with
  | none => simp
  | some x =>
    have := hp x (List.mem_of_getElem? e)
    show x.toNat ≤ L
    lia  
end
section
set_option maxHeartbeats 8000000
theorem P2_add (a b : Nat) : P2 (a + b) = P2 a * P2 b := by unfold P2; exact Int.pow_add ..
/-- sum over places, the first one apart -/
theorem sm_head {f g : Nat → Int} : ∀ n, 1 ≤ n → (∀ j, 1 ≤ j → j < n → f j = g j) → sm n f - f 0 = sm n g - g 0
  | 0, h, _ => absurd h (by lia  )
  | 1, _, _ => by simp [sm]
  | n + 2, _, h => by
    have h1 := sm_head (n + 1) (by lia  ) fun j a b => h j a (by lia  )
    have h2 := h (n + 1) (by lia  ) (by lia  )
    show sm (n + 1) f + f (n + 1) - f 0 = sm (n + 1) g + g (n + 1) - g 0
    lia  
theorem Pre.kraft {cs : List Int} {L : Nat} (h : Pre cs L) : ksum L (XS cs (leastL cs L)) = P2 L := by
  obtain ⟨e, r0, r1, r2, r3, r4, r5, r6⟩ := h.key
  have hn := h.two
  have hks : ksum L (XS cs (leastL cs L)) = sm (posL cs).length (fun j => P2 (L - e j)) := by
    rw [ksum_perm r0, sm_range]
    unfold ksum
    rw [List.map_map]
    rfl
  rw [hks]
  rcases Int.lt_or_eq_of_le r5 with hlt | heq
  · exfalso
    have hdiv : sm (posL cs).length (fun j => P2 (L - e j)) = P2 (L - e 0) * sm (posL cs).length (fun j => P2 (e 0 - e j)) := by
      rw [← sm_mul]
      refine sm_congr _ fun j _ => ?_
      rw [← P2_add]
      have a := r3 0 j (by lia  )
      have b := r2 0
      congr 1
      lia  
    have hL : P2 L = P2 (L - e 0) * P2 (e 0) := by
      rw [← P2_add]
      have b := r2 0
      congr 1
      lia  
    have hd := P2_pos (L - e 0)
    have hstep : sm (posL cs).length (fun j => P2 (L - e j)) + P2 (L - e 0) ≤ P2 L := by
      rw [hdiv, hL] at hlt ⊢
      have h1 : sm (posL cs).length (fun j => P2 (e 0 - e j)) < P2 (e 0) := Int.lt_of_mul_lt_mul_left hlt (Int.le_of_lt hd)
      have h2 : P2 (L - e 0) * (sm (posL cs).length (fun j => P2 (e 0 - e j)) + 1) ≤ P2 (L - e 0) * P2 (e 0) := Int.mul_le_mul_of_nonneg_left h1 (Int.le_of_lt hd)
      rw [Int.mul_add, Int.mul_one] at h2
      exact h2
    have he0 := r4 0 (by lia  )
    have hk1 := sm_head (f := fun j => P2 (L - if j = 0 then e 0 - 1 else e j)) (g := fun j => P2 (L - e j)) (posL cs).length (by lia  ) (fun j a _ => by rw [if_neg (by lia  )])
    simp only [if_true] at hk1
    have h2p : P2 (L - (e 0 - 1)) = 2 * P2 (L - e 0) := by
      have := r2 0
      rw [show L - (e 0 - 1) = (L - e 0) + 1 by lia  , P2_succ]
    have hw1 := sm_head (f := fun j => (isort (posL cs)).getD j 0 * ((if j = 0 then e 0 - 1 else e j : Nat) : Int)) (g := fun j => (isort (posL cs)).getD j 0 * (e j : Int)) (posL cs).length (by lia  ) (fun j a _ => by rw [if_neg (by lia  )])
    simp only [if_true] at hw1
    have hle := h.least (X := (List.range (posL cs).length).map fun j => ((isort (posL cs)).getD j 0, if j = 0 then e 0 - 1 else e j)) (by
      rw [List.map_map]
      refine List.Perm.trans (List.Perm.of_eq ?_) (isort_perm _)
      apply List.ext_getElem?
      intro j
      rw [List.getElem?_map]
      by_cases hj : j < (posL cs).length
      · rw [List.getElem?_range hj, List.getElem?_eq_getElem (by rw [isort_len]; exact hj)]
        show some ((isort (posL cs)).getD j 0) = _
        rw [getD_get (by rw [isort_len]; exact hj)]
      · rw [List.getElem?_eq_none (by rw [List.length_range]; lia  ), List.getElem?_eq_none (by rw [isort_len]; lia  )]
        rfl) (fun p hp => by
      obtain ⟨j, hj, rfl⟩ := List.mem_map.mp hp
      have := r2 j
      have := r2 0
      dsimp only
      split <;> lia  ) (by
      unfold ksum
      rw [List.map_map]
      show ((List.range (posL cs).length).map fun j => P2 (L - if j = 0 then e 0 - 1 else e j)).sum ≤ _
      rw [← sm_range (fun j => P2 (L - if j = 0 then e 0 - 1 else e j))]
      lia  )
    unfold wsum at hle
    rw [List.map_map] at hle
    have hle2 : TT cs L ≤ ((List.range (posL cs).length).map fun j => (isort (posL cs)).getD j 0 * ((if j = 0 then e 0 - 1 else e j : Nat) : Int)).sum := hle
    rw [← sm_range (fun j => (isort (posL cs)).getD j 0 * ((if j = 0 then e 0 - 1 else e j : Nat) : Int)), h.total.1, ← r6] at hle2
    have hw0 : 0 < (isort (posL cs)).getD 0 0 := by
      rw [getD_get (by rw [isort_len]; lia  )]
      exact pos_pos _ ((isort_perm _).mem_iff.mp (List.getElem_mem _))
    have e9 : ((e 0 - 1 : Nat) : Int) = (e 0 : Int) - 1 := by lia  
    rw [e9, Int.mul_sub, Int.mul_one] at hw1
    lia  
  · exact heq

theorem kraft_zip : ∀ (cs ls : List Int) (k : Nat) (g : Nat → Int), cs.length = ls.length → (∀ i, i < ls.length → ls.getD i 0 = g (k + i)) → (∀ i, i < ls.length → (0 < ls.getD i 0 ↔ 0 < cs.getD i 0)) →
    ls.filter (fun l => decide (0 < l)) = ((cs.zipIdx k).filter fun p => decide (0 < p.1)).map fun p => g p.2
  | [], [], k, g, _, _, _ => rfl
  | c :: cs, l :: ls, k, g, hl, hg, hs => by
    have h1 := kraft_zip cs ls (k + 1) g (by simpa using hl) (fun i hi => by
      have := hg (i + 1) (by simpa using hi)
      rw [show k + 1 + i = k + (i + 1) by lia  , ← this]
      rfl) (fun i hi => by simpa using hs (i + 1) (by simpa using hi))
    have h2 := hg 0 (by simp)
    have h3 : 0 < l ↔ 0 < c := by simpa using hs 0 (by simp)
    have h4 : l = g k := by simpa using h2
    rw [List.zipIdx_cons, List.filter_cons, List.filter_cons, h1]
    by_cases hc : 0 < c
    · rw [if_pos (by simpa using h3.mpr hc), if_pos (by simpa using hc), List.map_cons, h4]
    · rw [if_neg (by simpa using fun x => hc (h3.mp x)), if_neg (by simpa using hc)]
  | [], _ :: _, _, _, hl, _, _ => by simp at hl
  | _ :: _, [], _, _, hl, _, _ => by simp at hl

theorem Pre.fine {cs : List Int} {L : Nat} (h : Pre cs L) : Fine cs L := by
  have hlen := (least_X (L := L) h.len).1
  refine ⟨h.fit, ?_, ?_, ?_⟩
  · apply List.ext_getElem?
    intro i
    rw [List.getElem?_map, List.getElem?_map]
    by_cases hi : i < cs.length
    · have hi2 : i < (leastL cs L).length := by lia  
      have := (h.getD i).2.2
      rw [getD_get hi, getD_get hi2] at this
      rw [List.getElem?_eq_getElem hi, List.getElem?_eq_getElem hi2]
      exact congrArg some (decide_eq_decide.mpr this)
    · rw [List.getElem?_eq_none (by lia  ), List.getElem?_eq_none (by lia  )]; try rfl
  · intro i j hi hj hi2 hj2 h0 hlt
    obtain ⟨e, r0, r1, r2, r3, r4, r5, r6⟩ := h.key
    obtain ⟨a, ha, a1, a2⟩ := r1 i hi (by rw [getD_get hi]; exact h0)
    obtain ⟨b, hb, b1, b2⟩ := r1 j hj (by rw [getD_get hj]; lia  )
    rw [getD_get hi2] at a1
    rw [getD_get hj2] at b1
    rw [getD_get hi] at a2
    rw [getD_get hj] at b2
    have hab : a ≤ b := by
      rcases Nat.le_total a b with hab | hab
      · exact hab
      · exfalso
        have hla : a < (isort (posL cs)).length := by rw [isort_len]; exact ha
        have hlb : b < (isort (posL cs)).length := by rw [isort_len]; exact hb
        rw [getD_get hla] at a2
        rw [getD_get hlb] at b2
        by_cases hab2 : a = b
        · subst hab2; lia  
        · have := List.pairwise_iff_getElem.mp (isort_sorted (posL cs)) b a hlb hla (by lia  )
          lia  
    rw [a1, b1]
    have := r3 a b hab
    lia  
  · have hz := kraft_zip cs (leastL cs L) 0 (fun i => (leastL cs L).getD i 0) hlen.symm (fun i _ => by rw [Nat.zero_add]) (fun i _ => (h.getD i).2.2)
    rw [hz, List.map_map]
    have hk := h.kraft
    unfold ksum XS usedL at hk
    rw [List.map_map, List.map_map] at hk
    rw [← P2_cast, Int.natCast_pow] at hk
    refine Eq.trans ?_ hk
    congr 1
    refine List.map_congr_left fun p _ => ?_
    show (2 : Int) ^ ((L : Int) - (leastL cs L).getD p.2 0).toNat = P2 (L - ((leastL cs L).getD ((p.2 : Int)).toNat 0).toNat)
    rw [Int.toNat_natCast]
    have := h.getD p.2
    unfold P2
    congr 1
    lia  
end
section
set_option maxHeartbeats 8000000
/-! totals and room as sums over places -/
def kz (L : Nat) (cs ls : List Int) (i : Nat) : Int := if 0 < cs.getD i 0 then P2 (L - (ls.getD i 0).toNat) else 0
theorem sm_succ' {f : Nat → Int} : ∀ n, sm (n + 1) f = f 0 + sm n (fun i => f (i + 1))
  | 0 => by simp [sm]
  | n + 1 => by
    show sm (n + 1) f + f (n + 1) = f 0 + (sm n (fun i => f (i + 1)) + f (n + 1))
    rw [sm_succ' n]
    lia  
theorem filt_sm (g : Nat → Int → Int) : ∀ (cs : List Int) (k : Nat), (((cs.zipIdx k).filter fun p => decide (0 < p.1)).map fun p => g p.2 p.1).sum = sm cs.length (fun i => if 0 < cs.getD i 0 then g (k + i) (cs.getD i 0) else 0)
  | [], k => rfl
  | c :: cs, k => by
    have ih := filt_sm g cs (k + 1)
    rw [List.zipIdx_cons, List.filter_cons, List.length_cons, sm_succ']
    have e : sm cs.length (fun i => if 0 < (c :: cs).getD (i + 1) 0 then g (k + (i + 1)) ((c :: cs).getD (i + 1) 0) else 0) = sm cs.length (fun i => if 0 < cs.getD i 0 then g (k + 1 + i) (cs.getD i 0) else 0) := by
      refine sm_congr _ fun j _ => ?_
      have : (c :: cs).getD (j + 1) 0 = cs.getD j 0 := rfl
      rw [this, show k + (j + 1) = k + 1 + j by lia  ]
    rw [e, ← ih]
    have e0 : (c :: cs).getD 0 0 = c := rfl
    by_cases hc : 0 < c
    · simp only [hc, decide_true, if_true, List.map_cons, List.sum_cons, e0, Nat.add_zero]
    · simp [hc]
theorem ksum_sm (L : Nat) (cs ls : List Int) : ksum L (XS cs ls) = sm cs.length (kz L cs ls) := by
  unfold ksum XS usedL
  rw [List.map_map, List.map_map]
  have h := filt_sm (fun i _ => P2 (L - (ls.getD i 0).toNat)) cs 0
  refine Eq.trans ?_ (h.trans (sm_congr _ fun j _ => by rw [Nat.zero_add]; rfl))
  congr 1
theorem total_sm : ∀ (cs ls : List Int), cs.length = ls.length → totalL cs ls = sm cs.length (fun i => cs.getD i 0 * ls.getD i 0)
  | [], [], _ => rfl
  | c :: cs, l :: ls, h => by
    have ih := total_sm cs ls (by simpa using h)
    unfold totalL at ih ⊢
    rw [List.zipWith_cons_cons, List.sum_cons, ih, List.length_cons, sm_succ']
    rfl
  | [], _ :: _, h => by simp at h
  | _ :: _, [], h => by simp at h
theorem sm_rev {f : Nat → Int} : ∀ n, sm n (fun i => f (n - 1 - i)) = sm n f
  | 0 => rfl
  | n + 1 => by
    rw [sm_succ']
    show f (n + 1 - 1 - 0) + _ = sm n f + f n
    rw [show n + 1 - 1 - 0 = n by lia  , sm_congr (g := fun i => f (n - 1 - i)) n (fun j hj => by congr 1; lia  ), sm_rev n]
    lia  
theorem sm_upd {f : Nat → Int} (q : Nat) (c : Int) : ∀ n, q < n → sm n (fun i => f i + if i = q then c else 0) = sm n f + c
  | 0, h => absurd h (Nat.not_lt_zero _)
  | n + 1, h => by
    show sm n (fun i => f i + if i = q then c else 0) + (f n + if n = q then c else 0) = sm n f + f n + c
    by_cases hn : n = q
    · rw [if_pos hn, sm_congr (g := f) n (fun j hj => by rw [if_neg (by lia  ), Int.add_zero])]
      lia  
    · rw [if_neg hn, sm_upd q c n (by lia  )]
      lia  

/-- the totals depend on the counts in use alone -/
theorem Pre.order {cs ds : List Int} {L : Nat} (h : Pre cs L) (h' : Pre ds L) (hp : (posL cs).Perm (posL ds)) : TT cs L = TT ds L := by
  have e : isort (posL cs) = isort (posL ds) := isort_unique ((isort_perm _).trans hp) (isort_sorted _)
  rw [h.total.1, h'.total.1, e, hp.length_eq]
theorem Pre.perm {cs ds : List Int} {L : Nat} (h : Pre cs L) (hp : ds.Perm cs) : Pre ds L := by
  have hq : (posL ds).Perm (posL cs) := hp.filter _
  exact ⟨by rw [hp.length_eq]; exact h.len, fun c hc => h.pos c (hp.mem_iff.mp hc), by rw [hq.length_eq]; exact h.two, h.L0, h.L1, by rw [hq.length_eq]; exact h.room⟩
/-- lengths of the right kind are a bound -/
theorem Pre.bound {cs ls : List Int} {L : Nat} (h : Pre cs L) (hlen : cs.length = ls.length) (hp : ∀ l ∈ ls, 0 ≤ l ∧ l ≤ (L : Int)) (hk : sm cs.length (kz L cs ls) ≤ P2 L) : TT cs L ≤ sm cs.length (fun i => cs.getD i 0 * ls.getD i 0) := by
  rw [← total_sm cs ls hlen]
  exact h.least' hlen hp (by rw [ksum_sm]; exact hk)
theorem Pre.self {cs : List Int} {L : Nat} (h : Pre cs L) : (leastL cs L).length = cs.length ∧ (∀ l ∈ leastL cs L, 0 ≤ l ∧ l ≤ (L : Int)) ∧ sm cs.length (kz L cs (leastL cs L)) = P2 L ∧ TT cs L = sm cs.length (fun i => cs.getD i 0 * (leastL cs L).getD i 0) := by
  have h1 := (least_X (L := L) h.len).1
  refine ⟨h1, fun l hl => ?_, by rw [← ksum_sm]; exact h.kraft, total_sm cs _ h1.symm⟩
  obtain ⟨i, hi, rfl⟩ := List.getElem_of_mem hl
  have := h.getD i
  rw [getD_get hi] at this
  exact ⟨this.1, this.2.1⟩
theorem Pre.up {cs : List Int} {L L' : Nat} (h : Pre cs L) (hL : L ≤ L') (hL' : L' ≤ 100) : Pre cs L' :=
  ⟨h.len, h.pos, h.two, by have := h.L0; lia  , hL', Nat.le_trans h.room (Nat.pow_le_pow_right (by decide) hL)⟩
theorem Pre.mono {cs : List Int} {L L' : Nat} (h : Pre cs L) (hL : L ≤ L') (hL' : L' ≤ 100) : TT cs L' ≤ TT cs L := by
  obtain ⟨h1, h2, h3, h4⟩ := h.self
  rw [h4]
  refine (h.up hL hL').bound h1.symm (fun l hl => ⟨(h2 l hl).1, by have := (h2 l hl).2; lia  ⟩) ?_
  have e : sm cs.length (kz L' cs (leastL cs L)) = P2 (L' - L) * sm cs.length (kz L cs (leastL cs L)) := by
    rw [← sm_mul]
    refine sm_congr _ fun j _ => ?_
    unfold kz
    by_cases hc : 0 < cs.getD j 0
    · rw [if_pos hc, if_pos hc, ← P2_add]
      have := h.getD j
      congr 1
      lia  
    · rw [if_neg hc, if_neg hc, Int.mul_zero]
  rw [e, h3, ← P2_add, show L' - L + L = L' by lia  ]
  exact Int.le_refl _
theorem Pre.ge_sum {cs : List Int} {L : Nat} (h : Pre cs L) : sm cs.length (fun i => cs.getD i 0) ≤ TT cs L := by
  rw [h.self.2.2.2]
  refine sm_le _ fun j hj => ?_
  have h1 := h.getD j
  have h2 := h.pos _ (List.getElem_mem hj)
  rw [← getD_get hj] at h2
  by_cases hc : 0 < cs.getD j 0
  · have h3 := h1.2.2.mpr hc
    have := Int.mul_le_mul_of_nonneg_left (show (1 : Int) ≤ (leastL cs L).getD j 0 by lia  ) h2.1
    rw [Int.mul_one] at this
    exact this
  · have : cs.getD j 0 = 0 := by lia  
    rw [this]
    simp
theorem Pre.posT {cs : List Int} {L : Nat} (h : Pre cs L) : 0 < TT cs L := by
  have h1 := h.ge_sum
  have h2 := h.two
  obtain ⟨x, hx⟩ : ∃ x, x ∈ posL cs := by
    cases e : posL cs with
    | nil => rw [e] at h2; simp at h2
    | cons a l => exact ⟨a, List.mem_cons_self⟩
  have hx2 := pos_pos x hx
  obtain ⟨q, hq, hq2⟩ := List.getElem_of_mem (List.mem_filter.mp hx).1
  have h3 := sm_upd (f := fun i => cs.getD i 0 - if i = q then cs.getD q 0 else 0) q (cs.getD q 0) cs.length hq
  rw [sm_congr (g := fun i => cs.getD i 0) cs.length (fun j _ => by split <;> lia  )] at h3
  have h4 := sm_le (f := fun _ => 0) (g := fun i => cs.getD i 0 - if i = q then cs.getD q 0 else 0) cs.length (fun j hj => by
    have := h.pos _ (List.getElem_mem hj)
    rw [← getD_get hj] at this
    split
    · rename_i e; subst e; lia  
    · lia  )
  rw [sm_const] at h4
  rw [getD_get hq, hq2] at h3
  simp only [Int.mul_zero] at h4
  rw [getD_get hq, hq2] at h4
  lia  
/-- counts times a number -/
theorem Pre.times {cs : List Int} {L : Nat} {k : Int} (h : Pre cs L) (hk : 0 < k) (h' : Pre (cs.map fun c => k * c) L) : TT (cs.map fun c => k * c) L = k * TT cs L := by
  have hg : ∀ i, (cs.map fun c => k * c).getD i 0 = k * cs.getD i 0 := by
    intro i
    rw [List.getD_eq_getElem?_getD, List.getD_eq_getElem?_getD, List.getElem?_map]
    cases cs[i]? with
    | none => simp
    | some x => rfl
  have hkz : ∀ ls i, kz L (cs.map fun c => k * c) ls i = kz L cs ls i := by
    intro ls i
    unfold kz
    rw [hg]
    by_cases hc : 0 < cs.getD i 0
    · rw [if_pos hc, if_pos (Int.mul_pos hk hc)]
    · rw [if_neg hc, if_neg (fun hp => hc (Int.lt_of_mul_lt_mul_left (a := k) (by rw [Int.mul_zero]; exact hp) (Int.le_of_lt hk)))]
  have hts : ∀ ls : List Int, sm cs.length (fun i => (cs.map fun c => k * c).getD i 0 * ls.getD i 0) = k * sm cs.length (fun i => cs.getD i 0 * ls.getD i 0) := by
    intro ls
    rw [← sm_mul]
    exact sm_congr _ fun j _ => by rw [hg, Int.mul_assoc]
  have hl : (cs.map fun c => k * c).length = cs.length := List.length_map _
  obtain ⟨a1, a2, a3, a4⟩ := h.self
  obtain ⟨b1, b2, b3, b4⟩ := h'.self
  refine Int.le_antisymm ?_ ?_
  · have := h'.bound (ls := leastL cs L) (by rw [hl, a1]) a2 (by rw [hl, sm_congr _ fun j _ => hkz _ j, a3]; exact Int.le_refl _)
    rw [hl, hts, ← a4] at this
    exact this
  · have := h.bound (ls := leastL (cs.map fun c => k * c) L) (by rw [b1, hl]) b2 (by rw [← sm_congr _ fun j _ => hkz _ j, ← hl, b3]; exact Int.le_refl _)
    rw [b4, hl, hts]
    exact Int.mul_le_mul_of_nonneg_left this (Int.le_of_lt hk)
end
section
set_option maxHeartbeats 8000000
theorem getD_out {l : List Int} {i : Nat} (h : l.length ≤ i) : l.getD i 0 = 0 := by rw [List.getD_eq_getElem?_getD, List.getElem?_eq_none h]; rfl
theorem grown_len {cs : List Int} {q : Nat} (hq : q < cs.length) : (grownL cs q).length = cs.length := by
  unfold grownL
  rw [List.length_append, List.length_append, List.length_take, List.length_drop, List.length_singleton]
  lia  
theorem grown_get {cs : List Int} {q : Nat} (hq : q < cs.length) (i : Nat) : (grownL cs q).getD i 0 = cs.getD i 0 + (if i = q then 1 else 0) := by
  unfold grownL
  rw [List.getD_eq_getElem?_getD]
  have hl : (cs.take q ++ [cs.getD q 0 + 1]).length = q + 1 := by rw [List.length_append, List.length_take, List.length_singleton]; lia  
  by_cases h1 : i < q
  · rw [if_neg (by lia  ), List.getElem?_append_left (by lia  ), List.getElem?_append_left (by rw [List.length_take]; lia  ), List.getElem?_take, if_pos h1, ← List.getD_eq_getElem?_getD, Int.add_zero]
  · by_cases h2 : i = q
    · subst h2
      rw [if_pos rfl, List.getElem?_append_left (by lia  ), List.getElem?_append_right (by rw [List.length_take]; lia  ), List.length_take, show i - min i cs.length = 0 by lia  ]
      rfl
    · rw [if_neg h2, List.getElem?_append_right (by lia  ), hl, List.getElem?_drop, show q + 1 + (i - (q + 1)) = i by lia  , ← List.getD_eq_getElem?_getD, Int.add_zero]
theorem grown_pos {cs : List Int} {q : Nat} (hq : q < cs.length) (h0 : 0 < cs.getD q 0) (i : Nat) : 0 < (grownL cs q).getD i 0 ↔ 0 < cs.getD i 0 := by
  rw [grown_get hq]
  by_cases h : i = q
  · subst h
    rw [if_pos rfl]
    lia  
  · rw [if_neg h, Int.add_zero]
theorem Pre.grow {cs : List Int} {L q : Nat} (h : Pre cs L) (hq : q < cs.length) (h0 : 0 < cs.getD q 0) (h' : Pre (grownL cs q) L) :
    TT cs L + 1 ≤ TT (grownL cs q) L ∧ TT (grownL cs q) L ≤ TT cs L + (leastL cs L).getD q 0 := by
  have hl := grown_len hq
  obtain ⟨a1, a2, a3, a4⟩ := h.self
  obtain ⟨b1, b2, b3, b4⟩ := h'.self
  have hkz : ∀ ls i, kz L (grownL cs q) ls i = kz L cs ls i := by
    intro ls i
    unfold kz
    by_cases hc : 0 < cs.getD i 0
    · rw [if_pos hc, if_pos ((grown_pos hq h0 i).mpr hc)]
    · rw [if_neg hc, if_neg (fun hp => hc ((grown_pos hq h0 i).mp hp))]
  have hts : ∀ ls : List Int, sm cs.length (fun i => (grownL cs q).getD i 0 * ls.getD i 0) = sm cs.length (fun i => cs.getD i 0 * ls.getD i 0) + ls.getD q 0 := by
    intro ls
    rw [← sm_upd q (ls.getD q 0) cs.length hq]
    refine sm_congr _ fun j _ => ?_
    rw [grown_get hq]
    by_cases hj : j = q
    · subst hj
      rw [if_pos rfl, if_pos rfl, Int.add_mul, Int.one_mul]
    · rw [if_neg hj, if_neg hj, Int.add_zero, Int.add_zero]
  refine ⟨?_, ?_⟩
  · have := h.bound (ls := leastL (grownL cs q) L) (by rw [b1, hl]) b2 (by rw [← sm_congr _ fun j _ => hkz _ j, ← hl, b3]; exact Int.le_refl _)
    have h1 := ((h'.getD q).2.2.mpr ((grown_pos hq h0 q).mpr h0))
    rw [b4, hl, hts]
    lia  
  · have := h'.bound (ls := leastL cs L) (by rw [hl, a1]) a2 (by rw [hl, sm_congr _ fun j _ => hkz _ j, a3]; exact Int.le_refl _)
    rw [hl, hts, ← a4] at this
    exact this

theorem rev_get {cs : List Int} {i : Nat} (hi : i < cs.length) : cs.reverse.getD i 0 = cs.getD (cs.length - 1 - i) 0 := by
  rw [List.getD_eq_getElem?_getD, List.getElem?_reverse hi, ← List.getD_eq_getElem?_getD]
theorem added_get {cs : List Int} {i : Nat} (hi : i < cs.length) : (List.zipWith (fun a b => a + b) cs cs.reverse).getD i 0 = cs.getD i 0 + cs.getD (cs.length - 1 - i) 0 := by
  rw [← rev_get hi, List.getD_eq_getElem?_getD, List.getElem?_zipWith, getD_get hi, getD_get (l := cs.reverse) (by rw [List.length_reverse]; exact hi), List.getElem?_eq_getElem hi, List.getElem?_eq_getElem (by rw [List.length_reverse]; exact hi)]
  rfl
theorem Pre.added {cs : List Int} {L : Nat} (h : Pre cs L) (h' : Pre (List.zipWith (fun a b => a + b) cs cs.reverse) L) : 2 * TT cs L ≤ TT (List.zipWith (fun a b => a + b) cs cs.reverse) L := by
  have hl : (List.zipWith (fun a b => a + b) cs cs.reverse).length = cs.length := by rw [List.length_zipWith, List.length_reverse]; lia  
  obtain ⟨b1, b2, b3, b4⟩ := h'.self
  generalize hls : leastL (List.zipWith (fun a b => a + b) cs cs.reverse) L = ls at *
  rw [hl] at b1 b3 b4
  have hnn : ∀ i, 0 ≤ cs.getD i 0 := by
    intro i
    by_cases hi : i < cs.length
    · rw [getD_get hi]; exact (h.pos _ (List.getElem_mem hi)).1
    · rw [getD_out (by lia  )]; exact Int.le_refl _
  have t1 := h.bound (ls := ls) b1.symm b2 (by
    rw [← b3]
    refine sm_le _ fun j hj => ?_
    unfold kz
    rw [added_get hj]
    have := hnn (cs.length - 1 - j)
    by_cases hc : 0 < cs.getD j 0
    · rw [if_pos hc, if_pos (by lia  )]; exact Int.le_refl _
    · rw [if_neg hc]
      split
      · exact Int.le_of_lt (P2_pos _)
      · exact Int.le_refl _)
  have t2 := h.bound (ls := ls.reverse) (by rw [List.length_reverse, b1]) (fun l hl => b2 l (List.mem_reverse.mp hl)) (by
    rw [← b3, ← sm_rev]
    refine sm_le _ fun j hj => ?_
    unfold kz
    rw [added_get hj, rev_get (cs := ls) (by lia  ), b1, show cs.length - 1 - (cs.length - 1 - j) = j by lia  ]
    have := hnn j
    by_cases hc : 0 < cs.getD (cs.length - 1 - j) 0
    · rw [if_pos hc, if_pos (by lia  )]; exact Int.le_refl _
    · rw [if_neg hc]
      split
      · exact Int.le_of_lt (P2_pos _)
      · exact Int.le_refl _)
  have e : sm cs.length (fun i => cs.getD i 0 * ls.reverse.getD i 0) = sm cs.length (fun i => cs.getD (cs.length - 1 - i) 0 * ls.getD i 0) := by
    rw [← sm_rev]
    refine sm_congr _ fun j hj => ?_
    rw [rev_get (cs := ls) (by lia  ), b1, show cs.length - 1 - (cs.length - 1 - j) = j by lia  ]
  rw [e] at t2
  have e2 : sm cs.length (fun i => (List.zipWith (fun a b => a + b) cs cs.reverse).getD i 0 * ls.getD i 0) = sm cs.length (fun i => cs.getD i 0 * ls.getD i 0) + sm cs.length (fun i => cs.getD (cs.length - 1 - i) 0 * ls.getD i 0) := by
    rw [← sm_add]
    exact sm_congr _ fun j hj => by rw [added_get hj, Int.add_mul]
  rw [b4, e2]
  lia  

/-- the two least as one -/
theorem Pre.two_least {cs ds : List Int} {a b : Int} {r : List Int} {L : Nat} (h : Pre cs (L + 1)) (hw : (posL cs).Perm (a :: b :: r)) (hd : ds.Perm ((a + b) :: r)) (h' : Pre ds L) : TT cs (L + 1) ≤ (a + b) + TT ds L := by
  have hall : ∀ x ∈ a :: b :: r, 0 < x := fun x hx => pos_pos x (hw.mem_iff.mpr hx)
  have h0 : Pre ((a + b) :: r) L := h'.perm hd.symm
  have hds : TT ds L = TT ((a + b) :: r) L := h'.order h0 (hd.filter _)
  have ha := hall a (by simp)
  have hb := hall b (by simp)
  have hpos : posL ((a + b) :: r) = (a + b) :: r := by
    unfold posL
    rw [List.filter_eq_self]
    intro x hx
    rcases List.mem_cons.mp hx with rfl | hx
    · exact decide_eq_true (by lia  )
    · exact decide_eq_true (hall x (by simp [hx]))
  obtain ⟨_, t1, t2⟩ := h0.total
  have hf := XS_fst ((a + b) :: r) (leastL ((a + b) :: r) L)
  rw [hpos] at hf
  have hlm : ∀ p ∈ XS ((a + b) :: r) (leastL ((a + b) :: r) L), p.2 ≤ L := by
    intro p hp
    obtain ⟨q, _, rfl⟩ := List.mem_map.mp hp
    have := h0.getD q.2.toNat
    show ((leastL ((a + b) :: r) L).getD q.2.toNat 0).toNat ≤ L
    lia  
  rw [hds, t1]
  generalize XS ((a + b) :: r) (leastL ((a + b) :: r) L) = X at *
  cases X with
  | nil => simp at hf
  | cons p X =>
    obtain ⟨c, l⟩ := p
    simp only [List.map_cons, List.cons.injEq] at hf
    obtain ⟨hc, hX⟩ := hf
    have hl := hlm _ List.mem_cons_self
    have hk2 : ∀ (Y : List (Int × Nat)), (∀ p ∈ Y, p.2 ≤ L) → ksum (L + 1) Y = 2 * ksum L Y := by
      intro Y
      induction Y with
      | nil => intro _; rfl
      | cons p Y ih =>
        intro hY
        have h1 := hY p List.mem_cons_self
        have h2 := ih fun q hq => hY q (List.mem_cons_of_mem _ hq)
        unfold ksum at h2 ⊢
        rw [List.map_cons, List.map_cons, List.sum_cons, List.sum_cons, h2, show L + 1 - p.2 = (L - p.2) + 1 by lia  , P2_succ]
        lia  
    have := h.least (X := (a, l + 1) :: (b, l + 1) :: X) (by
      rw [List.map_cons, List.map_cons, hX]
      exact hw.symm) (fun p hp => by
      rcases List.mem_cons.mp hp with rfl | hp
      · show l + 1 ≤ L + 1; lia  
      rcases List.mem_cons.mp hp with rfl | hp
      · show l + 1 ≤ L + 1; lia  
      · have := hlm p (List.mem_cons_of_mem _ hp); lia  ) (by
      have h1 := hk2 X fun p hp => hlm p (List.mem_cons_of_mem _ hp)
      unfold ksum at h1 t2 ⊢
      rw [List.map_cons, List.map_cons, List.sum_cons, List.sum_cons, h1]
      rw [List.map_cons, List.sum_cons] at t2
      rw [show L + 1 - (l + 1) = L - l by lia  , P2_succ]
      simp only at t2
      lia  )
    refine Int.le_trans this (Int.le_of_eq ?_)
    unfold wsum
    simp only [List.map_cons, List.sum_cons]
    rw [show c = a + b from hc, Int.natCast_add, Int.mul_add, Int.mul_add, Int.add_mul]
    simp
    lia  
end
section
set_option maxHeartbeats 8000000
theorem Pre.two_most {cs ds : List Int} {a b : Int} {r : List Int} {L : Nat} (h : Pre cs L) (hw : isort (posL cs) = a :: b :: r) (hd : ds.Perm ((a + b) :: r)) (h' : Pre ds L) : (a + b) + TT ds L ≤ TT cs L := by
  have hall : ∀ x ∈ a :: b :: r, 0 < x := fun x hx => pos_pos x ((isort_perm _).mem_iff.mp (hw ▸ hx))
  have h0 : Pre ((a + b) :: r) L := h'.perm hd.symm
  have hds : TT ds L = TT ((a + b) :: r) L := h'.order h0 (hd.filter _)
  have ha := hall a (by simp)
  have hb := hall b (by simp)
  have hpos : posL ((a + b) :: r) = (a + b) :: r := by
    unfold posL
    rw [List.filter_eq_self]
    intro x hx
    rcases List.mem_cons.mp hx with rfl | hx
    · exact decide_eq_true (by lia  )
    · exact decide_eq_true (hall x (by simp [hx]))
  obtain ⟨e, r0, r1, r2, r3, r4, r5, r6⟩ := h.key
  have hlen : (posL cs).length = r.length + 2 := by rw [← isort_len, hw]; rfl
  have hkr : sm (posL cs).length (fun j => P2 (L - e j)) = P2 L := by
    rw [← h.kraft, ksum_perm r0, sm_range]
    unfold ksum
    rw [List.map_map]
    rfl
  rw [← h.total.1, hw] at r6
  rw [hlen] at hkr r6 r4
  have he0 := r4 0 (by lia  )
  have hel := r2 0
  have he1 : e 1 = e 0 := by
    rcases Nat.lt_or_eq_of_le (r3 0 1 (by lia  )) with hlt | heq
    · exfalso
      have hdiv : sm (r.length + 2) (fun j => P2 (L - e j)) = P2 (L - e 0) * sm (r.length + 2) (fun j => P2 (e 0 - e j)) := by
        rw [← sm_mul]
        refine sm_congr _ fun j _ => ?_
        rw [← P2_add]
        have a := r3 0 j (by lia  )
        congr 1
        lia  
      have hL : P2 L = P2 (L - e 0) * P2 (e 0) := by
        rw [← P2_add]
        congr 1
        lia  
      rw [hdiv, hL] at hkr
      have h1 : sm (r.length + 2) (fun j => P2 (e 0 - e j)) = P2 (e 0) := Int.eq_of_mul_eq_mul_left (Int.ne_of_gt (P2_pos _)) hkr
      rw [sm_succ', Nat.sub_self] at h1
      have h2 : sm (r.length + 1) (fun i => P2 (e 0 - e (i + 1))) = 2 * sm (r.length + 1) (fun i => P2 (e 0 - e (i + 1) - 1)) := by
        rw [← sm_mul]
        refine sm_congr _ fun j _ => ?_
        have a := r3 1 (j + 1) (by lia  )
        rw [← P2_succ]
        congr 1
        lia  
      rw [h2, show e 0 = (e 0 - 1) + 1 by lia  , P2_succ] at h1
      have : P2 0 = 1 := rfl
      lia  
    · exact heq
  have hw0 : ∀ j, (a :: b :: r).getD (j + 2) 0 = r.getD j 0 := fun j => rfl
  rw [sm_succ', sm_succ'] at hkr r6
  have hle := h0.least (X := (a + b, e 0 - 1) :: (List.range r.length).map fun j => (r.getD j 0, e (j + 2))) (by
    rw [hpos, List.map_cons, List.map_map]
    refine List.Perm.of_eq (congrArg (List.cons (a + b)) ?_)
    apply List.ext_getElem?
    intro j
    rw [List.getElem?_map]
    by_cases hj : j < r.length
    · rw [List.getElem?_range hj, List.getElem?_eq_getElem hj]
      show some (r.getD j 0) = _
      rw [getD_get hj]
    · rw [List.getElem?_eq_none (by rw [List.length_range]; lia  ), List.getElem?_eq_none (by lia  )]
      rfl) (fun p hp => by
    rcases List.mem_cons.mp hp with rfl | hp
    · show e 0 - 1 ≤ L; lia  
    · obtain ⟨j, _, rfl⟩ := List.mem_map.mp hp
      exact r2 _) (by
    unfold ksum
    rw [List.map_cons, List.sum_cons, List.map_map]
    have e3 : ((List.range r.length).map ((fun p => P2 (L - p.2)) ∘ fun j => (r.getD j 0, e (j + 2)))).sum = sm r.length (fun i => P2 (L - e (i + 1 + 1))) := by
      rw [sm_range]
      rfl
    rw [e3]
    show P2 (L - (e 0 - 1)) + _ ≤ _
    rw [show L - (e 0 - 1) = (L - e 0) + 1 by lia  , P2_succ]
    rw [show (0 : Nat) + 1 = 1 from rfl, he1] at hkr
    lia  )
  unfold wsum at hle
  rw [List.map_cons, List.sum_cons, List.map_map] at hle
  have e4 : ((List.range r.length).map ((fun p : Int × Nat => p.1 * (p.2 : Int)) ∘ fun j => (r.getD j 0, e (j + 2)))).sum = sm r.length (fun i => (a :: b :: r).getD (i + 1 + 1) 0 * (e (i + 1 + 1) : Int)) := by
    rw [sm_range]
    rfl
  rw [e4] at hle
  have e5 : ((e 0 - 1 : Nat) : Int) = (e 0 : Int) - 1 := by lia  
  simp only [e5] at hle
  rw [show (0 : Nat) + 1 = 1 from rfl, he1] at r6
  have e6 : (a :: b :: r).getD 0 0 = a := rfl
  have e7 : (a :: b :: r).getD 1 0 = b := rfl
  rw [e6, e7] at r6
  rw [Int.mul_sub, Int.mul_one, Int.add_mul] at hle
  rw [hds]
  lia  

theorem le_sum : ∀ {l : List Int}, (∀ x ∈ l, 0 ≤ x) → ∀ x ∈ l, x ≤ l.sum
  | [], _, x, h => nomatch h
  | a :: l, h0, x, h => by
    rw [List.sum_cons]
    have h1 := sum_nonneg l fun y hy => h0 y (List.mem_cons_of_mem _ hy)
    rcases List.mem_cons.mp h with rfl | h
    · lia  
    · have := le_sum (fun y hy => h0 y (List.mem_cons_of_mem _ hy)) x h
      have := h0 a List.mem_cons_self
      lia  
theorem posL_self {w : List Int} (h : ∀ x ∈ w, 0 < x) : posL w = w := by
  unfold posL
  rw [List.filter_eq_self]
  exact fun x hx => decide_eq_true (h x hx)
theorem pre_of {w : List Int} {L n : Nat} (h : ∀ x ∈ w, 0 < x) (hs : w.sum ≤ 100000) (hl : w.length = n + 1) (hn : 1 ≤ n) (h60 : n ≤ 50) (hL : n ≤ L) (hL2 : L ≤ 100) : Pre w L := by
  refine ⟨by lia  , fun c hc => ⟨Int.le_of_lt (h c hc), ?_⟩, by rw [posL_self h]; lia  , by lia  , hL2, ?_⟩
  · have := le_sum (fun x hx => Int.le_of_lt (h x hx)) c hc
    lia  
  · rw [posL_self h, hl]
    have h1 : n < 2 ^ n := Nat.lt_two_pow_self
    have h2 : 2 ^ n ≤ 2 ^ L := Nat.pow_le_pow_right (by decide) hL
    lia  

theorem huff : ∀ (k : Nat) (w : List Int) (L : Nat), Up w → (∀ x ∈ w, 0 < x) → w.sum ≤ 100000 → w.length = k + 2 → k ≤ 40 → k + 1 ≤ L → L ≤ 100 → TT w L = joinT (k + 1) w
  | 0, w, L, hu, h0, hs, hl, hk, hL, hL2 => by
    have hp : Pre w L := pre_of h0 hs hl (by lia  ) (by lia  ) hL hL2
    match w, hl with
    | [a, b], _ =>
      have h1 := hp.ge_sum
      have h2 := hp.bound (ls := [1, 1]) rfl (fun l hl => by
        have : l = 1 := by simpa using hl
        lia  ) (by
        have ha := h0 a (by simp)
        have hb := h0 b (by simp)
        simp only [sm, kz, List.length_cons, List.length_nil, List.getD_cons_zero, List.getD_cons_succ, if_pos ha, if_pos hb]
        have : P2 L = 2 * P2 (L - 1) := by rw [← P2_succ]; congr 1; lia  
        have e1 : (1 : Int).toNat = 1 := rfl
        rw [this, e1]
        lia  )
      simp only [sm, List.length_cons, List.length_nil, List.getD_cons_zero, List.getD_cons_succ, Int.mul_one] at h1 h2
      show TT [a, b] L = ((a + b) + 0 : Int)
      lia  
  | k + 1, w, L, hu, h0, hs, hl, hk, hL, hL2 => by
    have hp : Pre w L := pre_of h0 hs hl (by lia  ) (by lia  ) hL hL2
    match w, hl with
    | a :: b :: r, hl =>
      have hrl : r.length = k + 1 := by simpa using hl
      have ha := h0 a (by simp)
      have hb := h0 b (by simp)
      have hpm : (isort (r ++ [a + b])).Perm ((a + b) :: r) := (isort_perm _).trans (List.perm_append_comm (l₁ := r) (l₂ := [a + b]))
      have h0' : ∀ x ∈ isort (r ++ [a + b]), 0 < x := by
        intro x hx
        rcases List.mem_cons.mp (hpm.mem_iff.mp hx) with rfl | hx
        · lia  
        · exact h0 x (by simp [hx])
      have hs' : (isort (r ++ [a + b])).sum ≤ 100000 := by
        rw [perm_sum hpm, List.sum_cons]
        simp only [List.sum_cons] at hs
        lia  
      have hl' : (isort (r ++ [a + b])).length = k + 2 := by
        rw [hpm.length_eq, List.length_cons, hrl]
      have p1 : Pre (isort (r ++ [a + b])) L := pre_of h0' hs' hl' (by lia  ) (by lia  ) (by lia  ) hL2
      obtain ⟨M, rfl⟩ : ∃ M, L = M + 1 := ⟨L - 1, by lia  ⟩
      have p2 : Pre (isort (r ++ [a + b])) M := pre_of h0' hs' hl' (by lia  ) (by lia  ) (by lia  ) (by lia  )
      have i1 := huff k (isort (r ++ [a + b])) (M + 1) (isort_sorted _) h0' hs' hl' (by lia  ) (by lia  ) hL2
      have i2 := huff k (isort (r ++ [a + b])) M (isort_sorted _) h0' hs' hl' (by lia  ) (by lia  ) (by lia  )
      have hpw : posL (a :: b :: r) = a :: b :: r := posL_self h0
      have u1 := hp.two_least (a := a) (b := b) (r := r) (by rw [hpw]) hpm p2
      have u2 := hp.two_most (a := a) (b := b) (r := r) (by rw [hpw, isort_of hu]) hpm p1
      rw [i2] at u1
      rw [i1] at u2
      show _ = (a + b) + joinT (k + 1) (isort (r ++ [a + b]))
      lia  
end
section
set_option maxHeartbeats 8000000
def insL (l : List Int) (sp : Nat) : List Int := l.take sp ++ [0] ++ l.drop sp
theorem ins_len {l : List Int} {sp : Nat} (h : sp ≤ l.length) : (insL l sp).length = l.length + 1 := by
  unfold insL
  rw [List.length_append, List.length_append, List.length_take, List.length_drop, List.length_singleton]
  lia  
theorem ins_get {l : List Int} {sp : Nat} (h : sp ≤ l.length) (i : Nat) : (insL l sp).getD i 0 = if i < sp then l.getD i 0 else if i = sp then 0 else l.getD (i - 1) 0 := by
  unfold insL
  have hl : (l.take sp ++ [0]).length = sp + 1 := by rw [List.length_append, List.length_take, List.length_singleton]; lia  
  rw [List.getD_eq_getElem?_getD]
  by_cases h1 : i < sp
  · rw [if_pos h1, List.getElem?_append_left (by lia  ), List.getElem?_append_left (by rw [List.length_take]; lia  ), List.getElem?_take, if_pos h1, ← List.getD_eq_getElem?_getD]
  · rw [if_neg h1]
    by_cases h2 : i = sp
    · subst h2
      rw [if_pos rfl, List.getElem?_append_left (by lia  ), List.getElem?_append_right (by rw [List.length_take]; lia  ), List.length_take, show i - min i l.length = 0 by lia  ]
      rfl
    · rw [if_neg h2, List.getElem?_append_right (by lia  ), hl, List.getElem?_drop, show sp + (i - (sp + 1)) = i - 1 by lia  , ← List.getD_eq_getElem?_getD]
theorem ext_getD {a b : List Int} (hl : a.length = b.length) (h : ∀ i, i < a.length → a.getD i 0 = b.getD i 0) : a = b := by
  apply List.ext_getElem hl
  intro i h1 h2
  have := h i h1
  rw [getD_get h1, getD_get h2] at this
  exact this
def UU (l : List Int) (k : Nat) : List (Int × Int) := ((l.zipIdx k).filter fun p => decide (0 < p.1)).map fun p => (p.1, (p.2 : Int))
theorem UU_append (a b : List Int) (k : Nat) : UU (a ++ b) k = UU a k ++ UU b (k + a.length) := by
  unfold UU
  rw [List.zipIdx_append, List.filter_append, List.map_append]
theorem UU_bd {l : List Int} {k : Nat} {r : Int × Int} (h : r ∈ UU l k) : (k : Int) ≤ r.2 ∧ r.2 < (k : Int) + l.length := by
  obtain ⟨q, hq, rfl⟩ := List.mem_map.mp h
  have h3 := List.mem_zipIdx (List.mem_filter.mp hq).1
  simp only
  lia  
theorem UU_succ : ∀ (l : List Int) (k : Nat), UU l (k + 1) = (UU l k).map fun r => (r.1, r.2 + 1)
  | [], k => rfl
  | c :: l, k => by
    have ih := UU_succ l (k + 1)
    unfold UU at ih ⊢
    rw [List.zipIdx_cons, List.zipIdx_cons, List.filter_cons, List.filter_cons]
    by_cases hc : 0 < c
    · simp only [hc, decide_true, if_true, List.map_cons, ih]
      rfl
    · simp only [hc, decide_false, Bool.false_eq_true, if_false, ih]
def shiftS (sp : Nat) (r : Int × Int) : Int × Int := (r.1, if r.2 < (sp : Int) then r.2 else r.2 + 1)
theorem used_ins {cs : List Int} {sp : Nat} (h : sp ≤ cs.length) : usedL (insL cs sp) = (usedL cs).map (shiftS sp) := by
  have hl : (cs.take sp).length = sp := by rw [List.length_take]; lia  
  have e1 : usedL (insL cs sp) = UU (cs.take sp) 0 ++ UU (cs.drop sp) (sp + 1) := by
    show UU (cs.take sp ++ [0] ++ cs.drop sp) 0 = _
    rw [UU_append, UU_append, List.length_append, hl, List.length_singleton]
    have : UU [0] (0 + sp) = [] := rfl
    rw [this, List.append_nil, Nat.zero_add]
  have e2 : usedL cs = UU (cs.take sp) 0 ++ UU (cs.drop sp) sp := by
    have h9 : usedL cs = UU (cs.take sp ++ cs.drop sp) 0 := by rw [List.take_append_drop]; rfl
    rw [h9, UU_append, hl, Nat.zero_add]
  rw [e1, e2, List.map_append, UU_succ]
  congr 1
  · refine (List.map_id' _).symm.trans (List.map_congr_left fun r hr => ?_)
    have := (UU_bd hr).2
    rw [hl] at this
    unfold shiftS
    rw [if_pos (by lia  )]
  · refine List.map_congr_left fun r hr => ?_
    have := (UU_bd hr).1
    unfold shiftS
    rw [if_neg (by lia  )]
theorem sort_ins {cs : List Int} {sp : Nat} (h : sp ≤ cs.length) (h60 : cs.length ≤ 59) : sortU (insL cs sp) = (sortU cs).map (shiftS sp) := by
  refine (sorted_unique (by rw [ins_len h]; lia  ) ?_ ?_).symm
  · rw [used_ins h]
    exact (sortU_perm cs).map _
  · rw [List.pairwise_map]
    refine List.Pairwise.imp_of_mem ?_ (sortU_sorted cs)
    intro a b ha hb hab
    have a1 := usedL_snd (by lia  ) a ((sortU_perm cs).mem_iff.mp ha)
    have b1 := usedL_snd (by lia  ) b ((sortU_perm cs).mem_iff.mp hb)
    unfold keyT shiftS at *
    simp only
    split <;> split <;> lia  
theorem least_ins {cs : List Int} {sp L : Nat} (h : sp ≤ cs.length) (h60 : cs.length ≤ 59) : leastL (insL cs sp) L = insL (leastL cs L) sp := by
  obtain ⟨a1, a2, a3⟩ := least_X (cs := cs) (L := L) (by lia  )
  obtain ⟨b1, b2, b3⟩ := least_X (cs := insL cs sp) (L := L) (by rw [ins_len h]; lia  )
  have hw : (sortU (insL cs sp)).map (·.1) = (sortU cs).map (·.1) := by
    rw [sort_ins h h60, List.map_map]
    rfl
  rw [hw] at b3
  have hl2 := ins_len h
  refine ext_getD (by rw [b1, hl2, ins_len (by lia  ), a1]) fun i hi => ?_
  rw [b1, hl2] at hi
  rw [ins_get (l := leastL cs L) (by lia  )]
  have hg := ins_get h i
  by_cases h0 : (insL cs sp).getD i 0 ≤ 0
  · rw [b2 i (by lia  ) h0]
    rw [hg] at h0
    by_cases h1 : i < sp
    · rw [if_pos h1] at h0 ⊢
      exact (a2 i (by lia  ) h0).symm
    · rw [if_neg h1] at h0 ⊢
      by_cases h2 : i = sp
      · rw [if_pos h2]
      · rw [if_neg h2] at h0 ⊢
        exact (a2 (i - 1) (by lia  ) h0).symm
  · rw [hg] at h0
    have key : ∀ i', i' < cs.length → 0 < cs.getD i' 0 → (if (i' : Int) < (sp : Int) then (i' : Int) else (i' : Int) + 1) = (i : Int) → (leastL (insL cs sp) L).getD i 0 = (leastL cs L).getD i' 0 := by
      intro i' hi' hp hs
      rw [getD_get hi'] at hp
      have hm := (sortU_perm cs).mem_iff.mpr (mem_used hi' hp)
      obtain ⟨j, hj⟩ := List.mem_iff_getElem?.mp hm
      have c1 := a3 j _ hj
      have hj2 : (sortU (insL cs sp))[j]? = some (shiftS sp (cs[i'], (i' : Int))) := by rw [sort_ins h h60, List.getElem?_map, hj]; rfl
      have c2 := b3 j _ hj2
      unfold shiftS at c2
      simp only [hs, Int.toNat_natCast] at c1 c2
      rw [c1, c2]
    by_cases h1 : i < sp
    · rw [if_pos h1] at h0 ⊢
      exact key i (by lia  ) (by lia  ) (by rw [if_pos (by lia  )])
    · rw [if_neg h1] at h0 ⊢
      by_cases h2 : i = sp
      · rw [if_pos h2] at h0
        exact absurd (Int.le_refl 0) h0
      · rw [if_neg h2] at h0 ⊢
        refine key (i - 1) (by lia  ) (by lia  ) ?_
        rw [if_neg (by lia  )]
        lia  
theorem pos_ins {cs : List Int} {sp : Nat} (h : sp ≤ cs.length) : posL (insL cs sp) = posL cs := by
  rw [← used_fst, used_ins h, List.map_map, ← used_fst]
  rfl
end
section
set_option maxHeartbeats 8000000
theorem posL_sm : ∀ (l : List Int), ((posL l).length : Int) = sm l.length (fun i => if 0 < l.getD i 0 then 1 else 0)
  | [] => rfl
  | c :: l => by
    have ih := posL_sm l
    unfold posL at ih ⊢
    rw [List.filter_cons, List.length_cons, sm_succ']
    have e : sm l.length (fun i => if 0 < (c :: l).getD (i + 1) 0 then (1 : Int) else 0) = sm l.length (fun i => if 0 < l.getD i 0 then 1 else 0) := sm_congr _ fun j _ => rfl
    rw [e, ← ih]
    have e0 : (c :: l).getD 0 0 = c := rfl
    by_cases hc : 0 < c
    · simp only [hc, decide_true, if_true, e0, List.length_cons]
      lia  
    · simp [hc]
theorem posL_times {cs : List Int} {k : Int} (hk : 0 < k) : (posL (cs.map fun c => k * c)).length = (posL cs).length := by
  unfold posL
  rw [List.filter_map, List.length_map]
  congr 1
  refine List.filter_congr fun x _ => ?_
  refine decide_eq_decide.mpr ⟨fun h => ?_, fun h => Int.mul_pos hk h⟩
  exact Int.lt_of_mul_lt_mul_left (a := k) (by rw [Int.mul_zero]; exact h) (Int.le_of_lt hk)
theorem lowL_ok : ∀ n, n < 11 → n ≤ 2 ^ lowL n := by decide

theorem law_ok (sc : List Int) : LawOk (lawCs sc) := by
  have hl7 : (sc.take 7).length ≤ 7 := by rw [List.length_take]; lia  
  have hlen : (lawCs sc).length = (sc.take 7).length + 3 := by
    unfold lawCs
    rw [List.length_append, List.length_map]
    rfl
  have hb : ∀ c ∈ lawCs sc, 0 ≤ c ∧ c ≤ 63 := by
    intro c hc
    rcases List.mem_append.mp hc with hc | hc
    · obtain ⟨x, _, rfl⟩ := List.mem_map.mp hc
      lia  
    · simp at hc
      lia  
  have h3 : 3 ≤ (posL (lawCs sc)).length := by
    unfold posL lawCs
    rw [List.filter_append, List.length_append]
    have : (List.filter (fun c => decide (0 < c)) ([1, 2, 5] : List Int)).length = 3 := by decide
    lia  
  have hlast : (lawCs sc).getD ((lawCs sc).length - 1) 0 = 5 := by
    rw [hlen]
    unfold lawCs
    rw [List.getD_eq_getElem?_getD, List.getElem?_append_right (by rw [List.length_map]; lia  ), List.length_map, show (sc.take 7).length + 3 - 1 - (sc.take 7).length = 2 by lia  ]
    rfl
  generalize lawCs sc = cs at *
  have hpl : (posL cs).length ≤ cs.length := List.length_filter_le _ _
  obtain ⟨hlow1, hlow2⟩ := lowL_lt cs.length (by lia  ) (by lia  )
  have hroom0 := lowL_ok cs.length (by lia  )
  generalize hlw : lowL cs.length = low at *
  have hroom : ∀ L, low ≤ L → cs.length ≤ 2 ^ L := fun L hL => Nat.le_trans hroom0 (Nat.pow_le_pow_right (by decide) hL)
  have pre : ∀ L, low ≤ L → L < cs.length → Pre cs L := fun L h1 h2 =>
    ⟨by lia  , fun c hc => ⟨(hb c hc).1, by have := (hb c hc).2; lia  ⟩, by lia  , by lia  , by lia  , Nat.le_trans hpl (hroom L h1)⟩
  have hnn : ∀ i, 0 ≤ cs.getD i 0 ∧ cs.getD i 0 ≤ 63 := by
    intro i
    by_cases hi : i < cs.length
    · rw [getD_get hi]; exact hb _ (List.getElem_mem hi)
    · rw [getD_out (by lia  )]; lia  
  refine ⟨by lia  , ?_, ?_, ?_, ?_, ?_, ?_⟩
  · rw [hlw]
    exact fun L h1 h2 => (pre L h1 h2).fine
  · rw [hlw]
    exact fun L h1 h2 => (pre L h1 h2).posT
  · rw [hlw]
    intro L h1 h2 h4
    have hp := pre L h1 h2
    have hall : ∀ x ∈ isort (posL cs), 0 < x := fun x hx => pos_pos x ((isort_perm _).mem_iff.mp hx)
    have hw : posL (isort (posL cs)) = isort (posL cs) := posL_self hall
    have hp2 : Pre (isort (posL cs)) L := ⟨by rw [isort_len]; lia  , fun c hc => by
      have := hb c (List.mem_filter.mp ((isort_perm _).mem_iff.mp hc)).1
      lia  , by rw [hw, isort_len]; lia  , by lia  , by lia  , by rw [hw, isort_len]; exact Nat.le_trans hpl (hroom L h1)⟩
    rw [hp.order hp2 (by rw [hw]; exact (isort_perm _).symm)]
    have hsum : ∀ (l : List Int), (∀ x ∈ l, x ≤ 63) → l.sum ≤ 63 * (l.length : Int) := by
      intro l
      induction l with
      | nil => intro _; simp
      | cons x l ih =>
        intro hx
        have h5 := hx x List.mem_cons_self
        have h6 := ih fun y hy => hx y (List.mem_cons_of_mem _ hy)
        rw [List.sum_cons, List.length_cons]
        lia  
    have hs := hsum (isort (posL cs)) fun x hx => (hb x (List.mem_filter.mp ((isort_perm _).mem_iff.mp hx)).1).2
    rw [isort_len] at hs
    have := huff ((posL cs).length - 2) (isort (posL cs)) L (isort_sorted _) hall (by lia  ) (by rw [isort_len]; lia  ) (by lia  ) (by lia  ) (by lia  )
    rw [this]
    unfold joinedL
    rw [show (posL cs).length - 2 + 1 = (posL cs).length - 1 by lia  ]
  · rw [hlw]
    exact fun L L' h1 h2 h4 => (pre L h1 (by lia  )).mono h2 (by lia  )
  · rw [hlw]
    intro L sp more h1 h2 h4 h5 h6
    have hp := pre L h1 h2
    have hpR : Pre cs.reverse L := hp.perm (List.reverse_perm _)
    have hpT : Pre (cs.drop sp ++ cs.take sp) L := hp.perm (List.perm_append_comm.trans (List.Perm.of_eq (List.take_append_drop sp cs)))
    have hpM : Pre (cs.map fun c => more * c) L := ⟨by rw [List.length_map]; lia  , fun c hc => by
      obtain ⟨x, hx, rfl⟩ := List.mem_map.mp hc
      have hx2 := hb x hx
      have a1 := Int.mul_nonneg (show 0 ≤ more by lia  ) hx2.1
      have a2 := Int.mul_le_mul h6 hx2.2 hx2.1 (by decide)
      lia  , by rw [posL_times (by lia  )]; lia  , by lia  , by lia  , by rw [posL_times (by lia  )]; exact hp.room⟩
    have hpZ : Pre (insL cs sp) L := ⟨by rw [ins_len (by lia  )]; lia  , fun c hc => by
      obtain ⟨i, hi, rfl⟩ := List.getElem_of_mem hc
      rw [← getD_get hi, ins_get (by lia  )]
      have b1 := hnn i
      have b2 := hnn (i - 1)
      split
      · lia  
      · split <;> lia  , by rw [pos_ins (by lia  )]; lia  , by lia  , by lia  , by rw [pos_ins (by lia  )]; exact hp.room⟩
    exact ⟨hp.fit, hpR.fit, hpR.order hp ((List.reverse_perm cs).filter _), hpT.fit, hpT.order hp ((List.perm_append_comm.trans (List.Perm.of_eq (List.take_append_drop sp cs))).filter _), hpM.fit, hp.times (by lia  ) hpM, hpZ.fit, least_ins (by lia  ) (by lia  )⟩
  · rw [hlw]
    intro L sp h1 h2 h4
    have hp := pre L h1 h2
    have hq : spotG cs sp < cs.length ∧ 0 < cs.getD (spotG cs sp) 0 := by
      unfold spotG
      by_cases h0 : 0 < cs.getD sp 0
      · rw [if_pos h0]; exact ⟨h4, h0⟩
      · rw [if_neg h0, hlast]; exact ⟨by lia  , by decide⟩
    generalize hqe : spotG cs sp = q at *
    have hgl := grown_len hq.1
    have hgp : (posL (grownL cs q)).length = (posL cs).length := by
      have e1 := posL_sm (grownL cs q)
      have e2 := posL_sm cs
      rw [hgl, sm_congr (g := fun i => if 0 < cs.getD i 0 then (1 : Int) else 0) cs.length (fun j _ => by
        by_cases hc : 0 < cs.getD j 0
        · rw [if_pos hc, if_pos ((grown_pos hq.1 hq.2 j).mpr hc)]
        · rw [if_neg hc, if_neg (fun hx => hc ((grown_pos hq.1 hq.2 j).mp hx))])] at e1
      lia  
    have hpG : Pre (grownL cs q) L := ⟨by lia  , fun c hc => by
      obtain ⟨i, hi, rfl⟩ := List.getElem_of_mem hc
      rw [← getD_get hi, grown_get hq.1]
      have := hnn i
      split <;> lia  , by lia  , by lia  , by lia  , by rw [hgp]; exact hp.room⟩
    have hal : (List.zipWith (fun a b => a + b) cs cs.reverse).length = cs.length := by rw [List.length_zipWith, List.length_reverse]; lia  
    have hap : (posL cs).length ≤ (posL (List.zipWith (fun a b => a + b) cs cs.reverse)).length := by
      have e1 := posL_sm (List.zipWith (fun a b => a + b) cs cs.reverse)
      have e2 := posL_sm cs
      rw [hal] at e1
      have e3 := sm_le (f := fun i => if 0 < cs.getD i 0 then (1 : Int) else 0) (g := fun i => if 0 < (List.zipWith (fun a b => a + b) cs cs.reverse).getD i 0 then (1 : Int) else 0) cs.length (fun j hj => by
        rw [added_get hj]
        have := hnn (cs.length - 1 - j)
        by_cases hc : 0 < cs.getD j 0
        · rw [if_pos hc, if_pos (by lia  )]; exact Int.le_refl _
        · rw [if_neg hc]
          split <;> decide)
      lia  
    have hap2 : (posL (List.zipWith (fun a b => a + b) cs cs.reverse)).length ≤ cs.length := by rw [← hal]; exact List.length_filter_le _ _
    have hpA : Pre (List.zipWith (fun a b => a + b) cs cs.reverse) L := ⟨by lia  , fun c hc => by
      obtain ⟨i, hi, rfl⟩ := List.getElem_of_mem hc
      rw [← getD_get hi, added_get (by lia  )]
      have b1 := hnn i
      have b2 := hnn (cs.length - 1 - i)
      lia  , by lia  , by lia  , by lia  , Nat.le_trans hap2 (hroom L h1)⟩
    have hg := hp.grow hq.1 hq.2 hpG
    refine ⟨hp.fit, by rw [hqe]; exact hpG.fit, by rw [hqe]; exact hg.1, by rw [hqe]; exact hg.2, h3, by lia  , ?_, hpA.fit, hp.added hpA⟩
    intro hr
    have hwl : (isort (posL cs)).length = (posL cs).length := isort_len _
    have hw : isort (posL cs) = (bothL cs - (isort (posL cs)).getD 1 0) :: (isort (posL cs)).getD 1 0 :: restL cs := by
      unfold bothL restL
      match hm : isort (posL cs), hwl with
      | [], hwl => simp at hwl; lia  
      | [_], hwl => simp at hwl; lia  
      | a :: b :: r, _ =>
        have e0 : (a :: b :: r).getD 0 0 = a := rfl
        have e1 : (a :: b :: r).getD 1 0 = b := rfl
        rw [e0, e1, show a + b - b = a by lia  ]
        rfl
    have hall : ∀ x ∈ isort (posL cs), 0 < x ∧ x ≤ 63 := fun x hx => ⟨pos_pos x ((isort_perm _).mem_iff.mp hx), (hb x (List.mem_filter.mp ((isort_perm _).mem_iff.mp hx)).1).2⟩
    generalize (isort (posL cs)).getD 1 0 = b at hw
    generalize hbo : bothL cs = bo at *
    generalize hre : restL cs = r at *
    have ha := hall (bo - b) (by rw [hw]; simp)
    have hbb := hall b (by rw [hw]; simp)
    have hrl : r.length + 2 = (posL cs).length := by rw [← hwl, hw]; rfl
    have hall2 : ∀ x ∈ [bo] ++ r, 0 < x ∧ x ≤ 126 := by
      intro x hx
      rcases List.mem_append.mp hx with hx | hx
      · have : x = bo := by simpa using hx
        lia  
      · have := hall x (by rw [hw]; simp [hx])
        lia  
    have hpJ : Pre ([bo] ++ r) (L - 1) := ⟨by rw [List.length_append, List.length_singleton]; lia  , fun c hc => by have := hall2 c hc; lia  ,
      by rw [posL_self fun x hx => (hall2 x hx).1, List.length_append, List.length_singleton]; lia  , by lia  , by lia  , by rw [posL_self fun x hx => (hall2 x hx).1, List.length_append, List.length_singleton]; lia  ⟩
    refine ⟨hpJ.fit, ?_⟩
    obtain ⟨M, rfl⟩ : ∃ M, L = M + 1 := ⟨L - 1, by lia  ⟩
    have := hp.two_least (a := bo - b) (b := b) (r := r) (ds := [bo] ++ r) ((isort_perm _).symm.trans (List.Perm.of_eq hw)) (by rw [show bo - b + b = bo by lia  ]; exact List.Perm.refl _) hpJ
    rw [show bo - b + b = bo by lia  ] at this
    exact this
end
theorem tune_law : True := by
  w_top off
  exact True.intro
theorem ints_snoc_eq {vs : List Value} {ns : List Int} (h : IntsAre vs ns) {x y : Int} (e : x = y) (t : Tok) : IntsAre (vs ++ [.int x t]) (ns ++ [y]) := e ▸ ints_snoc h x t
local macro_rules | `(tactic| walk_at "eval Call") => `(tactic| (k_dflt (refine Call_ ?_)))
inductive LwJ (cs : List Int) (low : Nat) (tA : Addr) (X : List (Addr × Obj)) (m₀ : Str → Option Value) (i : Nat) (m : Str → Option Value) : List (Addr × Obj) → Prop
  | mk (tv : List Value) (tk : Nat) (htv : IntsAre tv ((List.range i).map fun j => TT cs (low + j))) (hS : Same [Str.ofString "longest"] m₀ m) : LwJ cs low tA X m₀ i m ((tA, W.listOf tv.toArray tk) :: X)
theorem lawX : PySem.Challenge.rw_pq1216_01.Holds := by
  refine hd ?_
  k_go0
  k_steps
  walk_at "ecomp0"
  k_steps
  refine Stop.mk ?_
  rename_i oc0 d0 _ D1 ws1 _ F1 N1 hI1 hC1 hL1 l1
  rename List Int => sc
  rename Heap.IsList _ _ _ => hScr
  have hret : True := trivial
  refine src_list (nn := 0) (JI ([(D1, W.listOf ws1.toArray 0), (_, oc0)]) fun i => (((sc.take 7).take i).map fun c => ((c.natAbs : Int)) % 64)) (by rfl) (by rfl) (by rfl) F1 N1 (.head _) ?_ ?_ ⟨.nil⟩ ?_ ?_
  · have := hI1.length
    lia  
  · rintro i ys nx ⟨_⟩
    exact .head _
  · intro i v ys nx h tk own C oC D m₂ E' hp hm1 hJ0 hoC F5 N5 hdis
    induction hJ0
    rename_i hys
    have hlw := hI1.length
    have hil : i < (sc.take 7).length := by
      have := (List.getElem?_eq_some_iff.mp hp).1
      lia  
    obtain ⟨t2, hx2⟩ := hI1.get i (sc.take 7)[i] (List.getElem?_eq_getElem hil)
    have ex : v = .int (sc.take 7)[i] t2 := by rw [hp] at hx2; exact Option.some.inj hx2
    subst ex
    have e9 : (sc.take 7)[i]? = some (sc.take 7)[i] := List.getElem?_eq_getElem hil
    generalize (sc.take 7)[i] = c at *
    rw [List.cons_append, List.cons_append] at N5
    clear F1 N1
    show wpAny _ _ _ _ _ _
    k_steps
    refine endC _ F5 N5 ⟨?_⟩ (fun p hp => by rw [List.cons_append, List.cons_append] at hp; exact hp) hdis
    rw [List.take_add_one, e9, List.map_append]
    refine ints_snoc_eq hys ?_ _
    show (if c < 0 then -c else c).fmod 64 = ((c.natAbs : Int)) % 64
    rw [Int.fmod_eq_emod_of_nonneg _ (by decide), show (if c < 0 then -c else c) = ((c.natAbs : Int)) by split <;> lia  ]
  · intro g ys nx hJ0
    induction hJ0
    rename_i hys
    rw [List.take_of_length_le (by rw [hI1.length]; lia  )] at hys
    intro D h5 tk5 F5 N5 hD
    clear F1 N1
    have hlen7 : (sc.take 7).length ≤ 7 := by rw [List.length_take]; lia  
    have hcs0 : lawCs sc = (sc.take 7).map (fun c => ((c.natAbs : Int)) % 64) ++ [1, 2, 5] := rfl
    have hok := law_ok sc
    have hcsl : (lawCs sc).length = ((sc.take 7).map (fun c => ((c.natAbs : Int)) % 64)).length + (1 + 1 + 1) := by
      unfold lawCs
      rw [List.length_append]
      rfl
    have hcpos : ∀ c ∈ lawCs sc, 0 ≤ c ∧ c ≤ 64 := by
      intro c hc
      rcases List.mem_append.mp hc with hc | hc
      · obtain ⟨x, _, rfl⟩ := List.mem_map.mp hc
        lia  
      · simp at hc
        lia  
    k_steps
    rename_i cA cv _ hcv _ _ F6 N6
    rw [← hcs0] at hcv
    generalize lawCs sc = cs at *
    clear hcs0
    obtain ⟨⟨hlen3, hlen10⟩, hfine, hTpos, hjoin, hmono, hsame, hgrown⟩ := hok
    have hcvl := hcv.length
    have N7 : News _ _ _ ((cA, W.listOf cv.toArray 0) :: (_, oc0) :: []) := fun p hp => N6 p (by
      rcases List.mem_cons.mp hp with rfl | hp
      · exact .head _
      · exact .tail _ (.tail _ (.tail _ (.tail _ hp))))
    clear N6
    walk_at "ecomp1"
    k_steps
    refine Stop.mk ?_
    rename Fr _ _ _ _ => F8
    rename News _ _ _ _ => N8
    refine src_list (nn := 0) (JI (((cA, W.listOf cv.toArray 0) :: (_, oc0) :: [])) fun i => (posL (cs.take i))) (by rfl) (by rfl) (by rfl) F8 N8 (.head _) (by lia  ) ?_ ⟨.nil⟩ ?_ ?_
    · rintro i ys nx ⟨_⟩
      exact .head _
    · intro i v ys nx h tk own C oC D m₂ E' hp hm1 hJ0 hoC F9 N9 hdis
      induction hJ0
      rename_i hys
      have hil : i < cs.length := by
        have := (List.getElem?_eq_some_iff.mp hp).1
        lia  
      obtain ⟨t2, hx2⟩ := hcv.get i cs[i] (by simp [hil])
      have ex : v = .int cs[i] t2 := by rw [hp] at hx2; exact Option.some.inj hx2
      subst ex
      rw [List.cons_append, List.cons_append] at N9
      have e9 : cs.take (i + 1) = cs.take i ++ [cs[i]] := by rw [List.take_add_one, List.getElem?_eq_getElem hil]; rfl
      clear F8 N8
      show wpAny _ _ _ _ _ _
      by_cases hpos : 0 < cs[i]
      · k_steps
        refine endC _ F9 N9 ⟨?_⟩ (fun p hp => by rw [List.cons_append, List.cons_append] at hp; exact hp) hdis
        rw [e9]
        unfold posL at hys ⊢
        rw [List.filter_append]
        have e8 : List.filter (fun c => decide (0 < c)) [cs[i]] = [cs[i]] := by simp [hpos]
        rw [e8]
        exact ints_snoc hys _ _
      · k_steps
        refine endC _ F9 N9 ⟨?_⟩ (fun p hp => by rw [List.cons_append, List.cons_append] at hp; exact hp) hdis
        rw [e9]
        unfold posL at hys ⊢
        rw [List.filter_append]
        have e8 : List.filter (fun c => decide (0 < c)) [cs[i]] = [] := by simp [hpos]
        rw [e8, List.append_nil]
        exact hys
    · intro g ys nx hJ0
      induction hJ0
      rename_i hys
      rw [List.take_of_length_le (by lia  )] at hys
      have hpl := hys.length
      have hpc : (posL cs).length ≤ cs.length := List.length_filter_le _ _
      intro D3 h9 tk9 F9 N9 hD3
      clear F8 N8
      k_steps
      rename_i oc2 d2 _ F10 N10
      have d3 := d2
      rw [← hcsl] at d3
      clear d2
      have N11 : News _ _ _ ((cA, W.listOf cv.toArray 0) :: (_, oc2) :: []) := fun p hp => N10 p (by
        rcases List.mem_cons.mp hp with rfl | hp
        · k_mem
        · exact List.mem_append_right _ hp)
      clear N10
      walk_at "ecomp1"
      k_steps
      refine Stop.mk ?_
      rename IsRange _ _ _ _ _ _ _ _ => hR12
      rename Fr _ _ _ _ => F12
      rename News _ _ _ _ => N12
      refine src_range (n := 9) (JL (((cA, W.listOf cv.toArray 0) :: (_, oc2) :: [])) fun i => ((List.range i).filter fun k => decide (2 ^ k < cs.length)).length) (by rfl) (by rfl) (by rfl) F12 N12 hR12 (by decide) (by decide) (by decide) ⟨rfl⟩ ?_ ?_
      · intro i t9 ys nx h9 tk9 own9 C oC D m₂ E' hi hm hJ0 hoC F13 N13 hdis
        induction hJ0
        rename_i hys
        rw [List.cons_append, List.cons_append] at N13
        have er : List.range (i + 1) = List.range i ++ [i] := List.range_succ
        have ep : ((2 : Int) ^ i < (cs.length : Int)) ↔ 2 ^ i < cs.length := by
          rw [← Int.ofNat_lt, Int.natCast_pow]
          rfl
        have ei : (0 + (i : Int) * 1).toNat = i := by lia  
        clear F12 N12
        show wpAny _ _ _ _ _ _
        k_steps
        · rename _ < (_ : Int) => hlt
          rw [ei] at hlt
          refine endC _ F13 N13 ⟨?_⟩ (fun p hp => by rw [List.cons_append, List.cons_append] at hp; exact hp) hdis
          rw [er, List.filter_append, List.length_append, List.length_append, hys]
          have e8 : List.filter (fun k => decide (2 ^ k < cs.length)) [i] = [i] := by simp [ep.mp hlt]
          rw [e8]
          rfl
        · rename ¬ _ => hlt
          rw [ei, ep] at hlt
          refine endC _ F13 N13 ⟨?_⟩ (fun p hp => by rw [List.cons_append, List.cons_append] at hp; exact hp) hdis
          rw [er, List.filter_append, List.length_append, hys]
          have e8 : List.filter (fun k => decide (2 ^ k < cs.length)) [i] = [] := by simp [hlt]
          rw [e8]
          rfl
      · intro g ys nx hJ0
        induction hJ0
        rename_i hys
        have hll : ys.length = lowL cs.length := hys
        obtain ⟨hlow1, hlow2⟩ := lowL_lt cs.length (by lia  ) hlen3
        clear hys
        generalize lowL cs.length = low at *
        intro D14 h14 tk14 F14 N14 hD14
        have N15 : News _ _ _ ((D14, W.listOf ys.toArray ys.length) :: (cA, W.listOf cv.toArray 0) :: (_, oc2) :: []) := N14
        clear F12 N12 N14
        k_steps
        refine Stop.mk ?_
        rename_i tA _ _ _ _ _ _ _ _ _ _ hR16 F16 N16 _
        have N17 : News _ _ _ ((tA, W.listOf ([] : List Value).toArray 0) :: (cA, W.listOf cv.toArray 0) :: (_, oc2) :: []) := fun p hp => N16 p (by
          rcases List.mem_cons.mp hp with rfl | hp
          · exact .head _
          · exact .tail _ (.tail _ hp))
        clear N16
        refine for_range (n := cs.length - low) (LwJ cs low tA ((cA, W.listOf cv.toArray 0) :: (_, oc2) :: []) _)
          (by rfl) F16 N17 hR16 (small_of (by lia  ) (by lia  ) (by lia  ) (by lia  ) (by lia  ) (by lia  )) (size_ab (by lia  )) ⟨[], 0, .nil, Same.refl⟩ ?_ ?_
        · intro i t m₁ nx h tk own hi hoff hJ0 F18 N18
          induction hJ0
          rename_i tv tk2 htv hS
          have F19 := hS.fr F18
          rw [List.cons_append, List.cons_append, List.cons_append, List.nil_append] at N18
          rw [show ((low : Int) + (i : Int) * 1) = ((low + i : Nat) : Int) by lia  ]
          clear F18 F16 N17
          have hL1 : low ≤ low + i := by lia  
          have hL2 : low + i < cs.length := by lia  
          have hTp := hTpos (low + i) hL1 hL2
          k_steps
          refine Stop.mk ?_
          k_dflt (refine' looked_does _ _ _ _ _ _ cA cv 0 cs (low + i) _ ?m1 hcv (hfine (low + i) hL1 hL2) _ _ _ _ _ _ _ _ _ _ _ _ _ _ _ _ _ ?k1 ?k2 ?k3 ?k4 ?k5 ?kK ?kd ?ku ?_; walk_at "callto")
          (case m1 => k_mem)
          intro t20 h20 tk20 F20 N20
          have htl := htv.length
          rw [List.length_map, List.length_range] at htl
          have ne1 : ∀ p ∈ own, p.1 ≠ tA := fun p hp => hoff p hp tA (.head _)
          have hp2 : 2 ≤ (posL cs).length := by rw [← used_len]; exact (hfine (low + i) hL1 hL2).fit.two
          have eend : ∀ t9, IntsAre (tv ++ [Value.int (TT cs (low + i)) t9]) ((List.range (i + 1)).map fun j => TT cs (low + j)) := by
            intro t9
            rw [List.range_succ, List.map_append]
            exact ints_snoc htv _ _
          k_steps
          · refine Stop.mk ?_
            rename_i hge _
            k_dflt (refine' joined_does _ _ _ _ _ _ cA cv 0 cs ?m1 hcv (by lia  ) hp2 _ _ _ _ _ _ _ _ _ _ _ _ _ _ _ _ _ ?k1 ?k2 ?k3 ?k4 ?k5 ?kK ?kd ?ku ?_; walk_at "callto")
            (case m1 => k_mem)
            intro t21 h21 tk21 F21 N21
            rw [← hjoin (low + i) hL1 hL2 (by lia  )]
            k_steps
            · rename Fr _ _ _ _ => F22
              rename News _ _ _ _ => N22
              refine endG F22 N22 ⟨_, tk2 + 1, eend _, Same.put (by decide) Same.mix⟩ hoff rfl (fun p hp => by simpa using hp)
          · rename Fr _ _ _ _ => F22
            rename News _ _ _ _ => N22
            refine endG F22 N22 ⟨_, tk2 + 1, eend _, Same.put (by decide) Same.mix⟩ hoff rfl (fun p hp => by simpa using hp)
        · intro m₁ nx h tk hJ0 F18 N18
          induction hJ0
          rename_i tv tk2 htv hS
          have F19 := hS.fr F18
          have htl := htv.length
          rw [List.length_map, List.length_range] at htl
          clear F18 F16 N17
          generalize hTs : (List.range (cs.length - low)).map (fun j => TT cs (low + j)) = Ts at *
          have hTl : Ts.length = cs.length - low := by rw [← hTs, List.length_map, List.length_range]
          k_steps
          refine Stop.mk ?_
          refine my_sorted_ints F19 N18 (.head _) htv (by lia  ) fun D20 h20 vs20 k20 F20 N20 hD20 hI20 => ?_
          have hsrt : isort Ts = Ts.reverse := by
            refine (isort_unique (List.reverse_perm _) ?_).symm
            rw [List.pairwise_reverse, ← hTs, List.pairwise_map]
            refine List.Pairwise.imp_of_mem ?_ List.pairwise_lt_range
            intro x y hx hy hxy
            have hx' := List.mem_range.mp hx
            have hy' := List.mem_range.mp hy
            exact hmono (low + x) (low + y) (by lia  ) (by lia  ) (by lia  )
          have hl20 := hI20.length
          rw [hsrt] at hI20
          rw [isort_len] at hl20
          clear F19 N18
          k_steps
          refine Stop.mk ?_
          rename_i D21 ws21 _ F21 N21 hI21 _ _
          rw [List.reverse_reverse] at hI21
          refine ke_ne_ints ⟨_, (N21 (tA, W.listOf tv.toArray tk2) (by k_mem)).1, rfl, tk2, rfl⟩ ⟨_, (N21 (D21, W.listOf ws21.toArray 0) (.head _)).1, rfl, 0, rfl⟩ htv hI21 (by ktr_units) ?_
          rw [decide_eq_true (rfl : Ts = Ts)]
          have N22 : News _ _ _ ((cA, W.listOf cv.toArray 0) :: (_, oc2) :: []) := fun p hp => N21 p (.tail _ (.tail _ (.tail _ hp)))
          clear N21
          rename IntsAre _ sc => hISc
          have hsc63 : sc.length ≤ 63 := by lia  
          k_steps
          refine Stop.mk ?_
          k_dflt (refine' cell_does _ _ _ _ _ _ _ _ sc 0 _ hISc hsc63 (by lia  ) _ _ _ _ _ _ _ _ _ _ _ _ _ _ _ _ _ ?k1 ?k2 ?k3 ?k4 ?k5 ?kK ?kd ?ku ⟨hScr, ?_⟩; walk_at "callto")
          intro t24 h24 tk24 F24 N24
          k_steps
          refine Stop.mk ?_
          k_dflt (refine' cell_does _ _ _ _ _ _ _ _ sc 1 _ hISc hsc63 (by lia  ) _ _ _ _ _ _ _ _ _ _ _ _ _ _ _ _ _ ?k1 ?k2 ?k3 ?k4 ?k5 ?kK ?kd ?ku ⟨hScr, ?_⟩; walk_at "callto")
          intro t25 h25 tk25 F25 N25
          have hc0 : 0 ≤ cellL sc 0 := Int.natCast_nonneg _
          have hc1 : 0 ≤ cellL sc 1 := Int.natCast_nonneg _
          obtain ⟨sp, hsp, hsp2⟩ : ∃ sp : Nat, (cellL sc 0).fmod (cs.length : Int) = (sp : Int) ∧ sp < cs.length := by
            have e1 := Int.fmod_nonneg hc0 (show (0 : Int) ≤ cs.length by lia  )
            have e2 := Int.fmod_lt_of_pos (cellL sc 0) (show (0 : Int) < cs.length by lia  )
            exact ⟨((cellL sc 0).fmod (cs.length : Int)).toNat, by lia  , by lia  ⟩
          obtain ⟨q, hq, hq2⟩ : ∃ q : Nat, (cellL sc 1).fmod ((cs.length : Int) - (low : Int)) = (q : Int) ∧ q < cs.length - low := by
            have e1 := Int.fmod_nonneg hc1 (show (0 : Int) ≤ (cs.length : Int) - (low : Int) by lia  )
            have e2 := Int.fmod_lt_of_pos (cellL sc 1) (show (0 : Int) < (cs.length : Int) - (low : Int) by lia  )
            exact ⟨((cellL sc 1).fmod ((cs.length : Int) - (low : Int))).toNat, by lia  , by lia  ⟩
          have hm1 := Int.fmod_nonneg hc1 (show (0 : Int) ≤ 50 by decide)
          have hm2 := Int.fmod_lt_of_pos (cellL sc 1) (show (0 : Int) < 50 by decide)
          clear F24 N24
          k_steps
          refine Stop.mk ?_
          k_dflt (refine' cell_does _ _ _ _ _ _ _ _ sc 1 _ hISc hsc63 (by lia  ) _ _ _ _ _ _ _ _ _ _ _ _ _ _ _ _ _ ?k1 ?k2 ?k3 ?k4 ?k5 ?kK ?kd ?ku ⟨hScr, ?_⟩; walk_at "callto")
          intro t26 h26 tk26 F26 N26
          rw [hsp, hq, show ((low : Int) + (q : Int)) = ((low + q : Nat) : Int) by lia  ] at F26
          rw [hsp, hq, show ((low : Int) + (q : Int)) = ((low + q : Nat) : Int) by lia  ]
          k_steps
          refine Stop.mk ?_
          k_dflt (refine' same_does _ _ _ _ _ _ cA cv 0 cs (low + q) sp (2 + (cellL sc 1).fmod 50) _ _ _ ?m1 hcv (hsame (low + q) sp _ (by lia  ) (by lia  ) hsp2 (by lia  ) (by lia  )) hsp2 (by lia  ) _ _ _ _ _ _ _ _ _ _ _ _ _ _ _ _ _ ?k1 ?k2 ?k3 ?k4 ?k5 ?kK ?kd ?ku ?_; walk_at "callto")
          (case m1 => k_mem)
          intro h27 tk27 F27 N27
          k_steps
          refine Stop.mk ?_
          k_dflt (refine' grown_does _ _ _ _ _ _ cA cv 0 cs (low + q) sp _ _ ?m1 hcv (hgrown (low + q) sp (by lia  ) (by lia  ) hsp2) hsp2 _ _ _ _ _ _ _ _ _ _ _ _ _ _ _ _ _ ?k1 ?k2 ?k3 ?k4 ?k5 ?kK ?kd ?ku ?_; walk_at "callto")
          (case m1 => k_mem)
          intro h28 tk28 F28 N28
          k_steps
end
end
end Mine
theorem PySem.Challenge.cw_pq1216_01_holds : PySem.Challenge.rw_pq1216_01.Holds := by
  exact Mine.lawX
