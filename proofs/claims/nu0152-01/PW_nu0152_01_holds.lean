import PyProof.Rows.All
import Wide.All
import OpenK.AllK
import Wide.FinOn
import PySem.Challenge.RW_nu0152_01
set_option Elab.async false
set_option compiler.extract_closed false
set_option genSizeOf false
set_option genSizeOfSpec false
set_option genInjectivity false
set_option maxRecDepth 100000
set_option maxHeartbeats 8000000
section
open PySem PySem.W PyProof.Rows
namespace Nu
open_top hd for PySem.Challenge.rw_nu0152_01
end Nu
end
section
theorem Nu.freshNuLoop : True := by
  w_top off
  first | (walk1; done) | trivial
open PySem PySem.W PyProof.Rows PySem.Calls PySem.Spec
namespace Nu
section
variable {prog : Program} {w : World} {A : Around} {E : Value → Shared → Prop} {s : Shared} {env : Env} {h₀ : Heap} {x : Str} {body : List Stmt} {Q : Flow → Shared → Prop}

/-- a loop over a list or a tuple of the ledger, whatever its items: a word J of the turn's number, the frame's map and the ledger -/
theorem loop_vals {I l : Addr} {ol : Obj} {vs : List Value} {St : Nat → Heap → Prop} {m₀ : Str → Option Value} {news : List (Addr × Obj)} (J : Nat → (Str → Option Value) → List (Addr × Obj) → Prop)
    (W : Walks prog w A I [I, l] [I] vs.length (fun i v => vs[i]? = some v) St) (hne : I ≠ env.locals) (hI : h₀.get? I = none) (hIn : ∀ p ∈ news, p.1 ≠ I) (st : St 0 s.heap) (hl : (l, ol) ∈ news)
    (F : Fr h₀ env.locals s.heap m₀) (N : News h₀ env.locals s.heap news) (hj : J 0 m₀ news)
    (turn : ∀ i v m₁ nx h tk own, vs[i]? = some v → nx.map (·.1) = news.map (·.1) → OwnOff own (news.map (·.1)) → (l, ol) ∈ nx → J i m₁ nx → Fr h₀ env.locals h (fun y => if y = x then some v else m₁ y) → News h₀ env.locals h (nx ++ own) →
      wpAny (model prog w) A (execs body env) (InvPostN h₀ env.locals (fun m' nz => (l, ol) ∈ nz ∧ J (i + 1) m' nz) own (news.map (·.1)) { s with heap := h, toks := tk } Q) E { s with heap := h, toks := tk })
    (done : ∀ m₁ nx h tk, (l, ol) ∈ nx → J vs.length m₁ nx → Fr h₀ env.locals h m₁ → News h₀ env.locals h nx → Q .next { s with heap := h, toks := tk }) :
    LoopAtV prog w A h₀ env x body Q E (.ref I) s := by
  refine ⟨I, [I, l], [I], vs.length, _, St, m₀, news, (fun i m nx => nx.map (·.1) = news.map (·.1) ∧ (l, ol) ∈ nx ∧ J i m nx), rfl, W, ?_, ?_, ?_, st, F, N, ⟨rfl, hl, hj⟩, ?_, ?_⟩
  · intro hm
    simp only [List.mem_cons, List.not_mem_nil, or_false] at hm
    rcases hm with e | e
    · exact hne e.symm
    · exact (N _ hl).2.1 e.symm
  · intro b hb
    rw [List.mem_singleton.mp hb]
    exact hI
  · intro p hp hm
    exact hIn p hp (List.mem_singleton.mp hm)
  · rintro i v m₁ nx s₁ own ⟨hh', tk', rfl⟩ hin hP ⟨hadr, hl₁, hJ⟩ hoff hown hget _ _ F₁ N₁
    have addr_ne : ∀ p ∈ nx, p.1 ≠ I := fun p hp e => by
      have h1 : p.1 ∈ news.map (·.1) := hadr ▸ List.mem_map.mpr ⟨p, hp, rfl⟩
      obtain ⟨q, hq, e2⟩ := List.mem_map.mp h1
      exact hIn q hq (e2.trans e)
    let iter := own.filter fun p => decide (p.1 = I)
    have hsep : OwnOff iter (news.map (·.1)) := fun p hp b hb e => by
      obtain ⟨q, hq, rfl⟩ := List.mem_map.mp hb
      have h1 : p.1 = I := by simpa using (List.mem_filter.mp hp).2
      exact hIn q hq (e ▸ h1)
    have lo : hh'.get? l = some ol := (N₁ _ (List.mem_append.mpr (.inr hl₁))).1
    have N₂ : News h₀ env.locals hh' (nx ++ iter) := fun p hp => (List.mem_append.mp hp).elim (fun h => N₁ p (List.mem_append.mpr (.inr h))) fun h => N₁ p (List.mem_append.mpr (.inl (List.mem_filter.mp h).1))
    have fin : ∀ s₂, InvEndN h₀ env.locals (fun m' nz => (l, ol) ∈ nz ∧ J (i + 1) m' nz) iter (news.map (·.1)) { s with heap := hh', toks := tk' } s₂ →
        LoopStepU h₀ env.locals [I] own (fun m nx => nx.map (·.1) = news.map (·.1) ∧ (l, ol) ∈ nx ∧ J (i + 1) m nx) { s with heap := hh', toks := tk' } .next s₂ := by
      rintro s₂ ⟨h', tk, m', news', nz, e, F', N', hn, ho, ha, hm⟩
      have keepOwn : ∀ p ∈ own, p ∈ news' := fun p hp => by
        by_cases h1 : p.1 = I
        · exact ho p (List.mem_filter.mpr ⟨hp, by simpa using h1⟩)
        · have h2 : p.1 = l := by
            have := hown p hp
            simp only [List.mem_cons, List.not_mem_nil, or_false] at this
            exact this.resolve_left h1
          have h3 : hh'.get? p.1 = some p.2 := hget p hp
          rw [h2, lo] at h3
          have h4 : p = (l, ol) := Prod.ext h2 (Option.some.inj h3).symm
          rw [h4]
          exact hn _ hm.1
      refine ⟨rfl, h', tk, m', nz, e, F', fun p hp => (List.mem_append.mp hp).elim (fun h => N' p (keepOwn p h)) fun h => N' p (hn p h), fun p hp hI' => ?_, ha, hm⟩
      have h1 : p.1 ∈ news.map (·.1) := ha ▸ List.mem_map.mpr ⟨p, hp, rfl⟩
      obtain ⟨q, hq, e2⟩ := List.mem_map.mp h1
      exact hIn q hq (e2.trans (List.mem_singleton.mp hI'))
    refine wpAny_mono (turn i v m₁ nx hh' tk' iter hP hadr hsep hl₁ hJ F₁ N₂) (fun f s₂ p => ?_) fun _ _ e => e
    cases f with
    | ret v => exact .ret p
    | brk => exact .brk p
    | next => exact .next (fin _ p)
    | cont => exact .cont (fin _ p)
  · rintro h' tk m' nx F' N' _ ⟨_, hl', hJ⟩
    exact done m' nx h' tk hl' hJ F' N'

theorem list_vals {l : Addr} {vs : List Value} {n : Nat} {m₀ : Str → Option Value} {news : List (Addr × Obj)} (J : Nat → (Str → Option Value) → List (Addr × Obj) → Prop)
    (hh : A.handled = none) (hl : (l, listOf vs.toArray n) ∈ news) (F : Fr h₀ env.locals s.heap m₀) (N : News h₀ env.locals s.heap news) (hj : J 0 m₀ news)
    (turn : ∀ i v m₁ nx h tk own, vs[i]? = some v → nx.map (·.1) = news.map (·.1) → OwnOff own (news.map (·.1)) → (l, listOf vs.toArray n) ∈ nx → J i m₁ nx → Fr h₀ env.locals h (fun y => if y = x then some v else m₁ y) → News h₀ env.locals h (nx ++ own) →
      wpAny (model prog w) A (execs body env) (InvPostN h₀ env.locals (fun m' nz => (l, listOf vs.toArray n) ∈ nz ∧ J (i + 1) m' nz) own (news.map (·.1)) { s with heap := h, toks := tk } Q) E { s with heap := h, toks := tk })
    (done : ∀ m₁ nx h tk, (l, listOf vs.toArray n) ∈ nx → J vs.length m₁ nx → Fr h₀ env.locals h m₁ → News h₀ env.locals h nx → Q .next { s with heap := h, toks := tk }) :
    wpAny (model prog w) A (pyIter (.ref l)) (fun it s₂ => LoopAtV prog w A h₀ env x body Q E it s₂) E s := by
  have ho := (N _ hl).1
  have hls : s.heap.IsList l vs.toArray := ⟨_, ho, rfl, n, rfl⟩
  have hlt : l ≠ s.heap.objs.size := Nat.ne_of_lt (Heap.lt_size ho)
  refine wpAny_pyIter_list hls ?_
  have W := Walks.list (prog := prog) (w := w) hh s.heap.objs.size l hlt vs.toArray
  simp only [List.size_toArray, List.getElem?_toArray] at W
  exact loop_vals J W (Nat.ne_of_gt F.ns.lt) (next_is_new F) (fun p hp => Nat.ne_of_lt (Heap.lt_size (N p hp).1)) ⟨⟨_, Heap.get?_push_size _ rfl, rfl, rfl⟩, hls.at fun o e => Heap.get?_push_of_some _ e⟩ hl (F.push _)
    (fun p hp => ⟨Heap.get?_push_of_some _ (N p hp).1, (N p hp).2⟩) hj turn done

theorem tuple_vals {l : Addr} {vs : List Value} {n : Nat} {m₀ : Str → Option Value} {news : List (Addr × Obj)} (J : Nat → (Str → Option Value) → List (Addr × Obj) → Prop)
    (hh : A.handled = none) (hl : (l, ({ cls := .type "tuple", data := .seq vs.toArray n } : Obj)) ∈ news) (F : Fr h₀ env.locals s.heap m₀) (N : News h₀ env.locals s.heap news) (hj : J 0 m₀ news)
    (turn : ∀ i v m₁ nx h tk own, vs[i]? = some v → nx.map (·.1) = news.map (·.1) → OwnOff own (news.map (·.1)) → (l, ({ cls := .type "tuple", data := .seq vs.toArray n } : Obj)) ∈ nx → J i m₁ nx → Fr h₀ env.locals h (fun y => if y = x then some v else m₁ y) → News h₀ env.locals h (nx ++ own) →
      wpAny (model prog w) A (execs body env) (InvPostN h₀ env.locals (fun m' nz => (l, ({ cls := .type "tuple", data := .seq vs.toArray n } : Obj)) ∈ nz ∧ J (i + 1) m' nz) own (news.map (·.1)) { s with heap := h, toks := tk } Q) E { s with heap := h, toks := tk })
    (done : ∀ m₁ nx h tk, (l, ({ cls := .type "tuple", data := .seq vs.toArray n } : Obj)) ∈ nx → J vs.length m₁ nx → Fr h₀ env.locals h m₁ → News h₀ env.locals h nx → Q .next { s with heap := h, toks := tk }) :
    wpAny (model prog w) A (pyIter (.ref l)) (fun it s₂ => LoopAtV prog w A h₀ env x body Q E it s₂) E s := by
  have ho := (N _ hl).1
  have hls : s.heap.IsTuple l vs.toArray := ⟨_, ho, rfl, n, rfl⟩
  have hlt : l ≠ s.heap.objs.size := Nat.ne_of_lt (Heap.lt_size ho)
  refine wpAny_pyIter_tuple hls ?_
  have W := Walks.tuple (prog := prog) (w := w) hh s.heap.objs.size l hlt vs.toArray
  simp only [List.size_toArray, List.getElem?_toArray] at W
  exact loop_vals J W (Nat.ne_of_gt F.ns.lt) (next_is_new F) (fun p hp => Nat.ne_of_lt (Heap.lt_size (N p hp).1)) ⟨⟨_, Heap.get?_push_size _ rfl, rfl, rfl⟩, hls.at fun o e => Heap.get?_push_of_some _ e⟩ hl (F.push _)
    (fun p hp => ⟨Heap.get?_push_of_some _ (N p hp).1, (N p hp).2⟩) hj turn done

def SeqObj (o : Obj) (vs : List Value) : Prop := ∃ n, o = listOf vs.toArray n ∨ o = ({ cls := .type "tuple", data := .seq vs.toArray n } : Obj)
theorem seq_vals {l : Addr} {ol : Obj} {vs : List Value} {m₀ : Str → Option Value} {news : List (Addr × Obj)} (J : Nat → (Str → Option Value) → List (Addr × Obj) → Prop)
    (hh : A.handled = none) (hO : SeqObj ol vs) (hl : (l, ol) ∈ news) (F : Fr h₀ env.locals s.heap m₀) (N : News h₀ env.locals s.heap news) (hj : J 0 m₀ news)
    (turn : ∀ i v m₁ nx h tk own, vs[i]? = some v → nx.map (·.1) = news.map (·.1) → OwnOff own (news.map (·.1)) → (l, ol) ∈ nx → J i m₁ nx → Fr h₀ env.locals h (fun y => if y = x then some v else m₁ y) → News h₀ env.locals h (nx ++ own) →
      wpAny (model prog w) A (execs body env) (InvPostN h₀ env.locals (fun m' nz => (l, ol) ∈ nz ∧ J (i + 1) m' nz) own (news.map (·.1)) { s with heap := h, toks := tk } Q) E { s with heap := h, toks := tk })
    (done : ∀ m₁ nx h tk, (l, ol) ∈ nx → J vs.length m₁ nx → Fr h₀ env.locals h m₁ → News h₀ env.locals h nx → Q .next { s with heap := h, toks := tk }) :
    wpAny (model prog w) A (pyIter (.ref l)) (fun it s₂ => LoopAtV prog w A h₀ env x body Q E it s₂) E s := by
  obtain ⟨n, rfl | rfl⟩ := hO
  · exact list_vals J hh hl F N hj turn done
  · exact tuple_vals J hh hl F N hj turn done

/-- a frame seen through a few of its names alone -/
theorem fr_small {h₀ h : Heap} {L : Addr} {m : Str → Option Value} (ps : List (Str × Value)) (F : Fr h₀ L h m) (hk : ∀ p ∈ ps, m p.1 = some p.2) : ∃ u, Fr h₀ L h (kstB u ps) :=
  ⟨m, by rw [show kstB m ps = m from funext fun _ => kstB_eq hk fun _ => rfl]; exact F⟩

/-- the word of a loop: a state c tells the ledger and the names that are kept in sight -/
def KV {σ : Type} (Led : σ → List (Addr × Obj)) (ps : σ → List (Str × Value)) (P : σ → Prop) (m : Str → Option Value) (nx : List (Addr × Obj)) : Prop :=
  ∃ c : σ, nx = Led c ∧ (∀ p ∈ ps c, m p.1 = some p.2) ∧ P c

theorem kv_end {σ : Type} {Led : σ → List (Addr × Obj)} {ps : σ → List (Str × Value)} {P : σ → Prop} (c : σ) {L : Addr} {m' : Str → Option Value} {own news' : List (Addr × Obj)} {adr : List Addr} {s₁ : Shared} {h' : Heap} {tk : Nat}
    (F : Fr h₀ L h' m') (N : News h₀ L h' news') (hn : ∀ p ∈ Led c, p ∈ news') (ho : ∀ p ∈ own, p ∈ news') (ha : (Led c).map (·.1) = adr) (hk : ∀ p ∈ ps c, m' p.1 = some p.2) (hp : P c) :
    InvEndN h₀ L (KV Led ps P) own adr s₁ { s₁ with heap := h', toks := tk } := InvEndN.intro F N ⟨c, rfl, hk, hp⟩ ha hn ho

theorem kv_fr {h₀ h : Heap} {L : Addr} {m : Str → Option Value} {ps : List (Str × Value)} {v : Value} (hk : ∀ p ∈ ps, m p.1 = some p.2) (F : Fr h₀ L h (fun y => if y = x then some v else m y)) : Fr h₀ L h (fun y => if y = x then some v else kstB m ps y) := by
  rw [show kstB m ps = m from funext fun _ => kstB_eq hk fun _ => rfl]; exact F

theorem st_ledger {σ : Type} {l : Addr} {ol : Obj} {vs : List Value} {m₀ : Str → Option Value} (Led : σ → List (Addr × Obj)) (ps : σ → List (Str × Value)) (P : Nat → σ → Prop) (c₀ : σ)
    (hh : A.handled = none) (hO : SeqObj ol vs) (hl : ∀ c, (l, ol) ∈ Led c) (F : Fr h₀ env.locals s.heap m₀) (N : News h₀ env.locals s.heap (Led c₀)) (hk : ∀ p ∈ ps c₀, m₀ p.1 = some p.2) (hp : P 0 c₀)
    (turn : ∀ (c : σ) i v (u : Str → Option Value) h tk own, vs[i]? = some v → P i c → OwnOff own ((Led c₀).map (·.1)) →
      Fr h₀ env.locals h (fun y => if y = x then some v else kstB u (ps c) y) → News h₀ env.locals h (Led c ++ own) →
      wpAny (model prog w) A (execs body env) (InvPostN h₀ env.locals (KV Led ps (P (i + 1))) own ((Led c₀).map (·.1)) { s with heap := h, toks := tk } Q) E { s with heap := h, toks := tk })
    (done : ∀ (c : σ) (u : Str → Option Value) h tk, P vs.length c → Fr h₀ env.locals h (kstB u (ps c)) → News h₀ env.locals h (Led c) → Q .next { s with heap := h, toks := tk }) :
    wpAny (model prog w) A (pyIter (.ref l)) (fun it s₂ => LoopAtV prog w A h₀ env x body Q E it s₂) E s := by
  refine seq_vals (fun i m nx => KV Led ps (P i) m nx) hh hO (hl c₀) F N ⟨c₀, rfl, hk, hp⟩ ?_ ?_
  · rintro i v m₁ nx h tk own hv _ hoff _ ⟨c, rfl, h1, hp'⟩ F₁ N₁
    refine wpAny_mono (turn c i v m₁ h tk own hv hp' hoff (kv_fr h1 F₁) N₁) (fun f s₂ p => ?_) fun _ _ x => x
    have up : InvEndN h₀ env.locals (KV Led ps (P (i + 1))) own ((Led c₀).map (·.1)) { s with heap := h, toks := tk } s₂ →
        InvEndN h₀ env.locals (fun m' nz => (l, ol) ∈ nz ∧ KV Led ps (P (i + 1)) m' nz) own ((Led c₀).map (·.1)) { s with heap := h, toks := tk } s₂ := by
      rintro ⟨h', tk', m', news', nx', e', F', N', hn', ho', ha, c', rfl, r⟩
      exact ⟨h', tk', m', news', _, e', F', N', hn', ho', ha, hl c', c', rfl, r⟩
    cases f with
    | ret v => exact p
    | brk => exact p
    | next => exact up p
    | cont => exact up p
  · rintro m₁ nx h tk _ ⟨c, rfl, h1, hp'⟩ F₁ N₁
    refine done c m₁ h tk hp' ?_ N₁
    rw [show kstB m₁ (ps c) = m₁ from funext fun _ => kstB_eq h1 fun _ => rfl]
    exact F₁
end

/-- a node of the walk at which the lines stop -/
def Stop (P : Prop) : Prop := P
section
variable {M : Model} {A : Around} {E : Value → Shared → Prop} {s : Shared} {env : Env}
/-- an if whose test is told by one word: the test is walked apart, then each arm once -/
theorem if_word {test : Expr} {body orelse : List Stmt} {pos : Pos} {Q : Flow → Shared → Prop} (C : Prop)
    (h1 : wpAny M A (isTrue test env (eval test env)) (fun c s' => (∃ tk, s' = { s with toks := tk }) ∧ (c = true ↔ C)) E s)
    (h2 : C → ∀ tk, wpAny M A (execs body env) Q E { s with toks := tk }) (h3 : ¬ C → ∀ tk, wpAny M A (execs orelse env) Q E { s with toks := tk }) :
    wpAny M A (exec (.If test body orelse pos) env) Q E s := by
  refine wpAny_If (wpAny_mono h1 (fun c s' h => ?_) fun _ _ e => e)
  obtain ⟨⟨tk, rfl⟩, hc⟩ := h
  by_cases q : c = true
  · rw [if_pos q]
    exact h2 (hc.mp q) tk
  · rw [if_neg q]
    exact h3 (fun z => q (hc.mpr z)) tk
end
theorem ret_news {h₀ h : Heap} {L : Addr} {a : Addr × Obj} {rest big : List (Addr × Obj)} (N : News h₀ L h (a :: big)) (hs : ∀ p ∈ rest, p ∈ big) : News h₀ L h (a :: rest) := fun p hp => by
  rcases List.mem_cons.mp hp with rfl | hp
  · exact N _ (.head _)
  · exact N p (.tail _ (hs p hp))
theorem under_big {D : Addr} {big news : List (Addr × Obj)} (h : AllLt D big) (hs : ∀ p ∈ news, p ∈ big) : ∀ p ∈ news, p.1 < D := fun p hp => ktn_ltOf h p (hs p hp)

end Nu
end
section
theorem Nu.freshNuTurn : True := by
  w_top off
  first | (walk1; done) | trivial
open PySem PySem.W PyProof.Rows PySem.Calls PySem.Spec
namespace Nu
section
variable {prog : Program} {w : World} {A : Around} {E : Value → Shared → Prop} {s : Shared} {env : Env} {h₀ : Heap} {target : Expr} {body : List Stmt} {Q : Flow → Shared → Prop}

theorem turn_vals {σ : Type} {I l : Addr} {vs : List Value} {St : Nat → Heap → Prop} {m₀ : Str → Option Value} (Led : σ → List (Addr × Obj)) (ps : σ → List (Str × Value)) (P : Nat → σ → Prop) (c₀ : σ)
    (W : Walks prog w A I [I, l] [I] vs.length (fun i v => vs[i]? = some v) St) (hgo : ∀ i v (s : Shared) (Q : Unit → Shared → Prop) (E : Value → Shared → Prop), St i s.heap → Q () s → wpAny (model prog w) A (letOwnedTupleGo target (.ref I) v) Q E s)
    (hne : I ≠ env.locals) (hlL : l ≠ env.locals) (hI : h₀.get? I = none) (hIn : ∀ p ∈ Led c₀, p.1 ≠ I) (st : St 0 s.heap) (hsrc : (∃ o, h₀.get? l = some o) ∨ ∃ ol, ∀ c, (l, ol) ∈ Led c) (hadr : ∀ c, (Led c).map (·.1) = (Led c₀).map (·.1))
    (F : Fr h₀ env.locals s.heap m₀) (N : News h₀ env.locals s.heap (Led c₀)) (hk : ∀ p ∈ ps c₀, m₀ p.1 = some p.2) (hp : P 0 c₀)
    (turn : ∀ (c : σ) i v (u : Str → Option Value) h tk own, vs[i]? = some v → P i c → OwnOff own ((Led c₀).map (·.1)) → Fr h₀ env.locals h (kstB u (ps c)) → News h₀ env.locals h (Led c ++ own) →
      wpAny (model prog w) A (assign target env v) (fun _ s₃ => wpAny (model prog w) A (execs body env) (InvPostN h₀ env.locals (KV Led ps (P (i + 1))) own ((Led c₀).map (·.1)) { s with heap := h, toks := tk } Q) E s₃) E { s with heap := h, toks := tk })
    (done : ∀ (c : σ) (u : Str → Option Value) h tk, P vs.length c → Fr h₀ env.locals h (kstB u (ps c)) → News h₀ env.locals h (Led c) → Q .next { s with heap := h, toks := tk }) :
    TurnsAt prog w A h₀ env target body Q E (.ref I) s := by
  refine ⟨I, [I, l], [I], vs.length, _, _, St, m₀, Led c₀, (fun i m nx => KV Led ps (P i) m nx), rfl, KTurns.ofWalks W hgo, ?_, ?_, ?_, st, F, N, ⟨c₀, rfl, hk, hp⟩, ?_, ?_⟩
  · intro hm
    simp only [List.mem_cons, List.not_mem_nil, or_false] at hm
    rcases hm with e | e
    · exact hne e.symm
    · exact hlL e.symm
  · intro b hb
    rw [List.mem_singleton.mp hb]
    exact hI
  · intro p hp hm
    exact hIn p hp (List.mem_singleton.mp hm)
  · rintro i v m₁ nx hh' tk' own hin hP ⟨c, rfl, h1, hp'⟩ hoff hown hget _ _ F₁ N₁
    let iter := own.filter fun p => decide (p.1 = I)
    have hsep : OwnOff iter ((Led c₀).map (·.1)) := fun p hp b hb e => by
      obtain ⟨q, hq, rfl⟩ := List.mem_map.mp hb
      have h2 : p.1 = I := by simpa using (List.mem_filter.mp hp).2
      exact hIn q hq (e ▸ h2)
    have N₂ : News h₀ env.locals hh' (Led c ++ iter) := fun p hp => (List.mem_append.mp hp).elim (fun h => N₁ p (List.mem_append.mpr (.inr h))) fun h => N₁ p (List.mem_append.mpr (.inl (List.mem_filter.mp h).1))
    have fin : ∀ s₂, InvEndN h₀ env.locals (KV Led ps (P (i + 1))) iter ((Led c₀).map (·.1)) { s with heap := hh', toks := tk' } s₂ →
        LoopStepU h₀ env.locals [I] own (fun m nx => KV Led ps (P (i + 1)) m nx) { s with heap := hh', toks := tk' } .next s₂ := by
      rintro s₂ ⟨h', tk, m', news', nz, e, F', N', hn, ho, ha, hm⟩
      obtain ⟨c', rfl, hm2⟩ := id hm
      have keepOwn : ∀ p ∈ own, p ∈ news' := fun p hp => by
        by_cases h1 : p.1 = I
        · exact ho p (List.mem_filter.mpr ⟨hp, by simpa using h1⟩)
        · have h2 : p.1 = l := by
            have := hown p hp
            simp only [List.mem_cons, List.not_mem_nil, or_false] at this
            exact this.resolve_left h1
          rcases hsrc with ⟨o, hso⟩ | ⟨ol, hol⟩
          · have h3 := (N₁ p (List.mem_append.mpr (.inl hp))).2.2
            rw [h2, hso] at h3
            cases h3
          · have h3 : hh'.get? p.1 = some p.2 := hget p hp
            have h4 : hh'.get? l = some ol := (N₁ _ (List.mem_append.mpr (.inr (hol c)))).1
            rw [h2, h4] at h3
            have h5 : p = (l, ol) := Prod.ext h2 (Option.some.inj h3).symm
            rw [h5]
            exact hn _ (hol c')
      refine ⟨rfl, h', tk, m', Led c', e, F', fun p hp => (List.mem_append.mp hp).elim (fun h => N' p (keepOwn p h)) fun h => N' p (hn p h), fun p hp hI' => ?_, hm⟩
      have h1 : p.1 ∈ (Led c₀).map (·.1) := ha ▸ List.mem_map.mpr ⟨p, hp, rfl⟩
      obtain ⟨q, hq, e2⟩ := List.mem_map.mp h1
      exact hIn q hq (e2.trans (List.mem_singleton.mp hI'))
    refine wpAny_mono (turn c i v m₁ hh' tk' iter hP hp' hsep ?_ N₂) (fun _ s₃ h₃ => wpAny_mono h₃ (fun f s₂ p => ?_) fun _ _ e => e) fun _ _ e => e
    · rw [show kstB m₁ (ps c) = m₁ from funext fun _ => kstB_eq h1 fun _ => rfl]
      exact F₁
    · cases f with
      | ret v => exact .ret p
      | brk => exact .brk p
      | next => exact .next (fin _ p)
      | cont => exact .cont (fin _ p)
  · rintro h' tk m' nx F' N' _ ⟨c, rfl, h1, hp'⟩
    refine done c m' h' tk hp' ?_ N'
    rw [show kstB m' (ps c) = m' from funext fun _ => kstB_eq h1 fun _ => rfl]
    exact F'

/-- a tuple of the written part, any target -/
theorem turn_top {σ : Type} {l : Addr} {vs : List Value} {n : Nat} {m₀ : Str → Option Value} (Led : σ → List (Addr × Obj)) (ps : σ → List (Str × Value)) (P : Nat → σ → Prop) (c₀ : σ)
    (hh : A.handled = none) (hl : h₀.get? l = some ({ cls := .type "tuple", data := .seq vs.toArray n } : Obj)) (hadr : ∀ c, (Led c).map (·.1) = (Led c₀).map (·.1))
    (F : Fr h₀ env.locals s.heap m₀) (N : News h₀ env.locals s.heap (Led c₀)) (hk : ∀ p ∈ ps c₀, m₀ p.1 = some p.2) (hp : P 0 c₀)
    (turn : ∀ (c : σ) i v (u : Str → Option Value) h tk own, vs[i]? = some v → P i c → OwnOff own ((Led c₀).map (·.1)) → Fr h₀ env.locals h (kstB u (ps c)) → News h₀ env.locals h (Led c ++ own) →
      wpAny (model prog w) A (assign target env v) (fun _ s₃ => wpAny (model prog w) A (execs body env) (InvPostN h₀ env.locals (KV Led ps (P (i + 1))) own ((Led c₀).map (·.1)) { s with heap := h, toks := tk } Q) E s₃) E { s with heap := h, toks := tk })
    (done : ∀ (c : σ) (u : Str → Option Value) h tk, P vs.length c → Fr h₀ env.locals h (kstB u (ps c)) → News h₀ env.locals h (Led c) → Q .next { s with heap := h, toks := tk }) :
    wpAny (model prog w) A (pyIter (.ref l)) (fun it s₂ => TurnsAt prog w A h₀ env target body Q E it s₂) E s := by
  have ho := F.keep _ _ hl
  have hls : s.heap.IsTuple l vs.toArray := ⟨_, ho, rfl, n, rfl⟩
  have hlt : l ≠ s.heap.objs.size := Nat.ne_of_lt (Heap.lt_size ho)
  refine wpAny_pyIter_tuple hls ?_
  have W := Walks.tuple (prog := prog) (w := w) hh s.heap.objs.size l hlt vs.toArray
  simp only [List.size_toArray, List.getElem?_toArray] at W
  exact turn_vals Led ps P c₀ W (fun i v s Q E st q => letGo_tupleiter st.1 q) (Nat.ne_of_gt F.ns.lt) (Nat.ne_of_lt (Nat.lt_of_lt_of_le (Heap.lt_size hl) F.above)) (next_is_new F) (fun p hp => Nat.ne_of_lt (Heap.lt_size (N p hp).1)) ⟨⟨_, Heap.get?_push_size _ rfl, rfl, rfl⟩, hls.at fun o e => Heap.get?_push_of_some _ e⟩ (.inl ⟨_, hl⟩) hadr (F.push _)
    (fun p hp => ⟨Heap.get?_push_of_some _ (N p hp).1, (N p hp).2⟩) hk hp turn done

/-- a list of the ledger, any target -/
theorem turn_list {σ : Type} {l : Addr} {vs : List Value} {n : Nat} {m₀ : Str → Option Value} (Led : σ → List (Addr × Obj)) (ps : σ → List (Str × Value)) (P : Nat → σ → Prop) (c₀ : σ)
    (hh : A.handled = none) (hl : ∀ c, (l, listOf vs.toArray n) ∈ Led c) (hadr : ∀ c, (Led c).map (·.1) = (Led c₀).map (·.1))
    (F : Fr h₀ env.locals s.heap m₀) (N : News h₀ env.locals s.heap (Led c₀)) (hk : ∀ p ∈ ps c₀, m₀ p.1 = some p.2) (hp : P 0 c₀)
    (turn : ∀ (c : σ) i v (u : Str → Option Value) h tk own, vs[i]? = some v → P i c → OwnOff own ((Led c₀).map (·.1)) → Fr h₀ env.locals h (kstB u (ps c)) → News h₀ env.locals h (Led c ++ own) →
      wpAny (model prog w) A (assign target env v) (fun _ s₃ => wpAny (model prog w) A (execs body env) (InvPostN h₀ env.locals (KV Led ps (P (i + 1))) own ((Led c₀).map (·.1)) { s with heap := h, toks := tk } Q) E s₃) E { s with heap := h, toks := tk })
    (done : ∀ (c : σ) (u : Str → Option Value) h tk, P vs.length c → Fr h₀ env.locals h (kstB u (ps c)) → News h₀ env.locals h (Led c) → Q .next { s with heap := h, toks := tk }) :
    wpAny (model prog w) A (pyIter (.ref l)) (fun it s₂ => TurnsAt prog w A h₀ env target body Q E it s₂) E s := by
  have ho := (N _ (hl c₀)).1
  have hls : s.heap.IsList l vs.toArray := ⟨_, ho, rfl, n, rfl⟩
  have hlt : l ≠ s.heap.objs.size := Nat.ne_of_lt (Heap.lt_size ho)
  refine wpAny_pyIter_list hls ?_
  have W := Walks.list (prog := prog) (w := w) hh s.heap.objs.size l hlt vs.toArray
  simp only [List.size_toArray, List.getElem?_toArray] at W
  exact turn_vals Led ps P c₀ W (fun i v s Q E st q => letGo_listiter st.1 q) (Nat.ne_of_gt F.ns.lt) (N _ (hl c₀)).2.1 (next_is_new F) (fun p hp => Nat.ne_of_lt (Heap.lt_size (N p hp).1)) ⟨⟨_, Heap.get?_push_size _ rfl, rfl, rfl⟩, hls.at fun o e => Heap.get?_push_of_some _ e⟩ (.inr ⟨_, hl⟩) hadr (F.push _)
    (fun p hp => ⟨Heap.get?_push_of_some _ (N p hp).1, (N p hp).2⟩) hk hp turn done
end
section
variable {prog : Program} {w : World} {A : Around} {E : Value → Shared → Prop} {s : Shared} {env : Env} {h₀ : Heap} {x : Str} {body : List Stmt} {Q : Flow → Shared → Prop}
/-- a range by ones -/
theorem st_range {σ : Type} {r : Addr} {a₀ b₀ : Int} {t₀ u₀ v₀ : Tok} {n : Nat} {m₀ : Str → Option Value} (Led : σ → List (Addr × Obj)) (ps : σ → List (Str × Value)) (P : Nat → σ → Prop) (c₀ : σ)
    (hh : A.handled = none) (hr : IsRange s.heap r a₀ b₀ 1 t₀ u₀ v₀) (hsmall : Builtin.Range.small a₀ b₀ 1 = true) (hn : Builtin.Range.rangeSize a₀ b₀ 1 = (n : Int))
    (F : Fr h₀ env.locals s.heap m₀) (N : News h₀ env.locals s.heap (Led c₀)) (hk : ∀ p ∈ ps c₀, m₀ p.1 = some p.2) (hp : P 0 c₀)
    (turn : ∀ (c : σ) i (k : Int) t (u : Str → Option Value) h tk own, i < n → k = a₀ + (i : Int) → P i c → OwnOff own ((Led c₀).map (·.1)) →
      Fr h₀ env.locals h (fun y => if y = x then some (.int k t) else kstB u (ps c) y) → News h₀ env.locals h (Led c ++ own) →
      wpAny (model prog w) A (execs body env) (InvPostN h₀ env.locals (KV Led ps (P (i + 1))) own ((Led c₀).map (·.1)) { s with heap := h, toks := tk } Q) E { s with heap := h, toks := tk })
    (done : ∀ (c : σ) (u : Str → Option Value) h tk, P n c → Fr h₀ env.locals h (kstB u (ps c)) → News h₀ env.locals h (Led c) → Q .next { s with heap := h, toks := tk }) :
    wpAny (model prog w) A (pyIter (.ref r)) (fun it s₂ => LoopAtV prog w A h₀ env x body Q E it s₂) E s := by
  refine wpAny_pyIter_range hr hsmall ?_
  have W : Walks prog w A s.heap.objs.size [s.heap.objs.size] [s.heap.objs.size] n (fun i v => i < n ∧ ∃ t, v = .int (a₀ + i * 1) t)
      (fun i h => IsRangeIter h s.heap.objs.size (a₀ + (i : Nat) * 1) ((n : Int) - (i : Nat)) 1) := (Walks.range hh _ a₀ 1 n).bound
  refine loop_invN (fun i m nx => KV Led ps (P i) m nx) W ?_ ?_ ?_ ?_ (by show IsRangeIter _ _ _ _ _; rw [hn]; simpa using Heap.get?_push_size _ rfl) (F.push _) (fun p hp => ⟨Heap.get?_push_of_some _ (N p hp).1, (N p hp).2⟩) ⟨c₀, rfl, hk, hp⟩ ?_ ?_
  · intro hm
    exact absurd F.ns.lt ((List.mem_singleton.mp hm) ▸ Nat.lt_irrefl _)
  · intro b hb
    rw [List.mem_singleton.mp hb]
    exact next_is_new F
  · intro p hp hI
    exact absurd (Heap.lt_size (N p hp).1) ((List.mem_singleton.mp hI) ▸ Nat.lt_irrefl _)
  · intro p hp hI
    exact absurd (Heap.lt_size (N p hp).1) ((List.mem_singleton.mp hI) ▸ Nat.lt_irrefl _)
  · rintro i v m₁ nx h tk own hi ⟨_, t, rfl⟩ _ hoff ⟨c, rfl, h1, hp'⟩ F₁ N₁
    exact turn c i _ t m₁ h tk own hi (by omega) hp' hoff (kv_fr h1 F₁) N₁
  · rintro m₁ nx h tk ⟨c, rfl, h1, hp'⟩ F₁ N₁
    refine done c m₁ h tk hp' ?_ N₁
    rw [show kstB m₁ (ps c) = m₁ from funext fun _ => kstB_eq h1 fun _ => rfl]
    exact F₁
end
end Nu
end
section
theorem Nu.freshNuDict : True := by
  w_top off
  first | (walk1; done) | trivial
open PySem PySem.W PyProof.Rows PySem.Calls PySem.Spec
namespace Nu
theorem plain_dict_loop : plainId "dict.update.loop" = true := by decide +kernel
theorem entry_dict_loop : entryFor table "dict.update.loop" = some Builtin.«dict.update.loop» := entryFor_of_tree (by kernel_rfl)
theorem tuple_keys_none : typeLookup (.type "tuple") "keys" = pure none := by rw [typeLookup_type, builtinLookup_eq_fast]; kernel_rfl

section
variable {prog : Program} {w : World} {A : Around} {E : Value → Shared → Prop} {s : Shared}

theorem keys_miss {a : Addr} {xs : Array Value} {k : Nat} {Q : Option Value → Shared → Prop} (hx : s.heap.get? a = some { cls := .type "tuple", data := .seq xs k }) (hA : A.handled = none)
    (h : ∀ h' tk, (∀ b ob, s.heap.get? b = some ob → h'.get? b = some ob) → Q none { s with heap := h', toks := tk }) :
    wpAny (model prog w) A (getAttr? (.ref a) "keys") Q E s := by
  obtain ⟨hp, g, d, tk, os⟩ := s
  have hT : ∀ tk', (⟨hp, g, d, tk', os⟩ : Shared).TypeIs (.ref a) "tuple" := fun _ => ⟨_, hx, rfl⟩
  have f1 := sub_AttributeError
  have f3 := F.slot_tuple_getattribute.lookup
  have f4 := F.slot_tuple_getattribute.bind (.ref a)
  have f5 := am_tuple_getattr_none
  unfold getAttr? getAttrBy? getAttrBy
  repeat (any_goals (first | assumption | exact hT _ | ((with_reducible show wpAny _ _ (call (Value.builtin "tuple.__getattribute__") _ _) _ _ _); refine call_meets F.slot_tuple_getattribute (hT _) am_entry_tuple_getattribute (F.args_tuple_getattribute_2 _ _) (meets_getattribute_miss_tuple a xs k #[] "keys" _ tuple_keys_none (by decide +kernel) (by decide)) ⟨hx, hA, fun h' tk' e hx' => ?_⟩) | wp_step))
  obtain ⟨t', u', he⟩ := hx'.there
  show wpAny _ _ (getattributeRaised _ _ _ _ _ _ _) _ _ _
  unfold getattributeRaised
  repeat (any_goals (first | assumption | wp_step))
  exact h _ _ hx'.keeps

/-- what the loop of dict(pairs) wants of its source: each item a tuple of a text and a value -/
def PairsIn (hb : Heap) : List Value → List (Str × Value) → Prop
  | [], [] => True
  | v :: vs, (k, x) :: r => (∃ p tk n, v = .ref p ∧ hb.get? p = some ({ cls := .type "tuple", data := .seq #[.str k tk, x] n } : Obj)) ∧ PairsIn hb vs r
  | _, _ => False
theorem PairsIn.length {hb : Heap} : ∀ {vs : List Value} {ps : List (Str × Value)}, PairsIn hb vs ps → vs.length = ps.length
  | [], [], _ => rfl
  | _ :: _, _ :: _, h => by rw [List.length_cons, List.length_cons, PairsIn.length h.2]
  | [], _ :: _, h => h.elim
  | _ :: _, [], h => h.elim
theorem PairsIn.get {hb : Heap} : ∀ {vs : List Value} {ps : List (Str × Value)} {i : Nat} {v : Value}, PairsIn hb vs ps → vs[i]? = some v →
    ∃ k x p tk n, ps[i]? = some (k, x) ∧ v = .ref p ∧ hb.get? p = some ({ cls := .type "tuple", data := .seq #[.str k tk, x] n } : Obj)
  | _ :: _, (k, x) :: _, 0, v, h, e => by
    obtain ⟨⟨p, tk, n, e1, e2⟩, _⟩ := h
    simp only [List.getElem?_cons_zero, Option.some.injEq] at e
    subst e
    exact ⟨k, x, p, tk, n, rfl, e1, e2⟩
  | _ :: vs, (_, _) :: ps, i + 1, v, h, e => by
    have := PairsIn.get (i := i) (v := v) h.2 (by simpa using e)
    simpa using this
  | [], [], _, _, _, e => by simp at e
  | [], _ :: _, _, _, h, _ => h.elim
  | _ :: _, [], _, _, h, _ => h.elim

theorem dict_loop {hb : Heap} {d I t : Addr} {vs : List Value} {ps : List (Str × Value)} {R : Result → Shared → Prop} {A : Around} (hh : A.handled = none) (hdI : d ≠ I) (hdt : d ≠ t) (htI : t ≠ I) (hI0 : hb.get? I = none) (hd0 : hb.get? d = none)
    (P : PairsIn hb vs ps) (hsz : ps.length ≤ sizeLine) :
    ∀ (k i : Nat) (n : Int) (tk : Tok) (s : Shared), vs.length - i = k → i ≤ vs.length → s.heap.IsTupleIter I t i → s.heap.IsTuple t vs.toArray → s.heap.DictOf (strKind prog w) d (merged [] (ps.take i)) → (∀ b o, hb.get? b = some o → s.heap.get? b = some o) →
      (∀ h' tk', h'.DictOf (strKind prog w) d (merged [] ps) → (∀ b o, hb.get? b = some o → h'.get? b = some o) → R (.ok (.ret .none)) { s with heap := h', toks := tk' }) →
      codeAny (model prog w) A (.builtin "dict.update.loop" ⟨[.ref d, .ref I, .int n tk, .none], []⟩) R s := by
  have W := Walks.tuple (prog := prog) (w := w) (A := A.in1) hh I t htI vs.toArray
  have hlen := P.length
  intro k
  induction k with
  | zero =>
    intro i n tk s hk hi hit htp hD keep hR
    have hin : i = vs.length := by omega
    subst hin
    refine codeAny_builtin entry_dict_loop ?_
    rw [Around.under_plainId plain_dict_loop _]
    show wpAny _ A.in1 (pyNext (.ref I) >>= _) _ _ s
    refine wpAny_bind (W.done s _ _ ⟨by simpa using hit, htp⟩ fun h' tk' hm => ?_)
    show wpAny _ A.in1 (Builtin.Dict.addKeywords d [] >>= fun _ => ret .none) _ _ _
    refine wpAny_bind (wpAny_pure (wpAny_pure ?_))
    refine hR h' tk' ?_ (fun b o e => hm b o (by simpa using fun (q : b = I) => by rw [q, hI0] at e; cases e) (keep b o e))
    rw [hlen, List.take_length] at hD
    obtain ⟨o, es, ep, ho, r⟩ := hD
    exact ⟨o, es, ep, hm d o (by simpa using hdI) ho, r⟩
  | succ k ih =>
    intro i n tk s hk hi hit htp hD keep hR
    have hlt : i < vs.length := by omega
    refine codeAny_builtin entry_dict_loop ?_
    rw [Around.under_plainId plain_dict_loop _]
    show wpAny _ A.in1 (pyNext (.ref I) >>= _) _ _ s
    refine wpAny_bind (W.item i s _ _ (by simpa using hlt) ⟨hit, htp⟩ fun v h' tk' hP hst' hm => ?_)
    obtain ⟨hit', htp'⟩ := hst'
    obtain ⟨key, x, p, tkk, np, hps, rfl, hp⟩ := P.get (i := i) (v := v) (by simpa using hP)
    have keep' : ∀ b o, hb.get? b = some o → h'.get? b = some o := fun b o e => hm b o (by simpa using fun (q : b = I) => by rw [q, hI0] at e; cases e) (keep b o e)
    have hD' : h'.DictOf (strKind prog w) d (merged [] (ps.take i)) := by
      obtain ⟨o, es, ep, ho, r⟩ := hD
      exact ⟨o, es, ep, hm d o (by simpa using hdI) ho, r⟩
    have hpo := keep' p _ hp
    refine wpAny_bind (wpAny_holding ?_)
    refine wpAny_bind (wpAny_tryCatch ?_)
    unfold Builtin.Dict.pairItems
    refine wpAny_bind (wpAny_typeOf (T := "tuple") ⟨_, hpo, rfl⟩ ?_)
    rw [if_pos (by decide)]
    refine wpAny_bind (wpAny_seqItems hpo rfl (wpAny_pure ?_))
    show wpAny _ A.in1 (holding [.str key tkk, x] (dictSet d (.str key tkk) x)) _ _ _
    refine wpAny_holding ?_
    have hml : (merged [] (ps.take i)).length ≤ sizeLine := by
      have h1 := merged_length_le ([] : List (Str × Value)) (ps.take i)
      have h2 : (ps.take i).length ≤ ps.length := by rw [List.length_take]; exact Nat.min_le_right _ _
      simp only [List.length_nil, Nat.zero_add] at h1
      omega
    refine wpAny_dictSet_pairs (knd := strKind prog w) (k := key) (strKind_is prog w key tkk) hD' (fun h₂ hD₂ hs₂ => ?_) hml
    show wpAny _ A.in1 (again _) _ _ _
    refine wpAny_pure ⟨plainId_quiet plain_dict_loop _, ?_⟩
    refine ih (i + 1) (n + 1) _ _ (by omega) hlt (hit'.at fun o e => (hs₂.2 I (Ne.symm hdI)).trans e) (htp'.at fun o e => (hs₂.2 t (Ne.symm hdt)).trans e) ?_
      (fun b o e => (hs₂.2 b fun q => by rw [q, hd0] at e; cases e).trans (keep' b o e)) ?_
    · rw [merged_take_succ [] ps i (key, x) hps]
      exact hD₂
    · intro h₃ tk₃ hD₃ hk₃
      exact hR h₃ tk₃ hD₃ hk₃
end

section
variable {prog : Program} {w : World} {A : Around} {E : Value → Shared → Prop} {s : Shared} {h₀ : Heap} {L t : Addr} {m : Str → Option Value} {news : List (Addr × Obj)} {vs : List Value} {ps : List (Str × Value)} {nt : Nat} {D : List (PyData × PyData)}

theorem dict_of_pairs {Q : Value → Shared → Prop} (hh : A.handled = none) (F : Fr h₀ L s.heap m) (N : News h₀ L s.heap news) (hbig : h₀.NoLimit) (ht : s.heap.get? t = some { cls := .type "tuple", data := .seq vs.toArray nt }) (P : PairsIn s.heap vs ps)
    (hnd : (ps.map (·.1)).Nodup) (hf : PyProof.V.FlatPairs PyData.str ps D) (hsz : ps.length ≤ sizeLine)
    (h : ∀ d h' o kvs tk', Fr h₀ L h' m → News h₀ L h' ((d, o) :: news) → (∀ p ∈ news, p.1 < d) → (d == sysModules) = false → o.IsDictOf (strKind prog w) kvs → PyProof.V.FlatPairs PyData.str kvs D → Q (.ref d) { s with heap := h', toks := tk' }) :
    wpAny (model prog w) A (call (.type "dict") [.ref t]) Q E s := by
  refine callType_codes (Q₁ := fun obj s₁ => obj = .ref s.heap.objs.size ∧ s₁ = { s with heap := s.heap.push { cls := .type "dict", data := .dict #[] } }) PySem.F.kt_called_dict (PySem.F.kt_typeCall_dict_1 _) PySem.F.entry_dict_init (kt_code_dict_new _ ⟨rfl, rfl⟩) ?_
  rintro obj s₁ ⟨rfl, rfl⟩
  have hnew : (s.heap.push { cls := .type "dict", data := .dict #[] }).DictOf (strKind prog w) s.heap.objs.size [] := Heap.DictOf.new s.heap
  have htt : (s.heap.push { cls := .type "dict", data := .dict #[] }).get? t = some { cls := .type "tuple", data := .seq vs.toArray nt } := Heap.get?_push_of_some _ ht
  have htlt : t < s.heap.objs.size := Heap.lt_size ht
  refine ⟨hnew.typeIs, PySem.F.args_dict_init_2 _ _, ?_⟩
  unfold Builtin.«dict.__init__»
  refine wpAny_bind ?_
  unfold Builtin.Dict.selfAndRest
  refine wpAny_bind (wpAny_notOrdered_dict hnew.typeIs ?_)
  show wpAny _ _ (pure (s.heap.objs.size, [Value.ref t])) _ _ _
  refine wpAny_pure ?_
  show wpAny _ _ (Builtin.Dict.updateFrom "dict.__init__" s.heap.objs.size (.ref t) [] .none) _ _ _
  unfold Builtin.Dict.updateFrom
  refine wpAny_bind (wpAny_typeOf (T := "tuple") ⟨_, htt, rfl⟩ ?_)
  rw [if_pos (by decide)]
  refine wpAny_bind (keys_miss htt hh fun h₁ tk₁ k₁ => ?_)
  show wpAny _ _ (rule _ >>= _) _ _ _
  refine wpAny_bind (wpAny_rule ?_)
  have ht1 : h₁.IsTuple t vs.toArray := ⟨_, k₁ _ _ htt, rfl, nt, rfl⟩
  refine wpAny_bind (wpAny_pyIter_tuple ht1 ?_)
  show wpAny _ _ (again _) _ _ _
  refine wpAny_pure ⟨plainId_quiet plain_dict_loop _, ?_⟩
  have hd1 : ∃ o, h₁.get? s.heap.objs.size = some o := let ⟨o, _, _, ho, _⟩ := hnew; ⟨o, k₁ _ _ ho⟩
  obtain ⟨od, hod⟩ := hd1
  have hlt1 : s.heap.objs.size < h₁.objs.size := Heap.lt_size hod
  have hd0 : s.heap.get? s.heap.objs.size = none := Heap.get?_none_of_le (Nat.le_refl _)
  have hI0 : s.heap.get? h₁.objs.size = none := Heap.get?_none_of_le (Nat.le_of_lt hlt1)
  refine dict_loop (prog := prog) (w := w) (A := A.in1) (hb := s.heap) (d := s.heap.objs.size) (I := h₁.objs.size) (t := t) (vs := vs) (ps := ps) hh (Nat.ne_of_lt hlt1) (Nat.ne_of_gt htlt) (Nat.ne_of_lt (Nat.lt_trans htlt hlt1)) hI0 hd0 P hsz _ 0 0 0 _ rfl (Nat.zero_le _)
    ?_ ?_ ?_ ?_ ?_
  · exact ⟨_, Heap.get?_push_size _ rfl, rfl, rfl⟩
  · exact ht1.at fun o e => Heap.get?_push_of_some _ e
  · obtain ⟨o, es, ep, ho, r⟩ := hnew
    exact ⟨o, es, ep, Heap.get?_push_of_some _ (k₁ _ _ ho), r⟩
  · intro b o e
    exact Heap.get?_push_of_some _ (k₁ _ _ (Heap.get?_push_of_some _ e))
  · intro h' tk' hD hk
    rw [merged_nil_of_nodup ps hnd] at hD
    obtain ⟨o, ho, hdo⟩ := Heap.dictOf_iff.mp hD
    refine ⟨rfl, h _ h' o ps tk' (F.keeps hk) ?_ (fun p hp => Heap.lt_size (N p hp).1) (F.notModules (modules_low hbig)) hdo hf⟩
    intro q hq
    rcases List.mem_cons.mp hq with rfl | hq
    · exact ⟨ho, Nat.ne_of_gt F.ns.lt, next_is_new F⟩
    · exact ⟨hk _ _ (N q hq).1, (N q hq).2⟩
end
end Nu
end
section
theorem Nu.freshNuCut : True := by
  w_top off
  first | (walk1; done) | trivial
open PySem PySem.W PyProof.Rows PySem.Calls PySem.Spec
namespace Nu
/-- a state told by a few names of the frame and a ledger -/
def At {σ : Type} (s : Shared) (h₀ : Heap) (L : Addr) (Led : σ → List (Addr × Obj)) (ps : σ → List (Str × Value)) (P : σ → Prop) (s' : Shared) : Prop :=
  ∃ (c : σ) (u : Str → Option Value) (h : Heap) (tk : Nat), s' = { s with heap := h, toks := tk } ∧ Fr h₀ L h (kstB u (ps c)) ∧ News h₀ L h (Led c) ∧ P c
theorem at_intro {σ : Type} {s : Shared} {h₀ : Heap} {L : Addr} {Led : σ → List (Addr × Obj)} {ps : σ → List (Str × Value)} {P : σ → Prop} (c : σ) {h' : Heap} {tk : Nat} {m' : Str → Option Value} {news' : List (Addr × Obj)}
    (F : Fr h₀ L h' m') (N : News h₀ L h' news') (hn : ∀ p ∈ Led c, p ∈ news') (hk : ∀ p ∈ ps c, m' p.1 = some p.2) (hp : P c) : At s h₀ L Led ps P { s with heap := h', toks := tk } :=
  let ⟨u, Fu⟩ := fr_small (ps c) F hk
  ⟨c, u, h', tk, rfl, Fu, fun p hp => N p (hn p hp), hp⟩
def AtNext {σ : Type} (s : Shared) (h₀ : Heap) (L : Addr) (Led : σ → List (Addr × Obj)) (ps : σ → List (Str × Value)) (P : σ → Prop) (f : Flow) (s' : Shared) : Prop := f = .next ∧ At s h₀ L Led ps P s'
section
variable {M : Model} {A : Around} {E : Value → Shared → Prop} {s : Shared} {env : Env} {S : Stmt} {rest : List Stmt} {Q : Flow → Shared → Prop}
theorem cut {σ : Type} {h₀ : Heap} {L : Addr} {hh : Heap} {mm : Str → Option Value} (_ : Fr h₀ L hh mm) (Led : σ → List (Addr × Obj)) (ps : σ → List (Str × Value)) (P : σ → Prop)
    (h1 : ∀ E' : Value → Shared → Prop, wpAny M A (exec S env) (AtNext s h₀ L Led ps P) E' s)
    (h2 : ∀ (c : σ) (u : Str → Option Value) h tk, Fr h₀ L h (kstB u (ps c)) → News h₀ L h (Led c) → P c → wpAny M A (execs rest env) Q E { s with heap := h, toks := tk }) :
    wpAny M A (execs (S :: rest) env) Q E s := by
  refine wpAny_execs_cons (wpAny_mono (h1 E) (fun f s' h => ?_) fun _ _ e => e)
  obtain ⟨rfl, c, u, h, tk, rfl, F, N, hp⟩ := h
  exact h2 c u h tk F N hp
/-- a cut that keeps the ledger and the names told so far, and tells new ones -/
theorem cutN {σ : Type} {h₀ : Heap} {L : Addr} {hh : Heap} {u0 : Str → Option Value} {ps0 : List (Str × Value)} {own : List (Addr × Obj)} (_ : Fr h₀ L hh (kstB u0 ps0)) (_ : News h₀ L hh own)
    (new : σ → List (Addr × Obj)) (nps : σ → List (Str × Value)) (P : σ → Prop)
    (h1 : ∀ E' : Value → Shared → Prop, wpAny M A (exec S env) (AtNext s h₀ L (fun c => new c ++ own) (fun c => nps c ++ ps0) P) E' s)
    (h2 : ∀ (c : σ) (u : Str → Option Value) h tk, Fr h₀ L h (kstB u (nps c ++ ps0)) → News h₀ L h (new c ++ own) → P c → wpAny M A (execs rest env) Q E { s with heap := h, toks := tk }) :
    wpAny M A (execs (S :: rest) env) Q E s := cut (by assumption) _ _ P h1 h2
end
end Nu
end
section
theorem Nu.freshNuDraw : True := by
  w_top off
  first | (walk1; done) | trivial
open PySem PySem.W PyProof.Rows PySem.Calls PySem.Spec
namespace Nu

theorem draw_core : ∀ (w : World) (mg mb : Str → Option Value) (mean : ExcName → Option Value) (dp un : Nat) (gd : Option (List Code)) (cn : Str) (cs : Scope) (a : Addr) (ccd : Value) (cl : List (Str × Addr)) (outer : List Env) (A₀ : Around) (base h₀ : Heap) (L : Addr) (m : Str → Option Value) (s : Shared) (Q E : Value → Shared → Prop)
    (own : List (Addr × Obj)) (tape cells : Addr) (n nc : Nat) (vs : List Value) (ns : List Int) (pl : Int) (t : Tok) (lim : Int) (tl : Tok),
    Below A₀ base outer h₀ → Fr h₀ L s.heap m → (Nu.hd.heap_39 w.params).In h₀ → News h₀ L s.heap ((tape, listOf #[.ref cells, .int pl t] n) :: (cells, listOf vs.toArray nc) :: own) →
    Top Nu.hd.view_39 (looseW Nu.hd.view_39 [Str.ofString "FLAG_WORDS"]) mean mg mb h₀ → cs.kind = .function → OwnOff own [tape] → @LT.lt Nat _ cells tape → IntsAre vs ns → 0 < ns.length → ns.length ≤ 40 → 0 ≤ pl → pl < 64 → 0 < lim → dp + 1 < recursionLimit → un + 8 < cLine →
    (∀ (r : Int) (t t' : Tok) (h' : Heap) (tk' n' : Nat), 0 ≤ r → r < lim → Fr h₀ L h' m → News h₀ L h' ((tape, listOf #[.ref cells, .int (pl + 1) t'] n') :: (cells, listOf vs.toArray nc) :: own) → Q (.int r t) { s with heap := h', toks := tk' }) →
    wpAny (model PySem.Challenge.rw_nu0152_01.row.prog w) (ktrTop dp un gd cn cs L a ccd cl outer) (call (.ref 189) [.ref tape, .int lim tl]) Q E s := by
  k_fill
  intro w mg mb mean dp un gd cn cs a ccd cl outer A₀ base h₀ L m s Q E own tape cells n nc vs ns pl t lim tl B F X N T hk hoff hne hi hn0 hn hp0 hp1 hlim hd hu hret
  have hMk := kstMark
  refine wpAny_call ?_
  k_dflt cell_enter
  k_steps
  all_goals exact hret _ _ _ _ _ _ (Int.fmod_nonneg_of_pos _ hlim) (Int.fmod_lt_of_pos _ hlim) (by k_asm) (by k_asm)

inductive Del (d : Addr) (o : Obj) : List (Addr × Obj) → List (Addr × Obj) → Prop
  | head {r} : (∀ p ∈ r, p.1 ≠ d) → Del d o ((d, o) :: r) r
  | tail {p r r'} : p.1 ≠ d → Del d o r r' → Del d o (p :: r) (p :: r')

theorem Del.split {d : Addr} {o : Obj} : ∀ {l l' : List (Addr × Obj)}, Del d o l l' → (d, o) ∈ l ∧ (∀ p ∈ l', p ∈ l) ∧ ∀ p ∈ l', p.1 ≠ d
  | _, _, .head h => ⟨.head _, fun _ hp => .tail _ hp, h⟩
  | _, _, .tail (p := p) h r =>
    let ⟨a, b, c⟩ := r.split
    ⟨.tail _ a, fun q hq => by rcases List.mem_cons.mp hq with rfl | hq; exact .head _; exact .tail _ (b q hq), fun q hq => by rcases List.mem_cons.mp hq with rfl | hq; exact h; exact c q hq⟩

theorem draw_use {w : World} {mg mb : Str → Option Value} {mean : ExcName → Option Value} {dp un : Nat} {gd : Option (List Code)} {cn : Str} {cs : Scope} {a : Addr} {ccd : Value} {cl : List (Str × Addr)} {outer : List Env} {A₀ : Around} {base h₀ : Heap} {L : Addr} {m : Str → Option Value} {s : Shared} {Q E : Value → Shared → Prop}
    {news own : List (Addr × Obj)} {tape cells : Addr} {n nc : Nat} {vs : List Value} {ns : List Int} {pl : Int} {t : Tok} {lim : Int} {tl : Tok}
    (B : Below A₀ base outer h₀) (F : Fr h₀ L s.heap m) (X : (Nu.hd.heap_39 w.params).In h₀) (N : News h₀ L s.heap news)
    (T : Top Nu.hd.view_39 (looseW Nu.hd.view_39 [Str.ofString "FLAG_WORDS"]) mean mg mb h₀) (hk : cs.kind = .function)
    (D : Del tape (listOf #[.ref cells, .int pl t] n) news own) (hc : (cells, listOf vs.toArray nc) ∈ news) (hne : @LT.lt Nat _ cells tape) (hi : IntsAre vs ns) (hn0 : 0 < ns.length) (hn : ns.length ≤ 40) (hp0 : 0 ≤ pl) (hp1 : pl < 64) (hlim : 0 < lim) (hd : dp + 1 < recursionLimit) (hu : un + 8 < cLine)
    (hret : ∀ (r : Int) (t t' : Tok) (h' : Heap) (tk' n' : Nat), 0 ≤ r → r < lim → Fr h₀ L h' m → News h₀ L h' ((tape, listOf #[.ref cells, .int (pl + 1) t'] n') :: own) → Q (.int r t) { s with heap := h', toks := tk' }) :
    wpAny (model PySem.Challenge.rw_nu0152_01.row.prog w) (ktrTop dp un gd cn cs L a ccd cl outer) (call (.ref 189) [.ref tape, .int lim tl]) Q E s := by
  obtain ⟨h1, h2, h3⟩ := D.split
  refine draw_core w mg mb mean dp un gd cn cs a ccd cl outer A₀ base h₀ L m s Q E own tape cells n nc vs ns pl t lim tl B F X ?_ T hk ?_ hne hi hn0 hn hp0 hp1 hlim hd hu ?_
  · intro p hp
    rcases List.mem_cons.mp hp with rfl | hp
    · exact N _ h1
    · rcases List.mem_cons.mp hp with rfl | hp
      · exact N _ hc
      · exact N _ (h2 p hp)
  · intro p hp b hb
    rw [List.mem_singleton.mp hb]
    exact h3 p hp
  · intro r t t' h' tk' n' hr0 hr1 F' N'
    refine hret r t t' h' tk' n' hr0 hr1 F' fun p hp => N' p ?_
    rcases List.mem_cons.mp hp with rfl | hp
    · exact .head _
    · exact .tail _ (.tail _ hp)
end Nu
end
section
theorem Nu.freshNuTold : True := by
  w_top off
  first | (walk1; done) | trivial
open PySem PySem.W PyProof.Rows PySem.Calls PySem.Spec
namespace Nu
noncomputable def digitsOnly (x : Str) : Bool := x.cps.toList.all fun c => decide (c ∈ (Str.ofString "0123456789").cps.toList)
noncomputable def toldNumber (x : Str) : Int := if x.cps.size = 0 ∨ 5 < x.cps.size ∨ digitsOnly x = false then -1 else ((NumText.digitsVal x.cps.toList : Nat) : Int)

theorem figs_le : ∀ c ∈ (Str.ofString "0123456789").cps.toList, 48 ≤ c ∧ c ≤ 57 := by decide
theorem figs_mem {c : Nat} (h0 : 48 ≤ c) (h1 : c ≤ 57) : c ∈ (Str.ofString "0123456789").cps.toList := by
  have key : ∀ k < 10, 48 + k ∈ (Str.ofString "0123456789").cps.toList := by decide
  have := key (c - 48) (by omega)
  rwa [Nat.add_sub_cancel' h0] at this
theorem digits_all {x : Str} (h : digitsOnly x = true) : NumText.AllDigits x.cps.toList := by
  intro c hc
  exact figs_le c (of_decide_eq_true (List.all_eq_true.mp h c hc))

theorem strange_isEmpty (x : Str) : (List.filter (fun a => !!(Builtin.Str.occurrences (Str.ofString "0123456789") a 0 (Str.ofString "0123456789").length 1).isEmpty) (signs x)).isEmpty = digitsOnly x := by
  have e1 : signs x = x.cps.toList.map (fun n => (⟨#[n]⟩ : Str)) := rfl
  rw [e1]
  unfold digitsOnly
  induction x.cps.toList with
  | nil => rfl
  | cons c r ih =>
    rw [List.map_cons, List.filter_cons, List.all_cons]
    have h := StrLaws.found_one (Str.ofString "0123456789") c
    rw [h]
    by_cases hc : c ∈ (Str.ofString "0123456789").cps.toList
    · simp only [hc, decide_true, Bool.not_true, Bool.false_eq_true, if_false, Bool.true_and]
      exact ih
    · simp only [hc, decide_false, Bool.not_false, if_true, Bool.false_and]
      rfl

theorem canLay_strs (p : Str → Bool) : ∀ ys : List Str, (∀ y ∈ ys, PyData.strOk y = true) → PyData.canLayAll0 (ys.map PyData.str) = true
  | [], _ => rfl
  | y :: r, h => by
    simp only [List.map_cons, PyData.canLayAll0, PyData.canLay0, h y (.head _), canLay_strs p r fun z hz => h z (.tail _ hz), Bool.and_self]
theorem depth_strs : ∀ ys : List Str, PyData.depthAll (ys.map PyData.str) = 0
  | [] => rfl
  | _ :: r => by simp [PyData.depthAll, PyData.depth, depth_strs r]
theorem shaped_strs (ys : List Str) (h : ∀ y ∈ ys, PyData.strOk y = true) : SeqAt.shaped (.list (ys.map PyData.str)) = true := by
  simp [SeqAt.shaped, PyData.canLay0, PyData.depth, canLay_strs (fun _ => true) ys h, depth_strs]
theorem signs_ok {x : Str} (h : PyData.strOk x = true) : ∀ y ∈ signs x, PyData.strOk y = true := by
  intro y hy
  have e1 : signs x = x.cps.toList.map (fun n => (⟨#[n]⟩ : Str)) := rfl
  rw [e1] at hy
  obtain ⟨n, hn, rfl⟩ := List.mem_map.mp hy
  have := Array.all_eq_true'.mp h n (Array.mem_toList_iff.mp hn)
  simpa [PyData.strOk] using this

theorem ne_strange {prog : Program} {w : World} {A : Around} {E : Value → Shared → Prop} {s : Shared} {a b : Addr} {ys : List Value} {x : Str} {Q : Value → Shared → Prop}
    (ha : s.heap.IsList a ys.toArray) (hy : CarriedAll ys (List.map PyData.str (List.filter (fun a => !!(Builtin.Str.occurrences (Str.ofString "0123456789") a 0 (Str.ofString "0123456789").length 1).isEmpty) (signs x))))
    (hb : s.heap.IsList b #[]) (hx : PyData.strOk x = true) (hu : A.units + 64 < cLine) (h : Q (.bool (!digitsOnly x)) s) :
    wpAny (model prog w) A (compareOp .NotEq (.ref a) (.ref b)) Q E s := by
  refine ne_dataH_same (reads_newData ha hy) (reads_newData (ys := []) (ds := []) hb .nil) (shaped_strs _ fun y hy => signs_ok hx y (List.mem_filter.mp hy).1) rfl hu ?_ ?_
  · cases List.filter (fun a => !!(Builtin.Str.occurrences (Str.ofString "0123456789") a 0 (Str.ofString "0123456789").length 1).isEmpty) (signs x) <;> simp [SeqAt.noMix, SeqAt.noMixAll]
  · have e := strange_isEmpty x
    generalize List.filter (fun a => !!(Builtin.Str.occurrences (Str.ofString "0123456789") a 0 (Str.ofString "0123456789").length 1).isEmpty) (signs x) = l at e
    have : PySem.Spec.same (PyData.list (List.map PyData.str l)) (PyData.list []) = digitsOnly x := by
      rw [← e]
      cases l <;> simp [PySem.Spec.same, PySem.Spec.sameAll]
    rw [this]
    exact h

theorem told_int {prog : Program} {w : World} {A : Around} {E : Value → Shared → Prop} {s : Shared} {x : Str} {t : Tok} {Q : Value → Shared → Prop}
    (h0 : (x == Str.ofString "") = false) (h1 : ¬ (5 : Int) < x.length) (h2 : digitsOnly x = true) (h : Q (.int (toldNumber x) s.toks) { s with toks := s.toks + 1 }) :
    wpAny (model prog w) A (call (.type "int") [.str x t]) Q E s := by
  have hne : x.cps.size ≠ 0 := by
    intro e
    have : x = Str.ofString "" := by
      cases x with
      | mk c =>
        have : c = #[] := Array.eq_empty_of_size_eq_zero e
        subst this
        decide
    rw [this] at h0
    simp at h0
  have hl : x.length = x.cps.size := rfl
  refine KIN.call_text (n := toldNumber x) ?_ (by omega) h
  have hle : x.cps.size ≤ 5 := by omega
  unfold toldNumber
  rw [if_neg (by rintro (e | e | e); exact hne e; omega; rw [h2] at e; cases e)]
  exact intText_digits (digits_all h2) (by intro e; apply hne; rw [← Array.length_toList, e]; rfl) (by omega)

theorem told_m1a {x : Str} (h : (x == Str.ofString "") = true) : toldNumber x = -1 := by
  have : x = Str.ofString "" := eq_of_beq h
  subst this
  unfold toldNumber
  rw [if_pos (.inl (by decide))]
theorem told_m1b {x : Str} (h : (5 : Int) < x.length) : toldNumber x = -1 := by
  have hl : x.length = x.cps.size := rfl
  unfold toldNumber
  rw [if_pos (.inr (.inl (by omega)))]
theorem told_m1c {x : Str} (h : (!digitsOnly x) = true) : toldNumber x = -1 := by
  unfold toldNumber
  rw [if_pos (.inr (.inr (by simpa using h)))]


theorem told_core : ∀ (w : World) (mg mb : Str → Option Value) (mean : ExcName → Option Value) (dp un : Nat) (gd : Option (List Code)) (cn : Str) (cs : Scope) (a : Addr) (ccd : Value) (cl : List (Str × Addr)) (outer : List Env) (A₀ : Around) (base h₀ : Heap) (L : Addr) (m : Str → Option Value) (s : Shared) (Q E : Value → Shared → Prop)
    (news : List (Addr × Obj)) (x : Str) (t : Tok),
    Below A₀ base outer h₀ → Fr h₀ L s.heap m → (Nu.hd.heap_39 w.params).In h₀ → News h₀ L s.heap news →
    Top Nu.hd.view_39 (looseW Nu.hd.view_39 [Str.ofString "FLAG_WORDS"]) mean mg mb h₀ → cs.kind = .function → x.length ≤ 1000 → PyData.strOk x = true → dp + 1 < recursionLimit → un + 100 < cLine →
    (∀ (t : Tok) (h' : Heap) (tk' : Nat), Fr h₀ L h' m → News h₀ L h' news → Q (.int (toldNumber x) t) { s with heap := h', toks := tk' }) →
    wpAny (model PySem.Challenge.rw_nu0152_01.row.prog w) (ktrTop dp un gd cn cs L a ccd cl outer) (call (.ref 46) [.str x t]) Q E s := by
  k_fill
  intro w mg mb mean dp un gd cn cs a ccd cl outer A₀ base h₀ L m s Q E news x t B F X N T hk hx hok hd hu hret
  have hMk := kstMark
  refine wpAny_call ?_
  k_dflt cell_enter
  repeat' (first | (k_unfold; (try dsimp only)) | ((with_reducible show wpAny _ _ (call (Value.type _) _) _ _ _); (k_here; k_dflt (refine' told_int ?zzk1 ?zzk2 ?zzk3 ?_; (case zzk1 => assumption); (case zzk2 => assumption); (case zzk3 => first | assumption | simp_all)))) | ((with_reducible show wpAny _ _ (compareOp .NotEq (Value.ref _) (Value.ref _)) _ _ _); (k_here; k_dflt (refine' ne_strange ?zzk1 ?zzk2 ?zzk3 ?zzk4 ?zzk5 ?_; (case zzk1 => is_list); (case zzk2 => assumption); (case zzk3 => is_list); (case zzk4 => assumption); (case zzk5 => ktr_units)))) | (k_end; wrow_close) | walk1 | (dsimp only; walk1) | (leave1; try dsimp only) | fail "no step")
  all_goals (refine cb_retI (x := toldNumber x) (fun t h' tk' F' N' => hret t h' tk' F' N') ?_ (by k_asm) (by first | k_asm | exact cb_drop (by assumption) (by intro p hp; repeat (first | exact hp | apply List.mem_cons_of_mem))))
  all_goals first
    | rfl
    | exact (told_m1a (x := x) (by assumption)).symm
    | exact (told_m1b (x := x) (by assumption)).symm
    | exact (told_m1c (x := x) (by first | assumption | simp_all)).symm
end Nu
end
section
theorem Nu.freshNuFlag : True := by
  w_top off
  first | (walk1; done) | trivial
open PySem PySem.W PyProof.Rows PySem.Calls PySem.Spec
namespace Nu
noncomputable def flagPairs : List (Str × Value) := [(Str.ofString "RightToLeft", .int 1 196), (Str.ofString "IgnoreBaseGlyphs", .int 2 198), (Str.ofString "IgnoreLigatures", .int 4 200), (Str.ofString "IgnoreMarks", .int 8 202), (Str.ofString "UseMarkFilteringSet", .int 16 204)]
noncomputable def flagD : List (PyData × PyData) := [(.str (Str.ofString "RightToLeft"), .int 1), (.str (Str.ofString "IgnoreBaseGlyphs"), .int 2), (.str (Str.ofString "IgnoreLigatures"), .int 4), (.str (Str.ofString "IgnoreMarks"), .int 8), (.str (Str.ofString "UseMarkFilteringSet"), .int 16)]
theorem flag_flat : PyProof.V.FlatPairs PyData.str flagPairs flagD :=
  .cons (.int _ _) (.cons (.int _ _) (.cons (.int _ _) (.cons (.int _ _) (.cons (.int _ _) .nil))))
theorem flag_nodup : (flagPairs.map (·.1)).Nodup := by decide +kernel


theorem flag_top : ∀ (w : World) (h : Heap), PySem.Challenge.rw_nu0152_01.row.prog = PySem.Challenge.rw_nu0152_01.row.prog → (Nu.hd.heap_39 w.params).In h →
    h.get? 27 = some ({ cls := .type "tuple", data := .seq ([.ref 22, .ref 23, .ref 24, .ref 25, .ref 26] : List Value).toArray 0 } : Obj) ∧ PairsIn h [.ref 22, .ref 23, .ref 24, .ref 25, .ref 26] flagPairs := by
  k_fill
  intro w h _ X
  refine ⟨X 27 _ (by k_is), ⟨22, 206, 0, rfl, X 22 _ (by k_is)⟩, ⟨23, 207, 0, rfl, X 23 _ (by k_is)⟩, ⟨24, 208, 0, rfl, X 24 _ (by k_is)⟩, ⟨25, 209, 0, rfl, X 25 _ (by k_is)⟩, ⟨26, 210, 0, rfl, X 26 _ (by k_is)⟩, trivial⟩

theorem dict_flags {w : World} {A : Around} {E Q : Value → Shared → Prop} {s : Shared} {h₀ : Heap} {L : Addr} {m : Str → Option Value} {news : List (Addr × Obj)} {p : Program} {loose : List Str} {mean : ExcName → Option Value} {mg mb : Str → Option Value}
    (hh : A.handled = none) (F : Fr h₀ L s.heap m) (N : News h₀ L s.heap news) (X : (Nu.hd.heap_39 w.params).In h₀) (T : Top p loose mean mg mb h₀)
    (h : ∀ d h' o kvs tk', Fr h₀ L h' m → News h₀ L h' ((d, o) :: news) → (∀ p ∈ news, p.1 < d) → (d == sysModules) = false → o.IsDictOf (strKind PySem.Challenge.rw_nu0152_01.row.prog w) kvs → PyProof.V.FlatPairs PyData.str kvs flagD → Q (.ref d) { s with heap := h', toks := tk' }) :
    wpAny (model PySem.Challenge.rw_nu0152_01.row.prog w) A (call (.type "dict") [.ref 27]) Q E s := by
  obtain ⟨h1, h2⟩ := flag_top w s.heap rfl (X.keeps F.keep)
  exact dict_of_pairs hh F N T.nolimit h1 h2 flag_nodup flag_flat (by decide) h

noncomputable def isFlagWord (x : Str) : Bool := (Spec.lookup (PyData.str x) flagD).isSome
noncomputable def bitOf (x : Str) : Int := match Spec.lookup (PyData.str x) flagD with
  | some (.int i) => i
  | _ => 0
theorem flagD_ints : ∀ p ∈ flagD, ∃ i, p.2 = PyData.int i := by
  intro p hp
  unfold flagD at hp
  rcases List.mem_cons.mp hp with rfl | hp
  · exact ⟨_, rfl⟩
  rcases List.mem_cons.mp hp with rfl | hp
  · exact ⟨_, rfl⟩
  rcases List.mem_cons.mp hp with rfl | hp
  · exact ⟨_, rfl⟩
  rcases List.mem_cons.mp hp with rfl | hp
  · exact ⟨_, rfl⟩
  rcases List.mem_cons.mp hp with rfl | hp
  · exact ⟨_, rfl⟩
  · cases hp
theorem lookup_ints {k dv : PyData} : ∀ D : List (PyData × PyData), (∀ p ∈ D, ∃ i, p.2 = PyData.int i) → Spec.lookup k D = some dv → ∃ i, dv = .int i
  | [], _, h => by cases h
  | (a, b) :: r, hD, h => by
    unfold Spec.lookup at h
    split at h
    · cases h
      exact hD _ (.head _)
    · exact lookup_ints r (fun p hp => hD p (.tail _ hp)) h
theorem flag_lookup {x : Str} {dv : PyData} (h : Spec.lookup (PyData.str x) flagD = some dv) : dv = .int (bitOf x) := by
  have key : ∃ i, dv = .int i := by
    exact lookup_ints _ flagD_ints h
  obtain ⟨i, rfl⟩ := key
  unfold bitOf
  rw [h]
noncomputable def numberIn (ps : List Str) : Int := match ps with
  | [_, y] => toldNumber y
  | _ => -1
noncomputable abbrev sp : Str := Str.ofString " "
noncomputable abbrev useW : Str := Str.ofString "UseMarkFilteringSet"
noncomputable abbrev attW : Str := Str.ofString "MarkAttachmentType"
abbrev WordIn (x : Str) : Prop := (Spec.lookup (PyData.str x) flagD).isSome = true ∧ (x != useW) = true
abbrev UseIn (x : Str) : Prop := (Txt.split x sp)[0]? = some useW ∧ 0 ≤ numberIn (Txt.split x sp) ∧ numberIn (Txt.split x sp) ≤ 65535
abbrev AttIn (x : Str) : Prop := (Txt.split x sp)[0]? = some attW ∧ 1 ≤ numberIn (Txt.split x sp) ∧ numberIn (Txt.split x sp) ≤ 255
noncomputable def flagStep (x : Str) (st : Int × Int) : Option (Int × Int) :=
  if WordIn x then some (Builtin.bitOr st.1 (bitOf x), st.2)
  else if UseIn x then some (Builtin.bitOr st.1 16, numberIn (Txt.split x sp))
  else if AttIn x then some (Int.fmod st.1 256 + 256 * numberIn (Txt.split x sp), st.2)
  else none
theorem step_word {x : Str} {st : Int × Int} (h : WordIn x) : flagStep x st = some (Builtin.bitOr st.1 (bitOf x), st.2) := by unfold flagStep; rw [if_pos h]
theorem step_use {x : Str} {st : Int × Int} {n : Int} (hn : numberIn (Txt.split x sp) = n) (h : ¬ WordIn x) (h2 : UseIn x) : flagStep x st = some (Builtin.bitOr st.1 16, n) := by unfold flagStep; rw [if_neg h, if_pos h2, hn]
theorem step_att {x : Str} {st : Int × Int} {n : Int} (hn : numberIn (Txt.split x sp) = n) (h : ¬ WordIn x) (h2 : ¬ UseIn x) (h3 : AttIn x) : flagStep x st = some (Int.fmod st.1 256 + 256 * n, st.2) := by unfold flagStep; rw [if_neg h, if_neg h2, if_pos h3, hn]
theorem step_none {x : Str} {st : Int × Int} (h : ¬ WordIn x) (h2 : ¬ UseIn x) (h3 : ¬ AttIn x) : flagStep x st = none := by unfold flagStep; rw [if_neg h, if_neg h2, if_neg h3]

theorem flag_item {prog : Program} {w : World} {A : Around} {E Q : Value → Shared → Prop} {s : Shared} {d : Addr} {x : Str} {t : Tok} (T : TabAt (strKind prog w) PyData.str s.heap d flagD) (hs : (Spec.lookup (PyData.str x) flagD).isSome = true)
    (h : ∀ t, Q (.int (bitOf x) t) { s with toks := s.toks + 1 }) : wpAny (model prog w) A (getItem (.ref d) (.str x t)) Q E s := by
  obtain ⟨dv, hl⟩ := Option.isSome_iff_exists.mp hs
  refine getItem_tab PyProof.V.same_str (strKind_is _ _ _ _) T hl fun v hv => ?_
  have := flag_lookup hl
  subst this
  have hr := hv s.heap
  cases hr
  exact h _

theorem told_use {w : World} {mg mb : Str → Option Value} {mean : ExcName → Option Value} {dp un : Nat} {gd : Option (List Code)} {cn : Str} {cs : Scope} {a : Addr} {ccd : Value} {cl : List (Str × Addr)} {outer : List Env} {A₀ : Around} {base h₀ : Heap} {L : Addr} {m : Str → Option Value} {s : Shared} {Q E : Value → Shared → Prop}
    {news : List (Addr × Obj)} {x : Str} {t : Tok} (B : Below A₀ base outer h₀) (F : Fr h₀ L s.heap m) (X : (Nu.hd.heap_39 w.params).In h₀) (N : News h₀ L s.heap news)
    (T : Top Nu.hd.view_39 (looseW Nu.hd.view_39 [Str.ofString "FLAG_WORDS"]) mean mg mb h₀) (hk : cs.kind = .function) {ps : List Str} {k : Nat} {z sp : Str} (hy : ps[k]? = some x) (hlen : ∀ a ∈ ps, a.length ≤ z.length) (he : ps = Txt.split z sp) (hz : z.length ≤ 1000) (hsp : ∀ y ∈ Txt.split z sp, PyData.strOk y = true) (hd : dp + 1 < recursionLimit) (hu : un + 100 < cLine)
    (hret : ∀ (t : Tok) (h' : Heap) (tk' : Nat), Fr h₀ L h' m → News h₀ L h' news → Q (.int (toldNumber x) t) { s with heap := h', toks := tk' }) :
    wpAny (model PySem.Challenge.rw_nu0152_01.row.prog w) (ktrTop dp un gd cn cs L a ccd cl outer) (call (.ref 46) [.str x t]) Q E s :=
  told_core w mg mb mean dp un gd cn cs a ccd cl outer A₀ base h₀ L m s Q E news x t B F X N T hk (Nat.le_trans (hlen _ (List.mem_of_getElem? hy)) hz) (hsp _ (he ▸ List.mem_of_getElem? hy)) hd hu hret

noncomputable def flagAcc : List Str → Int × Int → Option (Int × Int)
  | [], st => some st
  | x :: r, st => (flagStep x st).bind (flagAcc r)
theorem flagAcc_append (r : List Str) (x : Str) : ∀ (l : List Str) (st : Int × Int), flagAcc (l ++ x :: r) st = (flagAcc l st).bind fun st' => (flagStep x st').bind (flagAcc r)
  | [], _ => rfl
  | y :: l, st => by
    show (flagStep y st).bind _ = _
    rw [show flagAcc (y :: l) st = (flagStep y st).bind (flagAcc l) from rfl, Option.bind_assoc]
    congr 1
    funext st'
    exact flagAcc_append r x l st'

noncomputable def flagOf (ts : List Str) : Int × Int := (flagAcc ts (0, 0)).getD (-1, 0)
theorem acc_next {ts : List Str} {i : Nat} {x : Str} {st st' : Int × Int} (hx : ts[i]? = some x) (hP : flagAcc (ts.take i) (0, 0) = some st) (h : flagStep x st = some st') : flagAcc (ts.take (i + 1)) (0, 0) = some st' := by
  have e : ts.take (i + 1) = ts.take i ++ [x] := by simp [List.take_add_one, hx]
  rw [e, flagAcc_append, hP, Option.bind_some, h]
  rfl
theorem acc_none {ts : List Str} {i : Nat} {x : Str} {st : Int × Int} (hx : ts[i]? = some x) (hP : flagAcc (ts.take i) (0, 0) = some st) (h : flagStep x st = none) : flagOf ts = (-1, 0) := by
  have hs : ts.take (i + 1) = ts.take i ++ [x] := by simp [List.take_add_one, hx]
  have e : ts = ts.take i ++ x :: ts.drop (i + 1) := by
    have ht := List.take_append_drop (i + 1) ts
    rw [hs, List.append_assoc] at ht
    exact ht.symm
  unfold flagOf
  rw [e, flagAcc_append, hP, Option.bind_some, h]
  rfl
theorem acc_done {ts : List Str} {n : Nat} {st : Int × Int} (hn : n = ts.length) (hP : flagAcc (ts.take n) (0, 0) = some st) : flagOf ts = st := by
  subst hn
  rw [List.take_length] at hP
  unfold flagOf
  rw [hP]
  rfl
section
variable {x y : Str} {n : Int} {l : List (Str × Tok)}
theorem at_zero (e : List.map (fun x => x.fst) l = Txt.split x sp) (h0 : (List.map (fun x => x.fst) l)[Int.toNat 0]? = some y) : (Txt.split x sp)[0]? = some y := by rw [← e]; exact h0
theorem use_t (e : List.map (fun x => x.fst) l = Txt.split x sp) (hn : numberIn (Txt.split x sp) = n) (e0 : (y == useW) = true) (h0 : (List.map (fun x => x.fst) l)[Int.toNat 0]? = some y) (h1 : 0 ≤ n) (h2 : n ≤ 65535) : UseIn x :=
  ⟨(at_zero e h0).trans (congrArg some (eq_of_beq e0)), by rw [hn]; exact h1, by rw [hn]; exact h2⟩
theorem att_t (e : List.map (fun x => x.fst) l = Txt.split x sp) (hn : numberIn (Txt.split x sp) = n) (e0 : (y == attW) = true) (h0 : (List.map (fun x => x.fst) l)[Int.toNat 0]? = some y) (h1 : 1 ≤ n) (h2 : n ≤ 255) : AttIn x :=
  ⟨(at_zero e h0).trans (congrArg some (eq_of_beq e0)), by rw [hn]; exact h1, by rw [hn]; exact h2⟩
theorem use_a (e : List.map (fun x => x.fst) l = Txt.split x sp) (e0 : (y == useW) = false) (h0 : (List.map (fun x => x.fst) l)[Int.toNat 0]? = some y) : ¬ UseIn x := fun q => by
  have h1 := Option.some.inj ((at_zero e h0).symm.trans q.1)
  rw [h1] at e0
  simp at e0
theorem att_a (e : List.map (fun x => x.fst) l = Txt.split x sp) (e0 : (y == attW) = false) (h0 : (List.map (fun x => x.fst) l)[Int.toNat 0]? = some y) : ¬ AttIn x := fun q => by
  have h1 := Option.some.inj ((at_zero e h0).symm.trans q.1)
  rw [h1] at e0
  simp at e0
theorem use_b (hn : numberIn (Txt.split x sp) = n) (h : ¬ 0 ≤ n) : ¬ UseIn x := fun q => h (hn ▸ q.2.1)
theorem use_c (hn : numberIn (Txt.split x sp) = n) (h : ¬ n ≤ 65535) : ¬ UseIn x := fun q => h (hn ▸ q.2.2)
theorem att_b (hn : numberIn (Txt.split x sp) = n) (h : ¬ 1 ≤ n) : ¬ AttIn x := fun q => h (hn ▸ q.2.1)
theorem att_c (hn : numberIn (Txt.split x sp) = n) (h : ¬ n ≤ 255) : ¬ AttIn x := fun q => h (hn ▸ q.2.2)
theorem word_a (h : (Spec.lookup (PyData.str x) flagD).isSome = false) : ¬ WordIn x := fun q => Bool.noConfusion (h.symm.trans q.1)
theorem word_b (h : (x != useW) = false) : ¬ WordIn x := fun q => Bool.noConfusion (h.symm.trans q.2)
end
theorem num_two {x y : Str} {l : List (Str × Tok)} (e : List.map (fun x => x.fst) l = Txt.split x sp) (h2 : (l.length : Int) = 2) (hy : (List.map (fun x => x.fst) l)[Int.toNat 1]? = some y) : numberIn (Txt.split x sp) = toldNumber y := by
  rw [← e]
  match l, h2, hy with
  | [a, b], _, hy =>
    have : b.1 = y := by simpa using hy
    subst this
    rfl
  | [], h, _ => simp at h
  | [_], h, _ => simp at h
  | _ :: _ :: _ :: _, h, _ => simp only [List.length_cons] at h; omega
theorem num_other {x : Str} {l : List (Str × Tok)} (e : List.map (fun x => x.fst) l = Txt.split x sp) (h2 : (l.length : Int) ≠ 2) : numberIn (Txt.split x sp) = -1 := by
  rw [← e]
  match l, h2 with
  | [a, b], h => exact absurd rfl h
  | [], _ => rfl
  | [_], _ => rfl
  | _ :: _ :: _ :: _, _ => rfl
theorem mem_far {a b c : Addr × Obj} {own ow : List (Addr × Obj)} : ∀ p ∈ c :: own, p ∈ a :: (b :: c :: own ++ ow) := fun p hp => by
  refine .tail _ (List.mem_append.mpr (.inl (.tail _ ?_)))
  exact hp
theorem strs_get : ∀ {vs : List Value} {ts : List Str} {i : Nat} {v : Value}, StrsAre vs ts → vs[i]? = some v → ∃ x t, ts[i]? = some x ∧ v = .str x t
  | _, _, 0, _, .cons y t _, e => ⟨y, t, rfl, by simpa using e.symm⟩
  | _, _, i + 1, v, .cons y t h, e => by
    have := strs_get (i := i) (v := v) h (by simpa using e)
    simpa using this

theorem flag_core : ∀ (w : World) (mg mb : Str → Option Value) (mean : ExcName → Option Value) (dp un : Nat) (gd : Option (List Code)) (cn : Str) (cs : Scope) (a : Addr) (ccd : Value) (cl : List (Str × Addr)) (outer : List Env) (A₀ : Around) (base h₀ : Heap) (L : Addr) (m : Str → Option Value) (s : Shared) (Q E : Value → Shared → Prop)
    (own : List (Addr × Obj)) (l : Addr) (ol : Obj) (vs : List Value) (ts : List Str),
    Below A₀ base outer h₀ → Fr h₀ L s.heap m → (Nu.hd.heap_39 w.params).In h₀ → News h₀ L s.heap ((l, ol) :: own) →
    Top Nu.hd.view_39 (looseW Nu.hd.view_39 [Str.ofString "FLAG_WORDS"]) mean mg mb h₀ → cs.kind = .function → SeqObj ol vs → StrsAre vs ts → (∀ x ∈ ts, x.length ≤ 1000 ∧ ∀ y ∈ Txt.split x (Str.ofString " "), PyData.strOk y = true) → dp + 2 < recursionLimit → un + 200 < cLine →
    (∀ (v1 v2 : Int) (t t' : Tok) (h' : Heap) (tk' n' : Nat) (D : Addr), flagOf ts = (v1, v2) → Fr h₀ L h' m → News h₀ L h' ((D, ({ cls := .type "tuple", data := .seq #[.int v1 t, .int v2 t'] n' } : Obj)) :: (l, ol) :: own) → (∀ p ∈ (l, ol) :: own, p.1 < D) → Q (.ref D) { s with heap := h', toks := tk' }) →
    wpAny (model PySem.Challenge.rw_nu0152_01.row.prog w) (ktrTop dp un gd cn cs L a ccd cl outer) (call (.ref 53) [.ref l]) Q E s := by
  k_fill
  intro w mg mb mean dp un gd cn cs a ccd cl outer A₀ base h₀ L m s Q E own l ol vs ts B F X N T hk hO hS hok hd hu hret
  have hMk := kstMark
  refine wpAny_call ?_
  k_dflt cell_enter
  rename Fr _ _ _ _ => lF
  obtain ⟨u0, lF2⟩ := fr_small [(Str.ofString "words", Value.ref l)] lF (by kst_all)
  clear lF
  repeat' (first | (k_unfold; (try dsimp only)) | ((with_reducible show wpAny _ _ (call (Value.ref _) _) _ _ _); (k_here; k_dflt (refine' told_use ?k1 ?k2 ?k3 ?k4 ?k5 ?k6 ?k7 ?k8 ?k9 ?k10 ?k11 ?k12 ?k13 ?_; (case k1 => k_asm); (case k2 => k_asm); (case k3 => k_asm); (case k4 => k_asm); (case k5 => k_asm); (case k6 => first | exact rfl | assumption); (case k7 => assumption); (case k8 => assumption); (case k9 => assumption); (case k10 => assumption); (case k11 => assumption); (case k12 => ktr_room); (case k13 => ktr_units); k_whole); intro t9 h9 tk9 F9 N9; (try dsimp only); (try k_fold); (try k_sweep))) | ((with_reducible show wpAny _ _ (getItem (Value.ref _) (Value.str _ _)) _ _ _); (k_here; k_dflt (refine' flag_item ?k1 ?k2 ?_; (case k1 => k_tabat); (case k2 => first | assumption | exact And.left (by assumption)); k_whole); intro _)) | ((with_reducible show wpAny _ _ (call (Value.type _) _) _ _ _); (k_here; k_dflt (refine' dict_flags ?k1 ?k2 ?k3 ?k4 ?k5 ?_; (case k1 => exact rfl); (case k2 => k_asm); (case k3 => k_asm); (case k4 => k_asm); (case k5 => k_asm); k_whole); intro d' h' o' kvs' tk' F' N' l1 lo' hd' hf'; (try k_lt l1); (try k_sweep))) | walk1 | (dsimp only; walk1) | (leave1; (try dsimp only)) | fail "no step")
  rename Fr _ _ _ _ => lF
  with_unfolding_all refine' For_invVF lF ?k1 ?k2 ?_
  case k1 => exact rfl
  case k2 => exact rfl
  repeat' (first | (k_unfold; (try dsimp only)) | ((with_reducible show wpAny _ _ (call (Value.ref _) _) _ _ _); (k_here; k_dflt (refine' told_use ?k1 ?k2 ?k3 ?k4 ?k5 ?k6 ?k7 ?k8 ?k9 ?k10 ?k11 ?k12 ?k13 ?_; (case k1 => k_asm); (case k2 => k_asm); (case k3 => k_asm); (case k4 => k_asm); (case k5 => k_asm); (case k6 => first | exact rfl | assumption); (case k7 => assumption); (case k8 => assumption); (case k9 => assumption); (case k10 => assumption); (case k11 => assumption); (case k12 => ktr_room); (case k13 => ktr_units); k_whole); intro t9 h9 tk9 F9 N9; (try dsimp only); (try k_fold); (try k_sweep))) | ((with_reducible show wpAny _ _ (getItem (Value.ref _) (Value.str _ _)) _ _ _); (k_here; k_dflt (refine' flag_item ?k1 ?k2 ?_; (case k1 => k_tabat); (case k2 => first | assumption | exact And.left (by assumption)); k_whole); intro _)) | ((with_reducible show wpAny _ _ (call (Value.type _) _) _ _ _); (k_here; k_dflt (refine' dict_flags ?k1 ?k2 ?k3 ?k4 ?k5 ?_; (case k1 => exact rfl); (case k2 => k_asm); (case k3 => k_asm); (case k4 => k_asm); (case k5 => k_asm); k_whole); intro d' h' o' kvs' tk' F' N' l1 lo' hd' hf'; (try k_lt l1); (try k_sweep))) | walk1 | (dsimp only; walk1) | (leave1; (try dsimp only)) | fail "no step")
  rename Fr _ _ _ _ => lF
  rename News _ _ _ _ => lN
  with_unfolding_all refine' st_ledger (σ := (Int × Tok) × (Int × Tok)) (fun _ => _) (fun c => [(Str.ofString "flag", Value.int c.1.1 c.1.2), (Str.ofString "mark_set", Value.int c.2.1 c.2.2), (Str.ofString "bits", _)]) (fun i c => flagAcc (ts.take i) (0, 0) = some (c.1.1, c.2.1)) ((0, _), (0, _)) (by rfl) hO ?hl lF lN ?hk ?hp ?_ ?_
  case hl => intro _; exact List.mem_cons_of_mem _ (.head _)
  case hk => kst_all
  case hp => rfl
  · rintro ⟨⟨fl, ft⟩, ⟨ms, mt⟩⟩ i v u h tk ow hv hP hoff kF kN
    clear lF lN
    obtain ⟨x, xt, hx, rfl⟩ := strs_get hS hv
    have hxm := List.mem_of_getElem? hx
    have hxl := (hok x hxm).1
    have hxok := (hok x hxm).2
    try k_fold
    repeat' (first | (k_unfold; (try dsimp only)) | ((with_reducible show wpAny _ _ (call (Value.ref _) _) _ _ _); (k_here; k_dflt (refine' told_use ?k1 ?k2 ?k3 ?k4 ?k5 ?k6 ?k7 ?k8 ?k9 ?k10 ?k11 ?k12 ?k13 ?_; (case k1 => k_asm); (case k2 => k_asm); (case k3 => k_asm); (case k4 => k_asm); (case k5 => k_asm); (case k6 => first | exact rfl | assumption); (case k7 => assumption); (case k8 => assumption); (case k9 => assumption); (case k10 => assumption); (case k11 => assumption); (case k12 => ktr_room); (case k13 => ktr_units); k_whole); intro t9 h9 tk9 F9 N9; (try dsimp only); (try k_fold); (try k_sweep))) | ((with_reducible show wpAny _ _ (getItem (Value.ref _) (Value.str _ _)) _ _ _); (k_here; k_dflt (refine' flag_item ?k1 ?k2 ?_; (case k1 => k_tabat); (case k2 => first | assumption | exact And.left (by assumption)); k_whole); intro _)) | ((with_reducible show wpAny _ _ (call (Value.type _) _) _ _ _); (k_here; k_dflt (refine' dict_flags ?k1 ?k2 ?k3 ?k4 ?k5 ?_; (case k1 => exact rfl); (case k2 => k_asm); (case k3 => k_asm); (case k4 => k_asm); (case k5 => k_asm); k_whole); intro d' h' o' kvs' tk' F' N' l1 lo' hd' hf'; (try k_lt l1); (try k_sweep))) | ((fail_if_success (with_reducible show wpAny _ _ (exec (Stmt.If _ _ _ _) _) _ _ _)); (first | walk1 | (dsimp only; walk1) | (leave1; (try dsimp only)))) | fail "no step")
    all_goals (first | have hn := num_two (by assumption) (by assumption) (by assumption) | have hn := num_other (by assumption) (by assumption))
    all_goals refine if_word (WordIn x) ?_ (fun hC tk1 => ?_) (fun hC tk1 => ?_)
    all_goals repeat' (first | (k_unfold; (try dsimp only)) | ((with_reducible show wpAny _ _ (call (Value.ref _) _) _ _ _); (k_here; k_dflt (refine' told_use ?k1 ?k2 ?k3 ?k4 ?k5 ?k6 ?k7 ?k8 ?k9 ?k10 ?k11 ?k12 ?k13 ?_; (case k1 => k_asm); (case k2 => k_asm); (case k3 => k_asm); (case k4 => k_asm); (case k5 => k_asm); (case k6 => first | exact rfl | assumption); (case k7 => assumption); (case k8 => assumption); (case k9 => assumption); (case k10 => assumption); (case k11 => assumption); (case k12 => ktr_room); (case k13 => ktr_units); k_whole); intro t9 h9 tk9 F9 N9; (try dsimp only); (try k_fold); (try k_sweep))) | ((with_reducible show wpAny _ _ (getItem (Value.ref _) (Value.str _ _)) _ _ _); (k_here; k_dflt (refine' flag_item ?k1 ?k2 ?_; (case k1 => k_tabat); (case k2 => first | assumption | exact And.left (by assumption)); k_whole); intro _)) | ((with_reducible show wpAny _ _ (call (Value.type _) _) _ _ _); (k_here; k_dflt (refine' dict_flags ?k1 ?k2 ?k3 ?k4 ?k5 ?_; (case k1 => exact rfl); (case k2 => k_asm); (case k3 => k_asm); (case k4 => k_asm); (case k5 => k_asm); k_whole); intro d' h' o' kvs' tk' F' N' l1 lo' hd' hf'; (try k_lt l1); (try k_sweep))) | ((fail_if_success (with_reducible show wpAny _ _ (exec (Stmt.If _ _ _ _) _) _ _ _)); (first | walk1 | (dsimp only; walk1) | (leave1; (try dsimp only)))) | fail "no step")
    all_goals try (first
      | exact iff_of_true rfl ⟨by assumption, by assumption⟩
      | exact iff_of_false (by decide) (word_a (by assumption))
      | exact iff_of_false (by decide) (word_b (by assumption)))
    all_goals try ((rename News _ _ _ _ => nE); refine kv_end ⟨⟨_, _⟩, ⟨_, _⟩⟩ (by assumption) nE (by first | kst_in | kst_inAny) (by first | (intro p hp; kst_mem) | kst_anyIn) (by rfl) (by kst_all) (acc_next hx hP (step_word hC)))
    all_goals refine if_word (UseIn x) ?_ (fun hC2 tk2 => ?_) (fun hC2 tk2 => ?_)
    all_goals repeat' (first | (k_unfold; (try dsimp only)) | ((with_reducible show wpAny _ _ (call (Value.ref _) _) _ _ _); (k_here; k_dflt (refine' told_use ?k1 ?k2 ?k3 ?k4 ?k5 ?k6 ?k7 ?k8 ?k9 ?k10 ?k11 ?k12 ?k13 ?_; (case k1 => k_asm); (case k2 => k_asm); (case k3 => k_asm); (case k4 => k_asm); (case k5 => k_asm); (case k6 => first | exact rfl | assumption); (case k7 => assumption); (case k8 => assumption); (case k9 => assumption); (case k10 => assumption); (case k11 => assumption); (case k12 => ktr_room); (case k13 => ktr_units); k_whole); intro t9 h9 tk9 F9 N9; (try dsimp only); (try k_fold); (try k_sweep))) | ((with_reducible show wpAny _ _ (getItem (Value.ref _) (Value.str _ _)) _ _ _); (k_here; k_dflt (refine' flag_item ?k1 ?k2 ?_; (case k1 => k_tabat); (case k2 => first | assumption | exact And.left (by assumption)); k_whole); intro _)) | ((with_reducible show wpAny _ _ (call (Value.type _) _) _ _ _); (k_here; k_dflt (refine' dict_flags ?k1 ?k2 ?k3 ?k4 ?k5 ?_; (case k1 => exact rfl); (case k2 => k_asm); (case k3 => k_asm); (case k4 => k_asm); (case k5 => k_asm); k_whole); intro d' h' o' kvs' tk' F' N' l1 lo' hd' hf'; (try k_lt l1); (try k_sweep))) | ((fail_if_success (with_reducible show wpAny _ _ (exec (Stmt.If _ _ _ _) _) _ _ _)); (first | walk1 | (dsimp only; walk1) | (leave1; (try dsimp only)))) | fail "no step")
    all_goals try (first
      | exact iff_of_true rfl (use_t (by assumption) hn (by assumption) (by assumption) (by assumption) (by assumption))
      | exact iff_of_false (by decide) (use_a (by assumption) (by assumption) (by assumption))
      | exact iff_of_false (by decide) (use_b hn (by first | assumption | decide))
      | exact iff_of_false (by decide) (use_c hn (by first | assumption | decide)))
    all_goals try ((rename News _ _ _ _ => nE); refine kv_end ⟨⟨_, _⟩, ⟨_, _⟩⟩ (by assumption) nE (by first | kst_in | kst_inAny) (by first | (intro p hp; kst_mem) | kst_anyIn) (by rfl) (by kst_all) (acc_next hx hP (step_use hn hC hC2)))
    all_goals refine if_word (AttIn x) ?_ (fun hC3 tk3 => ?_) (fun hC3 tk3 => ?_)
    all_goals repeat' (first | (k_unfold; (try dsimp only)) | ((with_reducible show wpAny _ _ (call (Value.ref _) _) _ _ _); (k_here; k_dflt (refine' told_use ?k1 ?k2 ?k3 ?k4 ?k5 ?k6 ?k7 ?k8 ?k9 ?k10 ?k11 ?k12 ?k13 ?_; (case k1 => k_asm); (case k2 => k_asm); (case k3 => k_asm); (case k4 => k_asm); (case k5 => k_asm); (case k6 => first | exact rfl | assumption); (case k7 => assumption); (case k8 => assumption); (case k9 => assumption); (case k10 => assumption); (case k11 => assumption); (case k12 => ktr_room); (case k13 => ktr_units); k_whole); intro t9 h9 tk9 F9 N9; (try dsimp only); (try k_fold); (try k_sweep))) | ((with_reducible show wpAny _ _ (getItem (Value.ref _) (Value.str _ _)) _ _ _); (k_here; k_dflt (refine' flag_item ?k1 ?k2 ?_; (case k1 => k_tabat); (case k2 => first | assumption | exact And.left (by assumption)); k_whole); intro _)) | ((with_reducible show wpAny _ _ (call (Value.type _) _) _ _ _); (k_here; k_dflt (refine' dict_flags ?k1 ?k2 ?k3 ?k4 ?k5 ?_; (case k1 => exact rfl); (case k2 => k_asm); (case k3 => k_asm); (case k4 => k_asm); (case k5 => k_asm); k_whole); intro d' h' o' kvs' tk' F' N' l1 lo' hd' hf'; (try k_lt l1); (try k_sweep))) | ((fail_if_success (with_reducible show wpAny _ _ (exec (Stmt.If _ _ _ _) _) _ _ _)); (first | walk1 | (dsimp only; walk1) | (leave1; (try dsimp only)))) | fail "no step")
    all_goals try (first
      | exact iff_of_true rfl (att_t (by assumption) hn (by assumption) (by assumption) (by assumption) (by assumption))
      | exact iff_of_false (by decide) (att_a (by assumption) (by assumption) (by assumption))
      | exact iff_of_false (by decide) (att_b hn (by first | assumption | decide))
      | exact iff_of_false (by decide) (att_c hn (by first | assumption | decide)))
    all_goals try ((rename News _ _ _ _ => nE); refine kv_end ⟨⟨_, _⟩, ⟨_, _⟩⟩ (by assumption) nE (by first | kst_in | kst_inAny) (by first | (intro p hp; kst_mem) | kst_anyIn) (by rfl) (by kst_all) (acc_next hx hP (step_att hn hC hC2 hC3)))
    all_goals try ((rename News h₀ _ _ _ => nE); (rename _ ∧ AllLt _ _ => lE); exact hret _ _ _ _ _ _ _ _ (acc_none hx hP (step_none hC hC2 hC3)) (by k_asm) (ret_news nE mem_far) (under_big lE.2 fun p hp => List.mem_append.mpr (.inl (.tail _ hp))))
  · rintro ⟨⟨fl, ft⟩, ⟨ms, mt⟩⟩ u h tk hP kF kN
    clear lF lN
    repeat' (first | (k_unfold; (try dsimp only)) | ((with_reducible show wpAny _ _ (call (Value.ref _) _) _ _ _); (k_here; k_dflt (refine' told_use ?k1 ?k2 ?k3 ?k4 ?k5 ?k6 ?k7 ?k8 ?k9 ?k10 ?k11 ?k12 ?k13 ?_; (case k1 => k_asm); (case k2 => k_asm); (case k3 => k_asm); (case k4 => k_asm); (case k5 => k_asm); (case k6 => first | exact rfl | assumption); (case k7 => assumption); (case k8 => assumption); (case k9 => assumption); (case k10 => assumption); (case k11 => assumption); (case k12 => ktr_room); (case k13 => ktr_units); k_whole); intro t9 h9 tk9 F9 N9; (try dsimp only); (try k_fold); (try k_sweep))) | ((with_reducible show wpAny _ _ (getItem (Value.ref _) (Value.str _ _)) _ _ _); (k_here; k_dflt (refine' flag_item ?k1 ?k2 ?_; (case k1 => k_tabat); (case k2 => first | assumption | exact And.left (by assumption)); k_whole); intro _)) | ((with_reducible show wpAny _ _ (call (Value.type _) _) _ _ _); (k_here; k_dflt (refine' dict_flags ?k1 ?k2 ?k3 ?k4 ?k5 ?_; (case k1 => exact rfl); (case k2 => k_asm); (case k3 => k_asm); (case k4 => k_asm); (case k5 => k_asm); k_whole); intro d' h' o' kvs' tk' F' N' l1 lo' hd' hf'; (try k_lt l1); (try k_sweep))) | walk1 | (dsimp only; walk1) | (leave1; (try dsimp only)) | fail "no step")
    rename News h₀ _ _ _ => nE
    rename _ ∧ _ ∧ AllLt _ _ => lE
    exact hret _ _ _ _ _ _ _ _ (acc_done hS.length hP) (by k_asm) (ret_news nE fun p hp => .tail _ hp) (ktn_ltOf (l := (l, ol) :: own) lE.2)
end Nu
end
section
theorem Nu.freshNuWords : True := by
  w_top off
  first | (walk1; done) | trivial
open PySem PySem.W PyProof.Rows PySem.Calls PySem.Spec
namespace Nu
noncomputable def wordPart (flag number : Int) (k : Nat) : List Str := match k with
  | 0 => if Builtin.bitAnd flag 1 ≠ 0 then [Str.ofString "RightToLeft"] else []
  | 1 => if Builtin.bitAnd flag 2 ≠ 0 then [Str.ofString "IgnoreBaseGlyphs"] else []
  | 2 => if Builtin.bitAnd flag 4 ≠ 0 then [Str.ofString "IgnoreLigatures"] else []
  | 3 => if Builtin.bitAnd flag 8 ≠ 0 then [Str.ofString "IgnoreMarks"] else []
  | _ => if Builtin.bitAnd flag 16 ≠ 0 then [Str.ofString "UseMarkFilteringSet" ++ Str.ofString " " ++ Str.ofString (toString number)] else []
noncomputable def wordUpto (flag number : Int) : Nat → List Str
  | 0 => []
  | k + 1 => wordUpto flag number k ++ wordPart flag number k
noncomputable def attWant (flag : Int) : Int := (flag.fdiv 256).fmod 256
noncomputable def attPart (flag : Int) : List Str := if 0 < attWant flag then [Str.ofString "MarkAttachmentType " ++ Str.ofString (toString (attWant flag))] else []
noncomputable def flagWords (flag number : Int) : List Str := wordUpto flag number 5 ++ attPart flag
theorem wordUpto_len (flag number : Int) : ∀ k, (wordUpto flag number k).length ≤ k
  | 0 => Nat.le_refl _
  | k + 1 => by
    have h := wordUpto_len flag number k
    have h2 : (wordPart flag number k).length ≤ 1 := by
      unfold wordPart
      split <;> (split <;> simp)
    show (wordUpto flag number k ++ wordPart flag number k).length ≤ k + 1
    rw [List.length_append]
    omega

theorem part_on {flag number : Int} {b : Int} {x : Str} (h : Builtin.bitAnd flag b ≠ 0) : (if Builtin.bitAnd flag b ≠ 0 then [x] else []) = [x] := if_pos h
theorem part_off {flag : Int} {b : Int} {x : Str} (h : Builtin.bitAnd flag b = 0) : (if Builtin.bitAnd flag b ≠ 0 then [x] else []) = [] := if_neg (fun q => q h)
theorem next_on {flag number : Int} {k : Nat} {vs : List Value} {x : Str} {t : Tok} (hP : StrsAre vs (wordUpto flag number k)) (h : wordPart flag number k = [x]) : StrsAre (vs ++ [.str x t]) (wordUpto flag number (k + 1)) := by
  show StrsAre _ (wordUpto flag number k ++ wordPart flag number k)
  rw [h]
  exact StrsAre.append' hP (.cons _ _ .nil)
theorem next_off {flag number : Int} {k : Nat} {vs : List Value} (hP : StrsAre vs (wordUpto flag number k)) (h : wordPart flag number k = []) : StrsAre vs (wordUpto flag number (k + 1)) := by
  show StrsAre _ (wordUpto flag number k ++ wordPart flag number k)
  rw [h, List.append_nil]
  exact hP

theorem top_words : ∀ (w : World) (h : Heap), PySem.Challenge.rw_nu0152_01.row.prog = PySem.Challenge.rw_nu0152_01.row.prog → (Nu.hd.heap_39 w.params).In h →
    h.get? 27 = some ({ cls := .type "tuple", data := .seq ([.ref 22, .ref 23, .ref 24, .ref 25, .ref 26] : List Value).toArray 0 } : Obj) := by
  k_fill
  intro w h _ X
  exact X 27 _ (by k_is)

theorem att_core : ∀ (w : World) (mg mb : Str → Option Value) (mean : ExcName → Option Value) (dp un : Nat) (gd : Option (List Code)) (cn : Str) (cs : Scope) (a : Addr) (ccd : Value) (cl : List (Str × Addr)) (outer : List Env) (A₀ : Around) (base h₀ : Heap) (L : Addr) (m : Str → Option Value) (s : Shared) (Q E : Value → Shared → Prop)
    (own : List (Addr × Obj)) (flag : Int) (t1 : Tok),
    Below A₀ base outer h₀ → Fr h₀ L s.heap m → (Nu.hd.heap_39 w.params).In h₀ → News h₀ L s.heap own →
    Top Nu.hd.view_39 (looseW Nu.hd.view_39 [Str.ofString "FLAG_WORDS"]) mean mg mb h₀ → cs.kind = .function → dp + 1 < recursionLimit → un + 100 < cLine →
    (∀ (t : Tok) (h' : Heap) (tk' : Nat), Fr h₀ L h' m → News h₀ L h' own → Q (.int (attWant flag) t) { s with heap := h', toks := tk' }) →
    wpAny (model PySem.Challenge.rw_nu0152_01.row.prog w) (ktrTop dp un gd cn cs L a ccd cl outer) (call (.ref 34) [.int flag t1]) Q E s := by
  k_fill
  intro w mg mb mean dp un gd cn cs a ccd cl outer A₀ base h₀ L m s Q E own flag t1 B F X N T hk hd hu hret
  refine wpAny_call ?_
  k_dflt cell_enter
  repeat' (first | (k_unfold; (try dsimp only)) | ((with_reducible show wpAny _ _ (call (Value.type _) _) _ _ _); (k_here; (with_reducible show wpAny _ _ (call (Value.type _) [Value.ref _]) _ _ _); k_dflt (refine' kde_tupleOf ?F ?N ?l ?z ?e ?_; (case F => k_asm); (case N => k_asm); (case l => is_list); (case z => ((try simp only [Array.size_push, List.size_toArray]); omega)); (case e => first | exact Array.toList_push .. | rfl)); intro D' h' F' N' l1; (try k_lt l1); (try k_sweep))) | ((with_reducible show wpAny _ _ (call (Value.ref _) _) _ _ _); (k_here; k_dflt (refine' att_use ?k1 ?k2 ?k3 ?k4 ?k5 ?k6 ?k12 ?k13 ?_; (case k1 => k_asm); (case k2 => k_asm); (case k3 => k_asm); (case k4 => k_asm); (case k5 => k_asm); (case k6 => first | exact rfl | assumption); (case k12 => ktr_room); (case k13 => ktr_units); k_whole); intro t9 h9 tk9 F9 N9; (try dsimp only); (try k_fold); (try k_sweep))) | walk1 | (dsimp only; walk1) | (leave1; (try dsimp only)) | fail "no step")
  exact hret _ _ _ (by k_asm) (by k_asm)

theorem att_use {w : World} {mg mb : Str → Option Value} {mean : ExcName → Option Value} {dp un : Nat} {gd : Option (List Code)} {cn : Str} {cs : Scope} {a : Addr} {ccd : Value} {cl : List (Str × Addr)} {outer : List Env} {A₀ : Around} {base h₀ : Heap} {L : Addr} {m : Str → Option Value} {s : Shared} {Q E : Value → Shared → Prop}
    {own : List (Addr × Obj)} {flag : Int} {t1 : Tok} (B : Below A₀ base outer h₀) (F : Fr h₀ L s.heap m) (X : (Nu.hd.heap_39 w.params).In h₀) (N : News h₀ L s.heap own)
    (T : Top Nu.hd.view_39 (looseW Nu.hd.view_39 [Str.ofString "FLAG_WORDS"]) mean mg mb h₀) (hk : cs.kind = .function) (hd : dp + 1 < recursionLimit) (hu : un + 100 < cLine)
    (hret : ∀ (t : Tok) (h' : Heap) (tk' : Nat), Fr h₀ L h' m → News h₀ L h' own → Q (.int (attWant flag) t) { s with heap := h', toks := tk' }) :
    wpAny (model PySem.Challenge.rw_nu0152_01.row.prog w) (ktrTop dp un gd cn cs L a ccd cl outer) (call (.ref 34) [.int flag t1]) Q E s :=
  att_core w mg mb mean dp un gd cn cs a ccd cl outer A₀ base h₀ L m s Q E own flag t1 B F X N T hk hd hu hret


theorem words_core : ∀ (w : World) (mg mb : Str → Option Value) (mean : ExcName → Option Value) (dp un : Nat) (gd : Option (List Code)) (cn : Str) (cs : Scope) (a : Addr) (ccd : Value) (cl : List (Str × Addr)) (outer : List Env) (A₀ : Around) (base h₀ : Heap) (L : Addr) (m : Str → Option Value) (s : Shared) (Q E : Value → Shared → Prop)
    (own : List (Addr × Obj)) (flag number : Int) (t1 t2 : Tok),
    Below A₀ base outer h₀ → Fr h₀ L s.heap m → (Nu.hd.heap_39 w.params).In h₀ → News h₀ L s.heap own →
    Top Nu.hd.view_39 (looseW Nu.hd.view_39 [Str.ofString "FLAG_WORDS"]) mean mg mb h₀ → cs.kind = .function → 0 ≤ flag → flag < 65536 → 0 ≤ number → number < 65536 → dp + 2 < recursionLimit → un + 200 < cLine →
    (∀ (vs : List Value) (h' : Heap) (tk' n' : Nat) (D : Addr), StrsAre vs (flagWords flag number) → Fr h₀ L h' m → News h₀ L h' ((D, ({ cls := .type "tuple", data := .seq vs.toArray n' } : Obj)) :: own) → (∀ p ∈ own, p.1 < D) → Q (.ref D) { s with heap := h', toks := tk' }) →
    wpAny (model PySem.Challenge.rw_nu0152_01.row.prog w) (ktrTop dp un gd cn cs L a ccd cl outer) (call (.ref 41) [.int flag t1, .int number t2]) Q E s := by
  k_fill
  intro w mg mb mean dp un gd cn cs a ccd cl outer A₀ base h₀ L m s Q E own flag number t1 t2 B F X N T hk hf0 hf1 hn0 hn1 hd hu hret
  have hMk := kstMark
  refine wpAny_call ?_
  k_dflt cell_enter
  rename Fr _ _ _ _ => lF
  obtain ⟨u0, lF2⟩ := fr_small [(Str.ofString "flag", Value.int flag t1), (Str.ofString "mark_set", Value.int number t2)] lF (by kst_all)
  clear lF
  repeat' (first | (k_unfold; (try dsimp only)) | ((with_reducible show wpAny _ _ (call (Value.type _) _) _ _ _); (k_here; (with_reducible show wpAny _ _ (call (Value.type _) [Value.ref _]) _ _ _); k_dflt (refine' kde_tupleOf ?F ?N ?l ?z ?e ?_; (case F => k_asm); (case N => k_asm); (case l => is_list); (case z => ((try simp only [Array.size_push, List.size_toArray]); omega)); (case e => first | exact Array.toList_push .. | rfl)); intro D' h' F' N' l1; (try k_lt l1); (try k_sweep))) | ((with_reducible show wpAny _ _ (call (Value.ref _) _) _ _ _); (k_here; k_dflt (refine' att_use ?k1 ?k2 ?k3 ?k4 ?k5 ?k6 ?k12 ?k13 ?_; (case k1 => k_asm); (case k2 => k_asm); (case k3 => k_asm); (case k4 => k_asm); (case k5 => k_asm); (case k6 => first | exact rfl | assumption); (case k12 => ktr_room); (case k13 => ktr_units); k_whole); intro t9 h9 tk9 F9 N9; (try dsimp only); (try k_fold); (try k_sweep))) | ((fail_if_success (with_reducible show wpAny _ _ (exec (Stmt.For _ _ _ _ _) _) _ _ _)); (first | walk1 | (dsimp only; walk1) | (leave1; (try dsimp only)))) | fail "no step")
  rename Fr _ _ _ _ => lF
  refine For_turns lF ?_
  walk1
  rename Fr _ _ _ _ => lF
  rename News _ _ _ _ => lN
  rename Frag.In _ _ => lX
  with_unfolding_all refine' turn_top (σ := List Value × Nat) (vs := [.ref 22, .ref 23, .ref 24, .ref 25, .ref 26]) (fun c => (_, listOf c.1.toArray c.2) :: own) (fun c => [(Str.ofString "flag", Value.int flag t1), (Str.ofString "mark_set", Value.int number t2), (Str.ofString "found", _)]) (fun i c => StrsAre c.1 (wordUpto flag number i)) ([], _) (by rfl) (top_words w _ rfl lX) (fun _ => rfl) lF lN ?hk ?hp ?_ ?_
  case hk => kst_all
  case hp => exact .nil
  · rintro ⟨vs, nn⟩ i v u h tk ow hv hP hoff kF kN
    clear lF lN
    dsimp only at kF kN hP
    (try simp only [List.cons_append] at kN)
    (try simp only [List.map_cons] at hoff)
    have hvl : vs.length ≤ i := by rw [hP.length]; exact wordUpto_len flag number i
    rcases i with _ | _ | _ | _ | _ | i
    · obtain rfl : Value.ref 22 = v := Option.some.inj hv
      try k_fold
      repeat' (first | (k_unfold; (try dsimp only)) | ((with_reducible show wpAny _ _ (call (Value.type _) _) _ _ _); (k_here; (with_reducible show wpAny _ _ (call (Value.type _) [Value.ref _]) _ _ _); k_dflt (refine' kde_tupleOf ?F ?N ?l ?z ?e ?_; (case F => k_asm); (case N => k_asm); (case l => is_list); (case z => ((try simp only [Array.size_push, List.size_toArray]); omega)); (case e => first | exact Array.toList_push .. | rfl)); intro D' h' F' N' l1; (try k_lt l1); (try k_sweep))) | ((with_reducible show wpAny _ _ (call (Value.ref _) _) _ _ _); (k_here; k_dflt (refine' att_use ?k1 ?k2 ?k3 ?k4 ?k5 ?k6 ?k12 ?k13 ?_; (case k1 => k_asm); (case k2 => k_asm); (case k3 => k_asm); (case k4 => k_asm); (case k5 => k_asm); (case k6 => first | exact rfl | assumption); (case k12 => ktr_room); (case k13 => ktr_units); k_whole); intro t9 h9 tk9 F9 N9; (try dsimp only); (try k_fold); (try k_sweep))) | walk1 | (dsimp only; walk1) | (leave1; (try dsimp only)) | fail "no step")
      all_goals (rename News _ _ _ _ => nE)
      all_goals (try simp only [List.push_toArray] at nE)
      · exact kv_end ⟨_, _⟩ (by assumption) nE (by first | kst_in | kst_inAny) (by first | (intro p hp; kst_mem) | kst_anyIn) (by rfl) (by kst_all) (next_on hP (if_pos (by assumption)))
      · exact kv_end ⟨_, _⟩ (by assumption) nE (by first | kst_in | kst_inAny) (by first | (intro p hp; kst_mem) | kst_anyIn) (by rfl) (by kst_all) (next_off hP (if_neg (fun q => q (by assumption))))
    · obtain rfl : Value.ref 23 = v := Option.some.inj hv
      try k_fold
      repeat' (first | (k_unfold; (try dsimp only)) | ((with_reducible show wpAny _ _ (call (Value.type _) _) _ _ _); (k_here; (with_reducible show wpAny _ _ (call (Value.type _) [Value.ref _]) _ _ _); k_dflt (refine' kde_tupleOf ?F ?N ?l ?z ?e ?_; (case F => k_asm); (case N => k_asm); (case l => is_list); (case z => ((try simp only [Array.size_push, List.size_toArray]); omega)); (case e => first | exact Array.toList_push .. | rfl)); intro D' h' F' N' l1; (try k_lt l1); (try k_sweep))) | ((with_reducible show wpAny _ _ (call (Value.ref _) _) _ _ _); (k_here; k_dflt (refine' att_use ?k1 ?k2 ?k3 ?k4 ?k5 ?k6 ?k12 ?k13 ?_; (case k1 => k_asm); (case k2 => k_asm); (case k3 => k_asm); (case k4 => k_asm); (case k5 => k_asm); (case k6 => first | exact rfl | assumption); (case k12 => ktr_room); (case k13 => ktr_units); k_whole); intro t9 h9 tk9 F9 N9; (try dsimp only); (try k_fold); (try k_sweep))) | walk1 | (dsimp only; walk1) | (leave1; (try dsimp only)) | fail "no step")
      all_goals (rename News _ _ _ _ => nE)
      all_goals (try simp only [List.push_toArray] at nE)
      · exact kv_end ⟨_, _⟩ (by assumption) nE (by first | kst_in | kst_inAny) (by first | (intro p hp; kst_mem) | kst_anyIn) (by rfl) (by kst_all) (next_on hP (if_pos (by assumption)))
      · exact kv_end ⟨_, _⟩ (by assumption) nE (by first | kst_in | kst_inAny) (by first | (intro p hp; kst_mem) | kst_anyIn) (by rfl) (by kst_all) (next_off hP (if_neg (fun q => q (by assumption))))
    · obtain rfl : Value.ref 24 = v := Option.some.inj hv
      try k_fold
      repeat' (first | (k_unfold; (try dsimp only)) | ((with_reducible show wpAny _ _ (call (Value.type _) _) _ _ _); (k_here; (with_reducible show wpAny _ _ (call (Value.type _) [Value.ref _]) _ _ _); k_dflt (refine' kde_tupleOf ?F ?N ?l ?z ?e ?_; (case F => k_asm); (case N => k_asm); (case l => is_list); (case z => ((try simp only [Array.size_push, List.size_toArray]); omega)); (case e => first | exact Array.toList_push .. | rfl)); intro D' h' F' N' l1; (try k_lt l1); (try k_sweep))) | ((with_reducible show wpAny _ _ (call (Value.ref _) _) _ _ _); (k_here; k_dflt (refine' att_use ?k1 ?k2 ?k3 ?k4 ?k5 ?k6 ?k12 ?k13 ?_; (case k1 => k_asm); (case k2 => k_asm); (case k3 => k_asm); (case k4 => k_asm); (case k5 => k_asm); (case k6 => first | exact rfl | assumption); (case k12 => ktr_room); (case k13 => ktr_units); k_whole); intro t9 h9 tk9 F9 N9; (try dsimp only); (try k_fold); (try k_sweep))) | walk1 | (dsimp only; walk1) | (leave1; (try dsimp only)) | fail "no step")
      all_goals (rename News _ _ _ _ => nE)
      all_goals (try simp only [List.push_toArray] at nE)
      · exact kv_end ⟨_, _⟩ (by assumption) nE (by first | kst_in | kst_inAny) (by first | (intro p hp; kst_mem) | kst_anyIn) (by rfl) (by kst_all) (next_on hP (if_pos (by assumption)))
      · exact kv_end ⟨_, _⟩ (by assumption) nE (by first | kst_in | kst_inAny) (by first | (intro p hp; kst_mem) | kst_anyIn) (by rfl) (by kst_all) (next_off hP (if_neg (fun q => q (by assumption))))
    · obtain rfl : Value.ref 25 = v := Option.some.inj hv
      try k_fold
      repeat' (first | (k_unfold; (try dsimp only)) | ((with_reducible show wpAny _ _ (call (Value.type _) _) _ _ _); (k_here; (with_reducible show wpAny _ _ (call (Value.type _) [Value.ref _]) _ _ _); k_dflt (refine' kde_tupleOf ?F ?N ?l ?z ?e ?_; (case F => k_asm); (case N => k_asm); (case l => is_list); (case z => ((try simp only [Array.size_push, List.size_toArray]); omega)); (case e => first | exact Array.toList_push .. | rfl)); intro D' h' F' N' l1; (try k_lt l1); (try k_sweep))) | ((with_reducible show wpAny _ _ (call (Value.ref _) _) _ _ _); (k_here; k_dflt (refine' att_use ?k1 ?k2 ?k3 ?k4 ?k5 ?k6 ?k12 ?k13 ?_; (case k1 => k_asm); (case k2 => k_asm); (case k3 => k_asm); (case k4 => k_asm); (case k5 => k_asm); (case k6 => first | exact rfl | assumption); (case k12 => ktr_room); (case k13 => ktr_units); k_whole); intro t9 h9 tk9 F9 N9; (try dsimp only); (try k_fold); (try k_sweep))) | walk1 | (dsimp only; walk1) | (leave1; (try dsimp only)) | fail "no step")
      all_goals (rename News _ _ _ _ => nE)
      all_goals (try simp only [List.push_toArray] at nE)
      · exact kv_end ⟨_, _⟩ (by assumption) nE (by first | kst_in | kst_inAny) (by first | (intro p hp; kst_mem) | kst_anyIn) (by rfl) (by kst_all) (next_on hP (if_pos (by assumption)))
      · exact kv_end ⟨_, _⟩ (by assumption) nE (by first | kst_in | kst_inAny) (by first | (intro p hp; kst_mem) | kst_anyIn) (by rfl) (by kst_all) (next_off hP (if_neg (fun q => q (by assumption))))
    · obtain rfl : Value.ref 26 = v := Option.some.inj hv
      try k_fold
      repeat' (first | (k_unfold; (try dsimp only)) | ((with_reducible show wpAny _ _ (call (Value.type _) _) _ _ _); (k_here; (with_reducible show wpAny _ _ (call (Value.type _) [Value.ref _]) _ _ _); k_dflt (refine' kde_tupleOf ?F ?N ?l ?z ?e ?_; (case F => k_asm); (case N => k_asm); (case l => is_list); (case z => ((try simp only [Array.size_push, List.size_toArray]); omega)); (case e => first | exact Array.toList_push .. | rfl)); intro D' h' F' N' l1; (try k_lt l1); (try k_sweep))) | ((with_reducible show wpAny _ _ (call (Value.ref _) _) _ _ _); (k_here; k_dflt (refine' att_use ?k1 ?k2 ?k3 ?k4 ?k5 ?k6 ?k12 ?k13 ?_; (case k1 => k_asm); (case k2 => k_asm); (case k3 => k_asm); (case k4 => k_asm); (case k5 => k_asm); (case k6 => first | exact rfl | assumption); (case k12 => ktr_room); (case k13 => ktr_units); k_whole); intro t9 h9 tk9 F9 N9; (try dsimp only); (try k_fold); (try k_sweep))) | walk1 | (dsimp only; walk1) | (leave1; (try dsimp only)) | fail "no step")
      all_goals (rename News _ _ _ _ => nE)
      all_goals (try simp only [List.push_toArray] at nE)
      · exact kv_end ⟨_, _⟩ (by assumption) nE (by first | kst_in | kst_inAny) (by first | (intro p hp; kst_mem) | kst_anyIn) (by rfl) (by kst_all) (next_on hP (if_pos (by assumption)))
      · exact kv_end ⟨_, _⟩ (by assumption) nE (by first | kst_in | kst_inAny) (by first | (intro p hp; kst_mem) | kst_anyIn) (by rfl) (by kst_all) (next_off hP (if_neg (fun q => q (by assumption))))
    · exact nomatch hv
  · rintro ⟨vs, nn⟩ u h tk hP kF kN
    clear lF lN
    dsimp only at kF kN hP
    have hvl : vs.length ≤ 5 := by rw [hP.length]; exact wordUpto_len flag number 5
    repeat' (first | (k_unfold; (try dsimp only)) | ((with_reducible show wpAny _ _ (call (Value.type _) _) _ _ _); (k_here; (with_reducible show wpAny _ _ (call (Value.type _) [Value.ref _]) _ _ _); k_dflt (refine' kde_tupleOf ?F ?N ?l ?z ?e ?_; (case F => k_asm); (case N => k_asm); (case l => is_list); (case z => ((try simp only [Array.size_push, List.size_toArray]); omega)); (case e => first | exact Array.toList_push .. | rfl)); intro D' h' F' N' l1; (try k_lt l1); (try k_sweep))) | ((with_reducible show wpAny _ _ (call (Value.ref _) _) _ _ _); (k_here; k_dflt (refine' att_use ?k1 ?k2 ?k3 ?k4 ?k5 ?k6 ?k12 ?k13 ?_; (case k1 => k_asm); (case k2 => k_asm); (case k3 => k_asm); (case k4 => k_asm); (case k5 => k_asm); (case k6 => first | exact rfl | assumption); (case k12 => ktr_room); (case k13 => ktr_units); k_whole); intro t9 h9 tk9 F9 N9; (try dsimp only); (try k_fold); (try k_sweep))) | walk1 | (dsimp only; walk1) | (leave1; (try dsimp only)) | fail "no step")
    all_goals (rename News h₀ _ _ _ => nE)
    all_goals (rename _ ∧ AllLt _ _ => lE)
    · exact hret _ _ _ _ _ (by refine StrsAre.append' hP ?_; (unfold attPart; rw [if_pos (by assumption)]; exact .cons _ _ .nil)) (by k_asm) (ret_news nE fun p hp => .tail _ hp) (ktn_ltOf lE.2)
    · exact hret _ _ _ _ _ (by unfold flagWords attPart; rw [if_neg (by assumption), List.append_nil]; exact hP) (by k_asm) (ret_news nE fun p hp => .tail _ hp) (ktn_ltOf lE.2)
end Nu
end
section
theorem Nu.freshNuLw : True := by
  w_top off
  first | (walk1; done) | trivial
open PySem PySem.W PyProof.Rows PySem.Calls PySem.Spec
namespace Nu
noncomputable def lwPart (flag : Int) (k : Nat) : List Str := match k with
  | 0 => if (flag.fdiv 1).fmod 2 = 1 then [Str.ofString "RightToLeft"] else []
  | 1 => if (flag.fdiv 2).fmod 2 = 1 then [Str.ofString "IgnoreBaseGlyphs"] else []
  | 2 => if (flag.fdiv 4).fmod 2 = 1 then [Str.ofString "IgnoreLigatures"] else []
  | _ => if (flag.fdiv 8).fmod 2 = 1 then [Str.ofString "IgnoreMarks"] else []
noncomputable def lwUpto (flag : Int) : Nat → List Str
  | 0 => []
  | k + 1 => lwUpto flag k ++ lwPart flag k
noncomputable def lwSet (flag number : Int) : List Str := if (flag.fdiv 16).fmod 2 = 1 then [Str.ofString "UseMarkFilteringSet " ++ Str.ofString (toString number)] else []
noncomputable def lwAtt (flag : Int) : List Str := if 0 < flag.fdiv 256 then [Str.ofString "MarkAttachmentType " ++ Str.ofString (toString (flag.fdiv 256))] else []
noncomputable def lwWords (flag number : Int) : List Str := lwUpto flag 4 ++ lwSet flag number ++ lwAtt flag
theorem lwUpto_len (flag : Int) : ∀ k, (lwUpto flag k).length ≤ k
  | 0 => Nat.le_refl _
  | k + 1 => by
    have h := lwUpto_len flag k
    have h2 : (lwPart flag k).length ≤ 1 := by
      unfold lwPart
      split <;> (split <;> simp)
    show (lwUpto flag k ++ lwPart flag k).length ≤ k + 1
    rw [List.length_append]
    omega
theorem lw_on {flag : Int} {k : Nat} {vs : List Value} {x : Str} {t : Tok} (hP : StrsAre vs (lwUpto flag k)) (h : lwPart flag k = [x]) : StrsAre (vs ++ [.str x t]) (lwUpto flag (k + 1)) := by
  show StrsAre _ (lwUpto flag k ++ lwPart flag k)
  rw [h]
  exact StrsAre.append' hP (.cons _ _ .nil)
theorem lw_off {flag : Int} {k : Nat} {vs : List Value} (hP : StrsAre vs (lwUpto flag k)) (h : lwPart flag k = []) : StrsAre vs (lwUpto flag (k + 1)) := by
  show StrsAre _ (lwUpto flag k ++ lwPart flag k)
  rw [h, List.append_nil]
  exact hP

theorem lset_on {flag number : Int} {t : Tok} (h : (flag.fdiv 16).fmod 2 = 1) : StrsAre [.str (Str.ofString "UseMarkFilteringSet " ++ Str.ofString (toString number)) t] (lwSet flag number) := by
  unfold lwSet; rw [if_pos h]; exact .cons _ _ .nil
theorem lset_off {flag number : Int} (h : ¬ (flag.fdiv 16).fmod 2 = 1) : StrsAre [] (lwSet flag number) := by
  unfold lwSet; rw [if_neg h]; exact .nil
theorem latt_on {flag : Int} {t : Tok} (h : 0 < flag.fdiv 256) : StrsAre [.str (Str.ofString "MarkAttachmentType " ++ Str.ofString (toString (flag.fdiv 256))) t] (lwAtt flag) := by
  unfold lwAtt; rw [if_pos h]; exact .cons _ _ .nil
theorem latt_off {flag : Int} (h : ¬ 0 < flag.fdiv 256) : StrsAre [] (lwAtt flag) := by
  unfold lwAtt; rw [if_neg h]; exact .nil
theorem lw_end {flag number : Int} {vs as bs : List Value} (hP : StrsAre vs (lwUpto flag 4)) (ha : StrsAre as (lwSet flag number)) (hb : StrsAre bs (lwAtt flag)) : StrsAre (vs ++ as ++ bs) (lwWords flag number) :=
  StrsAre.append' (StrsAre.append' hP ha) hb
theorem lw_end_a {flag number : Int} {vs as : List Value} (hP : StrsAre vs (lwUpto flag 4)) (ha : StrsAre as (lwSet flag number)) (hb : StrsAre [] (lwAtt flag)) : StrsAre (vs ++ as) (lwWords flag number) := by
  have h := lw_end hP ha hb
  rwa [List.append_nil] at h
theorem lw_end_b {flag number : Int} {vs bs : List Value} (hP : StrsAre vs (lwUpto flag 4)) (ha : StrsAre [] (lwSet flag number)) (hb : StrsAre bs (lwAtt flag)) : StrsAre (vs ++ bs) (lwWords flag number) := by
  have h := lw_end hP ha hb
  rwa [List.append_nil] at h
theorem lw_end_c {flag number : Int} {vs : List Value} (hP : StrsAre vs (lwUpto flag 4)) (ha : StrsAre [] (lwSet flag number)) (hb : StrsAre [] (lwAtt flag)) : StrsAre vs (lwWords flag number) := by
  have h := lw_end hP ha hb
  rwa [List.append_nil, List.append_nil] at h

theorem lw_core : ∀ (w : World) (mg mb : Str → Option Value) (mean : ExcName → Option Value) (dp un : Nat) (gd : Option (List Code)) (cn : Str) (cs : Scope) (a : Addr) (ccd : Value) (cl : List (Str × Addr)) (outer : List Env) (A₀ : Around) (base h₀ : Heap) (L : Addr) (m : Str → Option Value) (s : Shared) (Q E : Value → Shared → Prop)
    (own : List (Addr × Obj)) (flag number : Int) (t1 t2 : Tok),
    Below A₀ base outer h₀ → Fr h₀ L s.heap m → (Nu.hd.heap_39 w.params).In h₀ → News h₀ L s.heap own →
    Top Nu.hd.view_39 (looseW Nu.hd.view_39 [Str.ofString "FLAG_WORDS"]) mean mg mb h₀ → cs.kind = .function → 0 ≤ flag → flag < 65536 → 0 ≤ number → number < 65536 → dp + 2 < recursionLimit → un + 200 < cLine →
    (∀ (vs : List Value) (h' : Heap) (tk' n' : Nat) (D : Addr), StrsAre vs (lwWords flag number) → Fr h₀ L h' m → News h₀ L h' ((D, listOf vs.toArray n') :: own) → (∀ p ∈ own, p.1 < D) → Q (.ref D) { s with heap := h', toks := tk' }) →
    wpAny (model PySem.Challenge.rw_nu0152_01.row.prog w) (ktrTop dp un gd cn cs L a ccd cl outer) (call (.ref 196) [.int flag t1, .int number t2]) Q E s := by
  k_fill
  intro w mg mb mean dp un gd cn cs a ccd cl outer A₀ base h₀ L m s Q E own flag number t1 t2 B F X N T hk hf0 hf1 hn0 hn1 hd hu hret
  have hMk := kstMark
  refine wpAny_call ?_
  k_dflt cell_enter
  rename Fr _ _ _ _ => lF
  obtain ⟨u0, lF2⟩ := fr_small [(Str.ofString "flag", Value.int flag t1), (Str.ofString "number", Value.int number t2)] lF (by kst_all)
  clear lF
  repeat' (first | (k_unfold; (try dsimp only)) | ((fail_if_success (with_reducible show wpAny _ _ (exec (Stmt.For _ _ _ _ _) _) _ _ _)); (first | walk1 | (dsimp only; walk1) | (leave1; (try dsimp only)))) | fail "no step")
  rename ∀ p ∈ own, p.1 < _ => hD
  rename Fr _ _ _ _ => lF
  with_unfolding_all refine' For_invVF lF ?k1 ?k2 ?_
  case k1 => exact rfl
  case k2 => exact rfl
  repeat' (first | (k_unfold; (try dsimp only)) | ((fail_if_success (with_reducible show wpAny _ _ (pyIter _) _ _ _)); (first | walk1 | (dsimp only; walk1) | (leave1; (try dsimp only)))) | fail "no step")
  rename Fr _ _ _ _ => lF
  rename News _ _ _ _ => lN
  rename IsRange _ _ _ _ _ _ _ _ => lR
  with_unfolding_all refine' st_range (σ := List Value × Nat) (n := 4) (fun c => (_, listOf c.1.toArray c.2) :: own) (fun c => [(Str.ofString "flag", Value.int flag t1), (Str.ofString "number", Value.int number t2), (Str.ofString "found", _)]) (fun i c => StrsAre c.1 (lwUpto flag i)) ([], _) (by rfl) lR (by decide) (by rfl) lF (cb_drop lN (by kst_inAny)) ?hk ?hp ?_ ?_
  case hk => kst_all
  case hp => exact .nil
  · rintro ⟨vs, nn⟩ i kk kt u h tk ow hi hkk hP hoff kF kN
    clear lF lN lR
    dsimp only at kF kN hP
    (try simp only [List.cons_append] at kN)
    (try simp only [List.map_cons] at hoff)
    have hvl : vs.length ≤ i := by rw [hP.length]; exact lwUpto_len flag i
    rcases i with _ | _ | _ | _ | i
    · obtain rfl : kk = 0 := by omega
      clear hkk hi
      try k_fold
      repeat' (first | (k_unfold; (try dsimp only)) | walk1 | (dsimp only; walk1) | (leave1; (try dsimp only)) | fail "no step")
      all_goals (rename News _ _ _ _ => nE)
      all_goals (try simp only [List.push_toArray] at nE)
      · exact kv_end ⟨_, _⟩ (by assumption) nE (by first | kst_in | kst_inAny) (by first | (intro p hp; kst_mem) | kst_anyIn) (by rfl) (by kst_all) (lw_on hP (if_pos (by assumption)))
      · exact kv_end ⟨_, _⟩ (by assumption) nE (by first | kst_in | kst_inAny) (by first | (intro p hp; kst_mem) | kst_anyIn) (by rfl) (by kst_all) (lw_off hP (if_neg (by assumption)))
    · obtain rfl : kk = 1 := by omega
      clear hkk hi
      try k_fold
      repeat' (first | (k_unfold; (try dsimp only)) | walk1 | (dsimp only; walk1) | (leave1; (try dsimp only)) | fail "no step")
      all_goals (rename News _ _ _ _ => nE)
      all_goals (try simp only [List.push_toArray] at nE)
      · exact kv_end ⟨_, _⟩ (by assumption) nE (by first | kst_in | kst_inAny) (by first | (intro p hp; kst_mem) | kst_anyIn) (by rfl) (by kst_all) (lw_on hP (if_pos (by assumption)))
      · exact kv_end ⟨_, _⟩ (by assumption) nE (by first | kst_in | kst_inAny) (by first | (intro p hp; kst_mem) | kst_anyIn) (by rfl) (by kst_all) (lw_off hP (if_neg (by assumption)))
    · obtain rfl : kk = 2 := by omega
      clear hkk hi
      try k_fold
      repeat' (first | (k_unfold; (try dsimp only)) | walk1 | (dsimp only; walk1) | (leave1; (try dsimp only)) | fail "no step")
      all_goals (rename News _ _ _ _ => nE)
      all_goals (try simp only [List.push_toArray] at nE)
      · exact kv_end ⟨_, _⟩ (by assumption) nE (by first | kst_in | kst_inAny) (by first | (intro p hp; kst_mem) | kst_anyIn) (by rfl) (by kst_all) (lw_on hP (if_pos (by assumption)))
      · exact kv_end ⟨_, _⟩ (by assumption) nE (by first | kst_in | kst_inAny) (by first | (intro p hp; kst_mem) | kst_anyIn) (by rfl) (by kst_all) (lw_off hP (if_neg (by assumption)))
    · obtain rfl : kk = 3 := by omega
      clear hkk hi
      try k_fold
      repeat' (first | (k_unfold; (try dsimp only)) | walk1 | (dsimp only; walk1) | (leave1; (try dsimp only)) | fail "no step")
      all_goals (rename News _ _ _ _ => nE)
      all_goals (try simp only [List.push_toArray] at nE)
      · exact kv_end ⟨_, _⟩ (by assumption) nE (by first | kst_in | kst_inAny) (by first | (intro p hp; kst_mem) | kst_anyIn) (by rfl) (by kst_all) (lw_on hP (if_pos (by assumption)))
      · exact kv_end ⟨_, _⟩ (by assumption) nE (by first | kst_in | kst_inAny) (by first | (intro p hp; kst_mem) | kst_anyIn) (by rfl) (by kst_all) (lw_off hP (if_neg (by assumption)))
    · exact absurd hi (by omega)
  · rintro ⟨vs, nn⟩ u h tk hP kF kN
    clear lF lN lR
    dsimp only at kF kN hP
    have hvl : vs.length ≤ 4 := by rw [hP.length]; exact lwUpto_len flag 4
    repeat' (first | (k_unfold; (try dsimp only)) | walk1 | (dsimp only; walk1) | (leave1; (try dsimp only)) | fail "no step")
    all_goals (rename News h₀ _ _ _ => nE)
    all_goals (try simp only [List.push_toArray] at nE)
    · exact hret _ _ _ _ _ (lw_end hP (lset_on (by assumption)) (latt_on (by assumption))) (by k_asm) nE hD
    · exact hret _ _ _ _ _ (lw_end_a hP (lset_on (by assumption)) (latt_off (by assumption))) (by k_asm) nE hD
    · exact hret _ _ _ _ _ (lw_end_b hP (lset_off (by assumption)) (latt_on (by assumption))) (by k_asm) nE hD
    · exact hret _ _ _ _ _ (lw_end_c hP (lset_off (by assumption)) (latt_off (by assumption))) (by k_asm) nE hD
end Nu
end
section
theorem Nu.freshNuRows : True := by
  w_top off
  first | (walk1; done) | trivial
open PySem PySem.W PyProof.Rows PySem.Calls PySem.Spec
namespace Nu
noncomputable def rowTab : List (Str × Str × Int) := [
  (Str.ofString "RightToLeft", Str.ofString "bit", 1),
  (Str.ofString "IgnoreBaseGlyphs", Str.ofString "bit", 2),
  (Str.ofString "IgnoreLigatures", Str.ofString "bit", 4),
  (Str.ofString "IgnoreMarks", Str.ofString "bit", 8),
  (Str.ofString "UseMarkFilteringSet 7", Str.ofString "set", 7),
  (Str.ofString "MarkAttachmentType 1", Str.ofString "attach", 1),
  (Str.ofString "MarkAttachmentType 254", Str.ofString "attach", 254),
  (Str.ofString "UseMarkFilteringSet 065", Str.ofString "set", 65),
  (Str.ofString "UseMarkFilteringSet 65535", Str.ofString "set", 65535),
  (Str.ofString "MarkAttachmentType 00003", Str.ofString "attach", 3),
  (Str.ofString "UseMarkFilteringSet 65536", Str.ofString "", 0),
  (Str.ofString "UseMarkFilteringSet", Str.ofString "", 0),
  (Str.ofString "MarkAttachmentType 0", Str.ofString "", 0),
  (Str.ofString "MarkAttachmentType 256", Str.ofString "", 0),
  (Str.ofString "MarkAttachmentType  3", Str.ofString "", 0),
  (Str.ofString "MarkAttachmentType -1", Str.ofString "", 0),
  (Str.ofString "", Str.ofString "", 0),
  (Str.ofString "ignoremarks", Str.ofString "", 0),
  (Str.ofString "IgnoreMarks 1", Str.ofString "", 0),
  (Str.ofString "RightToLeft ", Str.ofString "", 0),
  (Str.ofString "UseMarkFilteringSet 000007", Str.ofString "", 0)]
noncomputable def rowAt (j : Nat) : Str × Str × Int := rowTab.getD j (Str.ofString "", Str.ofString "", 0)
noncomputable def rowText (j : Nat) : Str := (rowAt j).1
noncomputable def rowKind (j : Nat) : Str := (rowAt j).2.1
noncomputable def rowWorth (j : Nat) : Int := (rowAt j).2.2
noncomputable abbrev rowRef (j : Nat) : Value := .ref (161 + j)
noncomputable abbrev rowObj (x kd : Str) (wo : Int) (t1 t2 t3 : Tok) : Obj := { cls := .type "tuple", data := .seq #[.str x t1, .str kd t2, .int wo t3] }

theorem row_lts : ∀ j : Nat, j < 21 → (j = 0 ∨ j = 1 ∨ j = 2 ∨ j = 3 ∨ j = 4 ∨ j = 5 ∨ j = 6 ∨ j = 7 ∨ j = 8 ∨ j = 9 ∨ j = 10 ∨ j = 11 ∨ j = 12 ∨ j = 13 ∨ j = 14 ∨ j = 15 ∨ j = 16 ∨ j = 17 ∨ j = 18 ∨ j = 19 ∨ j = 20) := by decide +kernel
theorem row_lt {j : Nat} (h : j < 21) : j = 0 ∨ j = 1 ∨ j = 2 ∨ j = 3 ∨ j = 4 ∨ j = 5 ∨ j = 6 ∨ j = 7 ∨ j = 8 ∨ j = 9 ∨ j = 10 ∨ j = 11 ∨ j = 12 ∨ j = 13 ∨ j = 14 ∨ j = 15 ∨ j = 16 ∨ j = 17 ∨ j = 18 ∨ j = 19 ∨ j = 20 := row_lts j h
theorem row_top : ∀ (w : World) (h : Heap), PySem.Challenge.rw_nu0152_01.row.prog = PySem.Challenge.rw_nu0152_01.row.prog → (Nu.hd.heap_39 w.params).In h → ∀ j, j < 21 →
    h.get? (161 + j) = some (rowObj (rowText j) (rowKind j) (rowWorth j) (395 + 3 * j) (396 + 3 * j) (397 + 3 * j)) := by
  k_fill
  intro w h _ X j hj
  rcases row_lt hj with rfl | rfl | rfl | rfl | rfl | rfl | rfl | rfl | rfl | rfl | rfl | rfl | rfl | rfl | rfl | rfl | rfl | rfl | rfl | rfl | rfl
  all_goals exact X _ _ (by k_is)
theorem row_kinds : ∀ j, j < 21 → rowKind j = Str.ofString "" ∨ (rowKind j = Str.ofString "bit" ∧ (rowWorth j = 1 ∨ rowWorth j = 2 ∨ rowWorth j = 4 ∨ rowWorth j = 8)) ∨ (rowKind j = Str.ofString "set" ∧ 0 ≤ rowWorth j ∧ rowWorth j < 65536) ∨ (rowKind j = Str.ofString "attach" ∧ 1 ≤ rowWorth j ∧ rowWorth j < 256) := by decide +kernel
end Nu
end
section
theorem Nu.freshNuRead : True := by
  w_top off
  first | (walk1; done) | trivial
open PySem PySem.W PyProof.Rows PySem.Calls PySem.Spec
namespace Nu
structure RS where
  b0 : Int
  b1 : Int
  b2 : Int
  b3 : Int
  b4 : Int
  att : Int
  num : Int
noncomputable def readStep (j : Nat) (st : RS) : Option RS :=
  if rowKind j = Str.ofString "" then none
  else if rowKind j = Str.ofString "bit" then
    (if rowWorth j = 1 then some { st with b0 := 1 } else if rowWorth j = 2 then some { st with b1 := 1 } else if rowWorth j = 4 then some { st with b2 := 1 } else some { st with b3 := 1 })
  else if rowKind j = Str.ofString "set" then some { st with b4 := 1, num := rowWorth j }
  else some { st with att := rowWorth j }
noncomputable def readAcc : List Nat → RS → Option RS
  | [], st => some st
  | j :: r, st => (readStep j st).bind (readAcc r)
noncomputable def rs0 : RS := ⟨0, 0, 0, 0, 0, 0, 0⟩
noncomputable def rsTell (st : RS) : Int × Int := (st.b0 + st.b1 * 2 + st.b2 * 4 + st.b3 * 8 + st.b4 * 16 + 256 * st.att, st.num)
def RSok (st : RS) : Prop := (0 ≤ st.b0 ∧ st.b0 ≤ 1) ∧ (0 ≤ st.b1 ∧ st.b1 ≤ 1) ∧ (0 ≤ st.b2 ∧ st.b2 ≤ 1) ∧ (0 ≤ st.b3 ∧ st.b3 ≤ 1) ∧ (0 ≤ st.b4 ∧ st.b4 ≤ 1) ∧ (0 ≤ st.att ∧ st.att < 256) ∧ (0 ≤ st.num ∧ st.num < 65536)
theorem bits_getD {b0 b1 b2 b3 b4 a n : Int} (h : RSok ⟨b0, b1, b2, b3, b4, a, n⟩) (k : Nat) : 0 ≤ ([b0, b1, b2, b3, b4] : List Int).getD k 0 ∧ ([b0, b1, b2, b3, b4] : List Int).getD k 0 ≤ 1 := by
  obtain ⟨h0, h1, h2, h3, h4, _, _⟩ := h
  rcases k with _ | _ | _ | _ | _ | k
  · exact h0
  · exact h1
  · exact h2
  · exact h3
  · exact h4
  · exact ⟨Int.le_refl _, by simp⟩
theorem mul_bits {b0 b1 b2 b3 b4 a n : Int} (h : RSok ⟨b0, b1, b2, b3, b4, a, n⟩) (k : Nat) (b : Int) : IntMulOk (([b0, b1, b2, b3, b4] : List Int).getD k 0) b :=
  IntMulOk.of_left (PySem.intBits_le_64 (by have := (bits_getD h k).1; omega) (by have := (bits_getD h k).2; omega))
noncomputable def readOf (js : List Nat) : Int × Int := match readAcc js rs0 with
  | some st => rsTell st
  | none => (-1, 0)
theorem one_ok : (0 : Int) ≤ 1 ∧ (1 : Int) ≤ 1 := by decide
theorem rs0_ok : RSok rs0 := by unfold RSok rs0; decide
theorem readAcc_append (r : List Nat) (j : Nat) : ∀ (l : List Nat) (st : RS), readAcc (l ++ j :: r) st = (readAcc l st).bind fun st' => (readStep j st').bind (readAcc r)
  | [], _ => rfl
  | y :: l, st => by
    show (readStep y st).bind _ = _
    rw [show readAcc (y :: l) st = (readStep y st).bind (readAcc l) from rfl, Option.bind_assoc]
    congr 1
    funext st'
    exact readAcc_append r j l st'
theorem read_next {js : List Nat} {i j : Nat} {st st' : RS} (hx : js[i]? = some j) (hP : readAcc (js.take i) rs0 = some st) (h : readStep j st = some st') : readAcc (js.take (i + 1)) rs0 = some st' := by
  have e : js.take (i + 1) = js.take i ++ [j] := by simp [List.take_add_one, hx]
  rw [e, readAcc_append, hP, Option.bind_some, h]
  rfl
theorem read_none {js : List Nat} {i j : Nat} {st : RS} (hx : js[i]? = some j) (hP : readAcc (js.take i) rs0 = some st) (h : readStep j st = none) : readOf js = (-1, 0) := by
  have hs : js.take (i + 1) = js.take i ++ [j] := by simp [List.take_add_one, hx]
  have e : js = js.take i ++ j :: js.drop (i + 1) := by
    have ht := List.take_append_drop (i + 1) js
    rw [hs, List.append_assoc] at ht
    exact ht.symm
  unfold readOf
  rw [e, readAcc_append, hP, Option.bind_some, h]
  rfl
theorem read_done {js : List Nat} {st : RS} (hP : readAcc (js.take (js.map rowRef).length) rs0 = some st) : readOf js = rsTell st := by
  rw [List.length_map, List.take_length] at hP
  unfold readOf
  rw [hP]
section
variable {j : Nat} {b0 b1 b2 b3 b4 a n : Int}
theorem rstep_bad (h : rowKind j = Str.ofString "") : readStep j ⟨b0, b1, b2, b3, b4, a, n⟩ = none := by unfold readStep; rw [if_pos h]
theorem bit_ne : ¬ (Str.ofString "bit" = Str.ofString "") := by decide
theorem set_ne : ¬ (Str.ofString "set" = Str.ofString "") := by decide
theorem set_ne2 : ¬ (Str.ofString "set" = Str.ofString "bit") := by decide
theorem att_ne : ¬ (Str.ofString "attach" = Str.ofString "") := by decide
theorem att_ne2 : ¬ (Str.ofString "attach" = Str.ofString "bit") := by decide
theorem att_ne3 : ¬ (Str.ofString "attach" = Str.ofString "set") := by decide
theorem rstep_b0 (h : rowKind j = Str.ofString "bit") (hw : rowWorth j = 1) : readStep j ⟨b0, b1, b2, b3, b4, a, n⟩ = some ⟨1, b1, b2, b3, b4, a, n⟩ := by
  unfold readStep; rw [h, hw, if_neg bit_ne, if_pos rfl, if_pos rfl]
theorem rstep_b1 (h : rowKind j = Str.ofString "bit") (hw : rowWorth j = 2) : readStep j ⟨b0, b1, b2, b3, b4, a, n⟩ = some ⟨b0, 1, b2, b3, b4, a, n⟩ := by
  unfold readStep; rw [h, hw, if_neg bit_ne, if_pos rfl, if_neg (by decide), if_pos rfl]
theorem rstep_b2 (h : rowKind j = Str.ofString "bit") (hw : rowWorth j = 4) : readStep j ⟨b0, b1, b2, b3, b4, a, n⟩ = some ⟨b0, b1, 1, b3, b4, a, n⟩ := by
  unfold readStep; rw [h, hw, if_neg bit_ne, if_pos rfl, if_neg (by decide), if_neg (by decide), if_pos rfl]
theorem rstep_b3 (h : rowKind j = Str.ofString "bit") (hw : rowWorth j = 8) : readStep j ⟨b0, b1, b2, b3, b4, a, n⟩ = some ⟨b0, b1, b2, 1, b4, a, n⟩ := by
  unfold readStep; rw [h, hw, if_neg bit_ne, if_pos rfl, if_neg (by decide), if_neg (by decide), if_neg (by decide)]
theorem rstep_set (h : rowKind j = Str.ofString "set") : readStep j ⟨b0, b1, b2, b3, b4, a, n⟩ = some ⟨b0, b1, b2, b3, 1, a, rowWorth j⟩ := by
  unfold readStep; rw [h, if_neg set_ne, if_neg set_ne2, if_pos rfl]
theorem rstep_att (h : rowKind j = Str.ofString "attach") : readStep j ⟨b0, b1, b2, b3, b4, a, n⟩ = some ⟨b0, b1, b2, b3, b4, rowWorth j, n⟩ := by
  unfold readStep; rw [h, if_neg att_ne, if_neg att_ne2, if_neg att_ne3]
variable (R : RSok ⟨b0, b1, b2, b3, b4, a, n⟩)
include R
theorem ok_b0 : RSok ⟨1, b1, b2, b3, b4, a, n⟩ := ⟨one_ok, R.2⟩
theorem ok_b1 : RSok ⟨b0, 1, b2, b3, b4, a, n⟩ := ⟨R.1, one_ok, R.2.2⟩
theorem ok_b2 : RSok ⟨b0, b1, 1, b3, b4, a, n⟩ := ⟨R.1, R.2.1, one_ok, R.2.2.2⟩
theorem ok_b3 : RSok ⟨b0, b1, b2, 1, b4, a, n⟩ := ⟨R.1, R.2.1, R.2.2.1, one_ok, R.2.2.2.2⟩
theorem ok_set {k : Int} (h0 : 0 ≤ k) (h1 : k < 65536) : RSok ⟨b0, b1, b2, b3, 1, a, k⟩ := ⟨R.1, R.2.1, R.2.2.1, R.2.2.2.1, one_ok, R.2.2.2.2.2.1, ⟨h0, h1⟩⟩
theorem ok_att {k : Int} (h0 : 1 ≤ k) (h1 : k < 256) : RSok ⟨b0, b1, b2, b3, b4, k, n⟩ := ⟨R.1, R.2.1, R.2.2.1, R.2.2.2.1, R.2.2.2.2.1, ⟨Int.le_trans (by decide) h0, h1⟩, R.2.2.2.2.2.2⟩
end
theorem tell_sum (b0 b1 b2 b3 b4 a n : Int) : rsTell ⟨b0, b1, b2, b3, b4, a, n⟩ = ((List.map (fun k' => ([b0, b1, b2, b3, b4] : List Int).getD k'.toNat 0 * 2 ^ k'.toNat) (rangeKs 0 (5 - 0 : Int).toNat)).sum + 256 * a, n) := by
  have e : rangeKs 0 (5 - 0 : Int).toNat = [0, 1, 2, 3, 4] := by decide
  rw [e]
  unfold rsTell
  simp only [List.map_cons, List.map_nil, List.sum_cons, List.sum_nil]
  have h0 : ([b0, b1, b2, b3, b4] : List Int).getD (0 : Int).toNat 0 = b0 := rfl
  have h1 : ([b0, b1, b2, b3, b4] : List Int).getD (1 : Int).toNat 0 = b1 := rfl
  have h2 : ([b0, b1, b2, b3, b4] : List Int).getD (2 : Int).toNat 0 = b2 := rfl
  have h3 : ([b0, b1, b2, b3, b4] : List Int).getD (3 : Int).toNat 0 = b3 := rfl
  have h4 : ([b0, b1, b2, b3, b4] : List Int).getD (4 : Int).toNat 0 = b4 := rfl
  have p0 : (2 : Int) ^ (0 : Int).toNat = 1 := rfl
  have p1 : (2 : Int) ^ (1 : Int).toNat = 2 := rfl
  have p2 : (2 : Int) ^ (2 : Int).toNat = 4 := rfl
  have p3 : (2 : Int) ^ (3 : Int).toNat = 8 := rfl
  have p4 : (2 : Int) ^ (4 : Int).toNat = 16 := rfl
  rw [h0, h1, h2, h3, h4, p0, p1, p2, p3, p4]
  congr 1
  omega
structure RT where
  t0 : Tok
  t1 : Tok
  t2 : Tok
  t3 : Tok
  t4 : Tok
  ta : Tok
  tn : Tok
  n : Nat
noncomputable abbrev bitsObj (c : RS × RT) : Obj := listOf #[.int c.1.b0 c.2.t0, .int c.1.b1 c.2.t1, .int c.1.b2 c.2.t2, .int c.1.b3 c.2.t3, .int c.1.b4 c.2.t4] c.2.n

theorem rows_get {js : List Nat} {i : Nat} {v : Value} (h : (js.map rowRef)[i]? = some v) : ∃ j, js[i]? = some j ∧ v = rowRef j := by
  rw [List.getElem?_map] at h
  obtain ⟨j, hj, e⟩ := Option.map_eq_some_iff.mp h
  exact ⟨j, hj, e.symm⟩
theorem row_unpack {prog : Program} {w : World} {A : Around} {E : Value → Shared → Prop} {s : Shared} {env : Env} {h₀ : Heap} {L t : Addr} {m : Str → Option Value} {news : List (Addr × Obj)} {elts : List Expr} {k : Nat} {pos : Pos} {x kd : Str} {wo : Int} {t1 t2 t3 : Tok} {Q : Unit → Shared → Prop}
    (F : Fr h₀ L s.heap m) (N : News h₀ L s.heap news) (ht : h₀.get? t = some (rowObj x kd wo t1 t2 t3)) (hh : A.handled = none) (hn : (assignEach elts env).length = 3) (hstar : (assignEach elts env).findIdx? (·.1) = none)
    (h : ∀ h', Fr h₀ L h' m → News h₀ L h' news → wpAny (model prog w) A (assignInOrder ((assignEach elts env).map (·.2)) [.str x t1, .str kd t2, .int wo t3]) Q E { s with heap := h' }) :
    wpAny (model prog w) A (assign (.Tuple elts k pos) env (.ref t)) Q E s := unpackN_ F N ⟨_, F.keep _ _ ht, rfl, _, rfl⟩ hh hn hstar h


theorem five {k : Int} (h : k < 0 + ((5 - 0 : Int).toNat : Int)) : k < 5 := h
theorem read_core : ∀ (w : World) (mg mb : Str → Option Value) (mean : ExcName → Option Value) (dp un : Nat) (gd : Option (List Code)) (cn : Str) (cs : Scope) (a : Addr) (ccd : Value) (cl : List (Str × Addr)) (outer : List Env) (A₀ : Around) (base h₀ : Heap) (L : Addr) (m : Str → Option Value) (s : Shared) (Q E : Value → Shared → Prop)
    (own : List (Addr × Obj)) (l : Addr) (nl : Nat) (js : List Nat),
    Below A₀ base outer h₀ → Fr h₀ L s.heap m → (Nu.hd.heap_39 w.params).In h₀ → News h₀ L s.heap ((l, listOf (js.map rowRef).toArray nl) :: own) →
    Top Nu.hd.view_39 (looseW Nu.hd.view_39 [Str.ofString "FLAG_WORDS"]) mean mg mb h₀ → cs.kind = .function → (∀ j ∈ js, j < 21) → dp + 2 < recursionLimit → un + 200 < cLine →
    (∀ (v1 v2 : Int) (t t' : Tok) (h' : Heap) (tk' n' : Nat) (D : Addr), readOf js = (v1, v2) → Fr h₀ L h' m → News h₀ L h' ((D, ({ cls := .type "tuple", data := .seq #[.int v1 t, .int v2 t'] n' } : Obj)) :: (l, listOf (js.map rowRef).toArray nl) :: own) → (∀ p ∈ (l, listOf (js.map rowRef).toArray nl) :: own, p.1 < D) → Q (.ref D) { s with heap := h', toks := tk' }) →
    wpAny (model PySem.Challenge.rw_nu0152_01.row.prog w) (ktrTop dp un gd cn cs L a ccd cl outer) (call (.ref 201) [.ref l]) Q E s := by
  k_fill
  intro w mg mb mean dp un gd cn cs a ccd cl outer A₀ base h₀ L m s Q E own l nl js B F X N T hk hjs hd hu hret
  have hMk := kstMark
  refine wpAny_call ?_
  k_dflt (refine' code_defC ?k1 ?k2 ?k3 ?k4 ?k5 ?kA ?kF ?kK ?k6 ?k7 ?k8 ?k9 ?kB ?kD ?_ ?c2 ?c3 ?c4; (case kA => exact rfl); (case kF => exact rfl); (case kK => assumption); (case k1 => k_asm); (case k2 => k_asm); (case k3 => k_asm); (case k4 => k_asm); (case k5 => k_asm); (case k6 => k_is); (case k7 => k_is); (case k8 => ktr_room); (case k9 => exact BindsTo.of_eq rfl); (case kB => exact rfl); (case kD => decide +kernel); (case c2 => exact rfl); (case c3 => exact rfl); (case c4 => exact rfl); k_whole)
  intro g' L' h' tk' cells' FG' F' N' Y' B' X' T' l1
  try k_lt l1
  k_cells Y'
  try simp only [List.cons_append, List.nil_append] at N'
  try dsimp only
  try k_fold
  obtain ⟨u0, lF2⟩ := fr_small [(Str.ofString "rows", Value.ref l)] F' (by kst_all)
  clear F'
  have hown : ∀ p ∈ own, p.1 < L' + 1 := fun p hp => Nat.lt_succ_of_lt (ktn_ltOf l1.2 p hp)
  repeat' (first | (k_unfold; (try dsimp only)) | ((with_reducible show wpAny _ _ (binaryOp .Mult (Value.int _ _) (Value.int _ _)) _ _ _); (k_here; k_dflt (refine PyProof.Rows.mul_int ?_ (mul_bits (by assumption) _ _)))) | ((with_reducible show wpAny _ _ (eval (PySem.Expr.ListComp _ _ _ _) _) _ _ _); (k_here; lcf_look; lcg_calm; k_dflt (refine LCg.ListComp_U (F₀ := by k_asm) (by with_unfolding_all rfl) (by decide) (by rfl) (by decide) (by rfl) ?_); k_dflt lcg_toSrc)) | ((with_reducible show wpAny _ _ (assign (PySem.Expr.Tuple _ _ _) _ (Value.ref _)) _ _ _); (k_here; k_dflt (refine' row_unpack ?F ?N ?T ?k1 ?k2 ?k3 ?_; (case F => k_asm); (case N => k_asm); (case T => assumption); (case k1 => exact rfl); (case k2 => exact rfl); (case k3 => exact rfl)); intro h' F' N'; (try k_sweep))) | ((fail_if_success (with_reducible show wpAny _ _ (storeName _ _ _) _ _ _)); (first | walk1 | (dsimp only; walk1) | (leave1; (try dsimp only)))) | fail "no step")
  rename News _ _ _ _ => lN
  have lN2 : News g' L' _ ((_, listOf #[.int 0 tk', .int 0 tk', .int 0 tk', .int 0 tk', .int 0 tk'] 0) :: (L' + 1, _) :: (l, listOf (js.map rowRef).toArray nl) :: own) := cb_drop lN (by kst_inAny)
  clear lN
  repeat' (first | (k_unfold; (try dsimp only)) | ((with_reducible show wpAny _ _ (binaryOp .Mult (Value.int _ _) (Value.int _ _)) _ _ _); (k_here; k_dflt (refine PyProof.Rows.mul_int ?_ (mul_bits (by assumption) _ _)))) | ((with_reducible show wpAny _ _ (eval (PySem.Expr.ListComp _ _ _ _) _) _ _ _); (k_here; lcf_look; lcg_calm; k_dflt (refine LCg.ListComp_U (F₀ := by k_asm) (by with_unfolding_all rfl) (by decide) (by rfl) (by decide) (by rfl) ?_); k_dflt lcg_toSrc)) | ((with_reducible show wpAny _ _ (assign (PySem.Expr.Tuple _ _ _) _ (Value.ref _)) _ _ _); (k_here; k_dflt (refine' row_unpack ?F ?N ?T ?k1 ?k2 ?k3 ?_; (case F => k_asm); (case N => k_asm); (case T => assumption); (case k1 => exact rfl); (case k2 => exact rfl); (case k3 => exact rfl)); intro h' F' N'; (try k_sweep))) | ((fail_if_success (with_reducible show wpAny _ _ (exec (Stmt.For _ _ _ _ _) _) _ _ _)); (first | walk1 | (dsimp only; walk1) | (leave1; (try dsimp only)))) | fail "no step")
  rename Fr _ _ _ _ => lF
  rename News _ _ _ _ => lN
  refine For_turns lF ?_
  walk1
  with_unfolding_all refine' turn_list (σ := RS × RT) (vs := js.map rowRef) (n := nl) (fun c => (_, bitsObj c) :: (L' + 1, _) :: (l, listOf (js.map rowRef).toArray nl) :: own) (fun c => [(Str.ofString "attach", Value.int c.1.att c.2.ta), (Str.ofString "number", Value.int c.1.num c.2.tn)]) (fun i c => readAcc (js.take i) rs0 = some c.1 ∧ RSok c.1) (rs0, ⟨tk', tk', tk', tk', tk', _, _, 0⟩) (by rfl) (fun c => .tail _ (.tail _ (.head _))) (fun _ => rfl) lF lN ?hk ?hp ?_ ?_
  case hk => kst_all
  case hp => exact ⟨rfl, rs0_ok⟩
  · rintro ⟨⟨b0, b1, b2, b3, b4, at', nu⟩, ⟨t0, t1, t2, t3, t4, ta, tn, n⟩⟩ i v u h tk ow hv ⟨hP, hR⟩ hoff kF kN
    clear lF lN
    dsimp only at kF kN hP
    (try simp only [List.cons_append] at kN)
    (try simp only [List.map_cons] at hoff)
    obtain ⟨j, hx, rfl⟩ := rows_get hv
    have hj := hjs j (List.mem_of_getElem? hx)
    have hT := row_top w g' rfl X' j hj
    rcases row_kinds j hj with hkd | ⟨hkd, hw⟩ | ⟨hkd, hw0, hw1⟩ | ⟨hkd, hw0, hw1⟩
    · rw [hkd] at hT
      try k_fold
      repeat' (first | (k_unfold; (try dsimp only)) | ((with_reducible show wpAny _ _ (binaryOp .Mult (Value.int _ _) (Value.int _ _)) _ _ _); (k_here; k_dflt (refine PyProof.Rows.mul_int ?_ (mul_bits (by assumption) _ _)))) | ((with_reducible show wpAny _ _ (eval (PySem.Expr.ListComp _ _ _ _) _) _ _ _); (k_here; lcf_look; lcg_calm; k_dflt (refine LCg.ListComp_U (F₀ := by k_asm) (by with_unfolding_all rfl) (by decide) (by rfl) (by decide) (by rfl) ?_); k_dflt lcg_toSrc)) | ((with_reducible show wpAny _ _ (assign (PySem.Expr.Tuple _ _ _) _ (Value.ref _)) _ _ _); (k_here; k_dflt (refine' row_unpack ?F ?N ?T ?k1 ?k2 ?k3 ?_; (case F => k_asm); (case N => k_asm); (case T => assumption); (case k1 => exact rfl); (case k2 => exact rfl); (case k3 => exact rfl)); intro h' F' N'; (try k_sweep))) | walk1 | (dsimp only; walk1) | (leave1; (try dsimp only)) | fail "no step")
      rename News h₀ _ _ _ => nE
      rename _ ∧ _ ∧ _ ∧ AllLt _ _ => lE
      exact hret _ _ _ _ _ _ _ _ (read_none hx hP (rstep_bad hkd)) (by k_asm) (ret_news nE fun p hp => .tail _ (.tail _ (List.mem_append.mpr (.inl hp)))) (under_big (big := (l, listOf (js.map rowRef).toArray nl) :: (own ++ ow)) lE.2.2 fun p hp => List.mem_append.mpr (.inl hp))
    · rcases hw with hw | hw | hw | hw
      · rw [hkd, hw] at hT
        try k_fold
        repeat' (first | (k_unfold; (try dsimp only)) | ((with_reducible show wpAny _ _ (binaryOp .Mult (Value.int _ _) (Value.int _ _)) _ _ _); (k_here; k_dflt (refine PyProof.Rows.mul_int ?_ (mul_bits (by assumption) _ _)))) | ((with_reducible show wpAny _ _ (eval (PySem.Expr.ListComp _ _ _ _) _) _ _ _); (k_here; lcf_look; lcg_calm; k_dflt (refine LCg.ListComp_U (F₀ := by k_asm) (by with_unfolding_all rfl) (by decide) (by rfl) (by decide) (by rfl) ?_); k_dflt lcg_toSrc)) | ((with_reducible show wpAny _ _ (assign (PySem.Expr.Tuple _ _ _) _ (Value.ref _)) _ _ _); (k_here; k_dflt (refine' row_unpack ?F ?N ?T ?k1 ?k2 ?k3 ?_; (case F => k_asm); (case N => k_asm); (case T => assumption); (case k1 => exact rfl); (case k2 => exact rfl); (case k3 => exact rfl)); intro h' F' N'; (try k_sweep))) | walk1 | (dsimp only; walk1) | (leave1; (try dsimp only)) | fail "no step")
        rename News _ _ _ _ => nE
        exact kv_end (⟨⟨1, b1, b2, b3, b4, at', nu⟩, ⟨_, t1, t2, t3, t4, ta, tn, n⟩⟩) (by assumption) nE (by first | kst_in | kst_inAny) (by first | (intro p hp; kst_mem) | kst_anyIn) (by rfl) (by kst_all) ⟨read_next hx hP (rstep_b0 hkd hw), ok_b0 hR⟩
      · rw [hkd, hw] at hT
        try k_fold
        repeat' (first | (k_unfold; (try dsimp only)) | ((with_reducible show wpAny _ _ (binaryOp .Mult (Value.int _ _) (Value.int _ _)) _ _ _); (k_here; k_dflt (refine PyProof.Rows.mul_int ?_ (mul_bits (by assumption) _ _)))) | ((with_reducible show wpAny _ _ (eval (PySem.Expr.ListComp _ _ _ _) _) _ _ _); (k_here; lcf_look; lcg_calm; k_dflt (refine LCg.ListComp_U (F₀ := by k_asm) (by with_unfolding_all rfl) (by decide) (by rfl) (by decide) (by rfl) ?_); k_dflt lcg_toSrc)) | ((with_reducible show wpAny _ _ (assign (PySem.Expr.Tuple _ _ _) _ (Value.ref _)) _ _ _); (k_here; k_dflt (refine' row_unpack ?F ?N ?T ?k1 ?k2 ?k3 ?_; (case F => k_asm); (case N => k_asm); (case T => assumption); (case k1 => exact rfl); (case k2 => exact rfl); (case k3 => exact rfl)); intro h' F' N'; (try k_sweep))) | walk1 | (dsimp only; walk1) | (leave1; (try dsimp only)) | fail "no step")
        rename News _ _ _ _ => nE
        exact kv_end (⟨⟨b0, 1, b2, b3, b4, at', nu⟩, ⟨t0, _, t2, t3, t4, ta, tn, n⟩⟩) (by assumption) nE (by first | kst_in | kst_inAny) (by first | (intro p hp; kst_mem) | kst_anyIn) (by rfl) (by kst_all) ⟨read_next hx hP (rstep_b1 hkd hw), ok_b1 hR⟩
      · rw [hkd, hw] at hT
        try k_fold
        repeat' (first | (k_unfold; (try dsimp only)) | ((with_reducible show wpAny _ _ (binaryOp .Mult (Value.int _ _) (Value.int _ _)) _ _ _); (k_here; k_dflt (refine PyProof.Rows.mul_int ?_ (mul_bits (by assumption) _ _)))) | ((with_reducible show wpAny _ _ (eval (PySem.Expr.ListComp _ _ _ _) _) _ _ _); (k_here; lcf_look; lcg_calm; k_dflt (refine LCg.ListComp_U (F₀ := by k_asm) (by with_unfolding_all rfl) (by decide) (by rfl) (by decide) (by rfl) ?_); k_dflt lcg_toSrc)) | ((with_reducible show wpAny _ _ (assign (PySem.Expr.Tuple _ _ _) _ (Value.ref _)) _ _ _); (k_here; k_dflt (refine' row_unpack ?F ?N ?T ?k1 ?k2 ?k3 ?_; (case F => k_asm); (case N => k_asm); (case T => assumption); (case k1 => exact rfl); (case k2 => exact rfl); (case k3 => exact rfl)); intro h' F' N'; (try k_sweep))) | walk1 | (dsimp only; walk1) | (leave1; (try dsimp only)) | fail "no step")
        rename News _ _ _ _ => nE
        exact kv_end (⟨⟨b0, b1, 1, b3, b4, at', nu⟩, ⟨t0, t1, _, t3, t4, ta, tn, n⟩⟩) (by assumption) nE (by first | kst_in | kst_inAny) (by first | (intro p hp; kst_mem) | kst_anyIn) (by rfl) (by kst_all) ⟨read_next hx hP (rstep_b2 hkd hw), ok_b2 hR⟩
      · rw [hkd, hw] at hT
        try k_fold
        repeat' (first | (k_unfold; (try dsimp only)) | ((with_reducible show wpAny _ _ (binaryOp .Mult (Value.int _ _) (Value.int _ _)) _ _ _); (k_here; k_dflt (refine PyProof.Rows.mul_int ?_ (mul_bits (by assumption) _ _)))) | ((with_reducible show wpAny _ _ (eval (PySem.Expr.ListComp _ _ _ _) _) _ _ _); (k_here; lcf_look; lcg_calm; k_dflt (refine LCg.ListComp_U (F₀ := by k_asm) (by with_unfolding_all rfl) (by decide) (by rfl) (by decide) (by rfl) ?_); k_dflt lcg_toSrc)) | ((with_reducible show wpAny _ _ (assign (PySem.Expr.Tuple _ _ _) _ (Value.ref _)) _ _ _); (k_here; k_dflt (refine' row_unpack ?F ?N ?T ?k1 ?k2 ?k3 ?_; (case F => k_asm); (case N => k_asm); (case T => assumption); (case k1 => exact rfl); (case k2 => exact rfl); (case k3 => exact rfl)); intro h' F' N'; (try k_sweep))) | walk1 | (dsimp only; walk1) | (leave1; (try dsimp only)) | fail "no step")
        rename News _ _ _ _ => nE
        exact kv_end (⟨⟨b0, b1, b2, 1, b4, at', nu⟩, ⟨t0, t1, t2, _, t4, ta, tn, n⟩⟩) (by assumption) nE (by first | kst_in | kst_inAny) (by first | (intro p hp; kst_mem) | kst_anyIn) (by rfl) (by kst_all) ⟨read_next hx hP (rstep_b3 hkd hw), ok_b3 hR⟩
    · rw [hkd] at hT
      try k_fold
      repeat' (first | (k_unfold; (try dsimp only)) | ((with_reducible show wpAny _ _ (binaryOp .Mult (Value.int _ _) (Value.int _ _)) _ _ _); (k_here; k_dflt (refine PyProof.Rows.mul_int ?_ (mul_bits (by assumption) _ _)))) | ((with_reducible show wpAny _ _ (eval (PySem.Expr.ListComp _ _ _ _) _) _ _ _); (k_here; lcf_look; lcg_calm; k_dflt (refine LCg.ListComp_U (F₀ := by k_asm) (by with_unfolding_all rfl) (by decide) (by rfl) (by decide) (by rfl) ?_); k_dflt lcg_toSrc)) | ((with_reducible show wpAny _ _ (assign (PySem.Expr.Tuple _ _ _) _ (Value.ref _)) _ _ _); (k_here; k_dflt (refine' row_unpack ?F ?N ?T ?k1 ?k2 ?k3 ?_; (case F => k_asm); (case N => k_asm); (case T => assumption); (case k1 => exact rfl); (case k2 => exact rfl); (case k3 => exact rfl)); intro h' F' N'; (try k_sweep))) | walk1 | (dsimp only; walk1) | (leave1; (try dsimp only)) | fail "no step")
      rename News _ _ _ _ => nE
      exact kv_end (⟨⟨b0, b1, b2, b3, 1, at', _⟩, ⟨t0, t1, t2, t3, _, ta, _, n⟩⟩) (by assumption) nE (by first | kst_in | kst_inAny) (by first | (intro p hp; kst_mem) | kst_anyIn) (by rfl) (by kst_all) ⟨read_next hx hP (rstep_set hkd), ok_set hR hw0 hw1⟩
    · rw [hkd] at hT
      try k_fold
      repeat' (first | (k_unfold; (try dsimp only)) | ((with_reducible show wpAny _ _ (binaryOp .Mult (Value.int _ _) (Value.int _ _)) _ _ _); (k_here; k_dflt (refine PyProof.Rows.mul_int ?_ (mul_bits (by assumption) _ _)))) | ((with_reducible show wpAny _ _ (eval (PySem.Expr.ListComp _ _ _ _) _) _ _ _); (k_here; lcf_look; lcg_calm; k_dflt (refine LCg.ListComp_U (F₀ := by k_asm) (by with_unfolding_all rfl) (by decide) (by rfl) (by decide) (by rfl) ?_); k_dflt lcg_toSrc)) | ((with_reducible show wpAny _ _ (assign (PySem.Expr.Tuple _ _ _) _ (Value.ref _)) _ _ _); (k_here; k_dflt (refine' row_unpack ?F ?N ?T ?k1 ?k2 ?k3 ?_; (case F => k_asm); (case N => k_asm); (case T => assumption); (case k1 => exact rfl); (case k2 => exact rfl); (case k3 => exact rfl)); intro h' F' N'; (try k_sweep))) | walk1 | (dsimp only; walk1) | (leave1; (try dsimp only)) | fail "no step")
      rename News _ _ _ _ => nE
      exact kv_end (⟨⟨b0, b1, b2, b3, b4, _, nu⟩, ⟨t0, t1, t2, t3, t4, 397 + 3 * j, tn, n⟩⟩) (by assumption) nE (by first | kst_in | kst_inAny) (by first | (intro p hp; kst_mem) | kst_anyIn) (by rfl) (by kst_all) ⟨read_next hx hP (rstep_att hkd), ok_att hR hw0 hw1⟩
  · rintro ⟨⟨b0, b1, b2, b3, b4, at', nu⟩, ⟨t0, t1, t2, t3, t4, ta, tn, n⟩⟩ u h tk ⟨hP, hR⟩ kF kN
    clear lF lN
    dsimp only at kF kN hP
    repeat' (first | (k_unfold; (try dsimp only)) | (rename _ < 0 + (Int.toNat _ : Int) => hk9; replace hk9 := five hk9) | ((with_reducible show wpAny _ _ (binaryOp .Mult (Value.int _ _) (Value.int _ _)) _ _ _); (k_here; k_dflt (refine PyProof.Rows.mul_int ?_ (mul_bits (by assumption) _ _)))) | ((with_reducible show wpAny _ _ (eval (PySem.Expr.ListComp _ _ _ _) _) _ _ _); (k_here; lcf_look; lcg_calm; k_dflt (refine LCg.ListComp_U (F₀ := by k_asm) (by with_unfolding_all rfl) (by decide) (by rfl) (by decide) (by rfl) ?_); k_dflt lcg_toSrc)) | ((with_reducible show wpAny _ _ (assign (PySem.Expr.Tuple _ _ _) _ (Value.ref _)) _ _ _); (k_here; k_dflt (refine' row_unpack ?F ?N ?T ?k1 ?k2 ?k3 ?_; (case F => k_asm); (case N => k_asm); (case T => assumption); (case k1 => exact rfl); (case k2 => exact rfl); (case k3 => exact rfl)); intro h' F' N'; (try k_sweep))) | walk1 | (dsimp only; walk1) | (leave1; (try dsimp only)) | fail "no step")
    rename News h₀ _ _ _ => nE
    rename _ ∧ _ ∧ _ ∧ _ ∧ AllLt _ _ => lE
    exact hret _ _ _ _ _ _ _ _ ((read_done hP).trans (tell_sum ..)) (by k_asm) (ret_news nE fun p hp => .tail _ (.tail _ (.tail _ hp))) (ktn_ltOf (l := (l, listOf (js.map rowRef).toArray nl) :: own) lE.2.2.2)
end Nu
end
section
theorem Nu.freshNuUse : True := by
  w_top off
  first | (walk1; done) | trivial
open PySem PySem.W PyProof.Rows PySem.Calls PySem.Spec
namespace Nu
theorem words_use {w : World} {mg mb : Str → Option Value} {mean : ExcName → Option Value} {dp un : Nat} {gd : Option (List Code)} {cn : Str} {cs : Scope} {a : Addr} {ccd : Value} {cl : List (Str × Addr)} {outer : List Env} {A₀ : Around} {base h₀ : Heap} {L : Addr} {m : Str → Option Value} {s : Shared} {Q E : Value → Shared → Prop}
    {own : List (Addr × Obj)} {flag number : Int} {t1 t2 : Tok} (B : Below A₀ base outer h₀) (F : Fr h₀ L s.heap m) (X : (Nu.hd.heap_39 w.params).In h₀) (N : News h₀ L s.heap own) (T : Top Nu.hd.view_39 (looseW Nu.hd.view_39 [Str.ofString "FLAG_WORDS"]) mean mg mb h₀) (hk : cs.kind = .function) (hf0 : 0 ≤ flag) (hf1 : flag < 65536) (hn0 : 0 ≤ number) (hn1 : number < 65536) (hd : dp + 2 < recursionLimit) (hu : un + 200 < cLine)
    (hret : ∀ (vs : List Value) (h' : Heap) (tk' n' : Nat) (D : Addr), StrsAre vs (flagWords flag number) → Fr h₀ L h' m → News h₀ L h' ((D, ({ cls := .type "tuple", data := .seq vs.toArray n' } : Obj)) :: own) → (∀ p ∈ own, @LT.lt Nat _ p.1 D) → Q (.ref D) { s with heap := h', toks := tk' }) :
    wpAny (model PySem.Challenge.rw_nu0152_01.row.prog w) (ktrTop dp un gd cn cs L a ccd cl outer) (call (.ref 41) [.int flag t1, .int number t2]) Q E s := by
  exact words_core w mg mb mean dp un gd cn cs a ccd cl outer A₀ base h₀ L m s Q E own flag number t1 t2 B F X N T hk hf0 hf1 hn0 hn1 hd hu hret
theorem lw_use {w : World} {mg mb : Str → Option Value} {mean : ExcName → Option Value} {dp un : Nat} {gd : Option (List Code)} {cn : Str} {cs : Scope} {a : Addr} {ccd : Value} {cl : List (Str × Addr)} {outer : List Env} {A₀ : Around} {base h₀ : Heap} {L : Addr} {m : Str → Option Value} {s : Shared} {Q E : Value → Shared → Prop}
    {own : List (Addr × Obj)} {flag number : Int} {t1 t2 : Tok} (B : Below A₀ base outer h₀) (F : Fr h₀ L s.heap m) (X : (Nu.hd.heap_39 w.params).In h₀) (N : News h₀ L s.heap own) (T : Top Nu.hd.view_39 (looseW Nu.hd.view_39 [Str.ofString "FLAG_WORDS"]) mean mg mb h₀) (hk : cs.kind = .function) (hf0 : 0 ≤ flag) (hf1 : flag < 65536) (hn0 : 0 ≤ number) (hn1 : number < 65536) (hd : dp + 2 < recursionLimit) (hu : un + 200 < cLine)
    (hret : ∀ (vs : List Value) (h' : Heap) (tk' n' : Nat) (D : Addr), StrsAre vs (lwWords flag number) → Fr h₀ L h' m → News h₀ L h' ((D, listOf vs.toArray n') :: own) → (∀ p ∈ own, @LT.lt Nat _ p.1 D) → Q (.ref D) { s with heap := h', toks := tk' }) :
    wpAny (model PySem.Challenge.rw_nu0152_01.row.prog w) (ktrTop dp un gd cn cs L a ccd cl outer) (call (.ref 196) [.int flag t1, .int number t2]) Q E s := by
  exact lw_core w mg mb mean dp un gd cn cs a ccd cl outer A₀ base h₀ L m s Q E own flag number t1 t2 B F X N T hk hf0 hf1 hn0 hn1 hd hu hret
theorem flag_use {w : World} {mg mb : Str → Option Value} {mean : ExcName → Option Value} {dp un : Nat} {gd : Option (List Code)} {cn : Str} {cs : Scope} {a : Addr} {ccd : Value} {cl : List (Str × Addr)} {outer : List Env} {A₀ : Around} {base h₀ : Heap} {L : Addr} {m : Str → Option Value} {s : Shared} {Q E : Value → Shared → Prop}
    {own : List (Addr × Obj)} {l : Addr} {ol : Obj} {vs : List Value} {ts : List Str} (B : Below A₀ base outer h₀) (F : Fr h₀ L s.heap m) (X : (Nu.hd.heap_39 w.params).In h₀) (N : News h₀ L s.heap own) (T : Top Nu.hd.view_39 (looseW Nu.hd.view_39 [Str.ofString "FLAG_WORDS"]) mean mg mb h₀) (hk : cs.kind = .function) (hl : (l, ol) ∈ own) (hO : SeqObj ol vs) (hS : StrsAre vs ts) (hok : ∀ x ∈ ts, x.length ≤ 1000 ∧ ∀ y ∈ Txt.split x (Str.ofString " "), PyData.strOk y = true) (hd : dp + 2 < recursionLimit) (hu : un + 200 < cLine)
    (hret : ∀ (v1 v2 : Int) (t t' : Tok) (h' : Heap) (tk' n' : Nat) (D : Addr), flagOf ts = (v1, v2) → Fr h₀ L h' m → News h₀ L h' ((D, ({ cls := .type "tuple", data := .seq #[.int v1 t, .int v2 t'] n' } : Obj)) :: own) → (∀ p ∈ own, @LT.lt Nat _ p.1 D) → Q (.ref D) { s with heap := h', toks := tk' }) :
    wpAny (model PySem.Challenge.rw_nu0152_01.row.prog w) (ktrTop dp un gd cn cs L a ccd cl outer) (call (.ref 53) [.ref l]) Q E s := by
  refine flag_core w mg mb mean dp un gd cn cs a ccd cl outer A₀ base h₀ L m s Q E own l ol vs ts B F X ?_ T hk hO hS hok hd hu ?_
  · intro p hp
    rcases List.mem_cons.mp hp with rfl | hp
    · exact N _ hl
    · exact N _ hp
  · intro v1 v2 t t' h' tk' n' D e F' N' lo
    refine hret v1 v2 t t' h' tk' n' D e F' (fun p hp => N' p ?_) (fun p hp => lo p (.tail _ hp))
    rcases List.mem_cons.mp hp with rfl | hp
    · exact .head _
    · exact .tail _ (.tail _ hp)
theorem read_use {w : World} {mg mb : Str → Option Value} {mean : ExcName → Option Value} {dp un : Nat} {gd : Option (List Code)} {cn : Str} {cs : Scope} {a : Addr} {ccd : Value} {cl : List (Str × Addr)} {outer : List Env} {A₀ : Around} {base h₀ : Heap} {L : Addr} {m : Str → Option Value} {s : Shared} {Q E : Value → Shared → Prop}
    {own : List (Addr × Obj)} {l : Addr} {nl : Nat} {js : List Nat} (B : Below A₀ base outer h₀) (F : Fr h₀ L s.heap m) (X : (Nu.hd.heap_39 w.params).In h₀) (N : News h₀ L s.heap own) (T : Top Nu.hd.view_39 (looseW Nu.hd.view_39 [Str.ofString "FLAG_WORDS"]) mean mg mb h₀) (hk : cs.kind = .function) (hl : (l, listOf (js.map rowRef).toArray nl) ∈ own) (hjs : ∀ j ∈ js, j < 21) (hd : dp + 2 < recursionLimit) (hu : un + 200 < cLine)
    (hret : ∀ (v1 v2 : Int) (t t' : Tok) (h' : Heap) (tk' n' : Nat) (D : Addr), readOf js = (v1, v2) → Fr h₀ L h' m → News h₀ L h' ((D, ({ cls := .type "tuple", data := .seq #[.int v1 t, .int v2 t'] n' } : Obj)) :: own) → (∀ p ∈ own, @LT.lt Nat _ p.1 D) → Q (.ref D) { s with heap := h', toks := tk' }) :
    wpAny (model PySem.Challenge.rw_nu0152_01.row.prog w) (ktrTop dp un gd cn cs L a ccd cl outer) (call (.ref 201) [.ref l]) Q E s := by
  refine read_core w mg mb mean dp un gd cn cs a ccd cl outer A₀ base h₀ L m s Q E own l nl js B F X ?_ T hk hjs hd hu ?_
  · intro p hp
    rcases List.mem_cons.mp hp with rfl | hp
    · exact N _ hl
    · exact N _ hp
  · intro v1 v2 t t' h' tk' n' D e F' N' lo
    refine hret v1 v2 t t' h' tk' n' D e F' (fun p hp => N' p ?_) (fun p hp => lo p (.tail _ hp))
    rcases List.mem_cons.mp hp with rfl | hp
    · exact .head _
    · exact .tail _ (.tail _ hp)
end Nu
end
section
theorem Nu.freshNuPure : True := by
  w_top off
  first | (walk1; done) | trivial
open PySem PySem.W PyProof.Rows PySem.Calls PySem.Spec
namespace Nu
theorem cut_unique {c : Nat} : ∀ {a b w y : List Nat}, a ++ c :: b = w ++ c :: y → c ∉ a → c ∉ w → a = w ∧ b = y
  | [], _, [], _, h, _, _ => ⟨rfl, (List.cons.inj h).2⟩
  | [], _, _ :: _, _, h, _, hw => absurd ((List.cons.inj h).1 ▸ List.mem_cons_self ..) hw
  | _ :: _, _, [], _, h, ha, _ => absurd ((List.cons.inj h).1 ▸ List.mem_cons_self ..) ha
  | x :: a, b, z :: w, y, h, ha, hw => by
    obtain ⟨h1, h2⟩ := List.cons.inj h
    obtain ⟨e1, e2⟩ := cut_unique h2 (fun q => ha (.tail _ q)) (fun q => hw (.tail _ q))
    exact ⟨by rw [h1, e1], e2⟩
theorem str_ext {a b : Str} (h : a.cps.toList = b.cps.toList) : a = b := by
  rcases a with ⟨⟨a⟩⟩
  rcases b with ⟨⟨b⟩⟩
  exact congrArg (fun l => (⟨⟨l⟩⟩ : Str)) h
theorem sp_eq : sp = (⟨#[32]⟩ : Str) := by decide +kernel
theorem split_two (W y : Str) (hW : 32 ∉ W.cps.toList) (hy : 32 ∉ y.cps.toList) : Txt.split (W ++ sp ++ y) sp = [W, y] := by
  rw [sp_eq]
  have hl := split_len (W ++ ⟨#[32]⟩ ++ y) 32
  have hc : (W ++ (⟨#[32]⟩ : Str) ++ y).cps.toList = W.cps.toList ++ 32 :: y.cps.toList := by
    simp [cps_toList_append]
  have hf := PySem.StrLaws.split_free (W ++ ⟨#[32]⟩ ++ y) 32
  have hj := PySem.StrLaws.join_split (W ++ ⟨#[32]⟩ ++ y) ⟨#[32]⟩
  have hn : cnt 32 (W ++ (⟨#[32]⟩ : Str) ++ y).cps.toList = 1 := by
    rw [hc, cnt_append, cnt_cons, cnt_none _ _ hW, cnt_none _ _ hy]
    rfl
  rw [hn] at hl
  revert hl hf hj
  generalize Txt.split (W ++ ⟨#[32]⟩ ++ y) ⟨#[32]⟩ = ps
  intro hl hf hj
  match ps, hl, hf, hj with
  | [], h, _, _ => simp at h
  | [_], h, _, _ => simp at h
  | _ :: _ :: _ :: _, h, _, _ => simp only [List.length_cons] at h; omega
  | [a, b], _, hf, hj =>
    have e := congrArg (fun x : Str => x.cps.toList) hj
    rw [join_cons_cons, join_one] at e
    simp only [cps_toList_append] at e
    have e' : a.cps.toList ++ 32 :: b.cps.toList = W.cps.toList ++ 32 :: y.cps.toList := by
      simpa using e
    obtain ⟨e1, e2⟩ := cut_unique e' (hf a (.head _)) hW
    rw [str_ext e1, str_ext e2]

section
variable {n : Int}
theorem str_free (n : Int) : 32 ∉ (Str.ofString (toString n)).cps.toList := fun h => (intText_free_32 n).mp h
theorem str_digits (h0 : 0 ≤ n) : NumText.AllDigits (Str.ofString (toString n)).cps.toList := by
  obtain ⟨m, rfl⟩ := Int.eq_ofNat_of_zero_le h0
  intro c hc
  rw [PySem.W.KIN.signs_num] at hc
  obtain ⟨ch, hch, e⟩ := List.mem_map.mp hc
  have r := PyProof.Rows.digit_range (Nat.isDigit_of_mem_toDigits (by decide) (by decide) hch)
  rw [← e]
  exact r
theorem str_len5 (h0 : 0 ≤ n) (h1 : n < 65536) : (Str.ofString (toString n)).length ≤ 5 := toString_length_le h0 (by decide) (by omega)
theorem str_some (h0 : 0 ≤ n) : 1 ≤ (Str.ofString (toString n)).length := by
  obtain ⟨m, rfl⟩ := Int.eq_ofNat_of_zero_le h0
  have hne : (PySem.Str.ofString (toString ((m : Nat) : Int))).cps.toList ≠ [] := by
    rw [PySem.W.KIN.signs_num]
    intro e
    have h := toDigits_len_ge 10 m
    rw [List.map_eq_nil_iff.mp e] at h
    exact absurd h (by decide)
  have : (Str.ofString (toString (m : Int))).length = (Str.ofString (toString (m : Int))).cps.toList.length := by simp [Str.length]
  rw [this]
  exact List.length_pos_iff.mpr hne
theorem str_told (h0 : 0 ≤ n) (h1 : n < 65536) : toldNumber (Str.ofString (toString n)) = n := by
  have hd := str_digits h0
  have h5 := str_len5 h0 h1
  have h1' := str_some h0
  have hall : digitsOnly (Str.ofString (toString n)) = true := by
    refine List.all_eq_true.mpr fun c hc => ?_
    exact decide_eq_true (figs_mem (hd c hc).1 (hd c hc).2)
  unfold Str.length at h5 h1'
  unfold toldNumber
  rw [if_neg (by rw [hall]; simp only [Bool.true_eq_false, or_false]; omega)]
  obtain ⟨m, rfl⟩ := Int.eq_ofNat_of_zero_le h0
  rw [PySem.W.KIN.signs_num, PySem.W.KIN.val_back]
theorem str_ok (h0 : 0 ≤ n) : PyData.strOk (Str.ofString (toString n)) = true := by
  refine Array.all_eq_true'.mpr fun c hc => ?_
  have := str_digits h0 c (Array.mem_toList_iff.mpr hc)
  simp only [decide_eq_true_eq]
  omega
end
noncomputable abbrev useT (n : Int) : Str := useW ++ sp ++ Str.ofString (toString n)
noncomputable abbrev attT (n : Int) : Str := attW ++ sp ++ Str.ofString (toString n)
theorem useW_free : 32 ∉ useW.cps.toList := by decide +kernel
theorem attW_free : 32 ∉ attW.cps.toList := by decide +kernel
theorem flag_none {x : Str} (h : 32 ∈ x.cps.toList) : (Spec.lookup (PyData.str x) flagD).isSome = false := by
  have ne : ∀ W : Str, 32 ∉ W.cps.toList → (W == x) = false := fun W hW => by
    cases hb : W == x with
    | false => rfl
    | true => exact absurd ((eq_of_beq hb) ▸ h) hW
  simp [flagD, Spec.lookup, Spec.same, ne _ (show 32 ∉ (Str.ofString "RightToLeft").cps.toList by decide +kernel), ne _ (show 32 ∉ (Str.ofString "IgnoreBaseGlyphs").cps.toList by decide +kernel), ne _ (show 32 ∉ (Str.ofString "IgnoreLigatures").cps.toList by decide +kernel), ne _ (show 32 ∉ (Str.ofString "IgnoreMarks").cps.toList by decide +kernel), ne _ (show 32 ∉ (Str.ofString "UseMarkFilteringSet").cps.toList by decide +kernel)]
theorem mid_in (W y : Str) : 32 ∈ (W ++ sp ++ y).cps.toList := by
  rw [sp_eq]
  simp [cps_toList_append]
theorem step_useT {n : Int} (h0 : 0 ≤ n) (h1 : n < 65536) (st : Int × Int) : flagStep (useT n) st = some (Builtin.bitOr st.1 16, n) := by
  have hs : Txt.split (useT n) sp = [useW, Str.ofString (toString n)] := split_two _ _ useW_free (str_free n)
  have hn : numberIn (Txt.split (useT n) sp) = n := by rw [hs]; exact str_told h0 h1
  exact step_use hn (word_a (flag_none (mid_in _ _))) ⟨by rw [hs]; rfl, by omega, by omega⟩
theorem step_attT {n : Int} (h0 : 1 ≤ n) (h1 : n < 256) (st : Int × Int) : flagStep (attT n) st = some (Int.fmod st.1 256 + 256 * n, st.2) := by
  have hs : Txt.split (attT n) sp = [attW, Str.ofString (toString n)] := split_two _ _ attW_free (str_free n)
  have hn : numberIn (Txt.split (attT n) sp) = n := by rw [hs]; exact str_told (by omega) (by omega)
  refine step_att hn (word_a (flag_none (mid_in _ _))) ?_ ⟨by rw [hs]; rfl, by omega, by omega⟩
  intro q
  have := q.1
  rw [hs] at this
  have this : some attW = some useW := this
  exact absurd this (by decide +kernel)
theorem bitOr_nat (a b : Nat) : Builtin.bitOr (a : Int) (b : Int) = ((a ||| b : Nat) : Int) := by
  have e1 : Builtin.bitNot (a : Int) = -(a : Int) - 1 := rfl
  have e2 : Builtin.bitNot (b : Int) = -(b : Int) - 1 := rfl
  unfold Builtin.bitOr Builtin.bitAnd
  have h1 : decide (0 ≤ Builtin.bitNot (a : Int)) = false := by rw [e1]; simp; omega
  have h2 : decide (0 ≤ Builtin.bitNot (b : Int)) = false := by rw [e2]; simp; omega
  rw [h1, h2]
  have e3 : ∀ x : Int, Builtin.bitNot (Builtin.bitNot x) = x := fun x => by unfold Builtin.bitNot; omega
  simp only [e3, Int.toNat_natCast]
theorem or_hi (a c k : Nat) (hc : c < 256) (hk : k < 256) : (c + 256 * a) ||| k = (c ||| k) + 256 * a := by
  have h1 := Nat.or_mod_two_pow (a := c + 256 * a) (b := k) (n := 8)
  have h2 := Nat.or_div_two_pow (a := c + 256 * a) (b := k) (n := 8)
  have h3 := Nat.or_lt_two_pow (n := 8) hc hk
  have e1 : (c + 256 * a) % 2 ^ 8 = c := by omega
  have e2 : (c + 256 * a) / 2 ^ 8 = a := by omega
  have e3 : k % 2 ^ 8 = k := by omega
  have e4 : k / 2 ^ 8 = 0 := by omega
  rw [e1, e3] at h1
  rw [e2, e4, Nat.or_zero] at h2
  omega
/-- a flag of low bits c and class a -/
noncomputable abbrev fl (c a : Nat) : Int := ((c + 256 * a : Nat) : Int)
theorem or_fl {c a : Nat} (k : Nat) (hc : c < 256) (hk : k < 256) : Builtin.bitOr (fl c a) (k : Int) = fl (c ||| k) a := by
  rw [bitOr_nat, or_hi a c k hc hk]
noncomputable abbrev onIf (p : Prop) [Decidable p] (k c : Nat) : Nat := if p then c ||| k else c
theorem onIf_lt {p : Prop} [Decidable p] {k c : Nat} (hk : k < 32) (hc : c < 32) : onIf p k c < 32 := by
  unfold onIf
  split
  · exact Nat.or_lt_two_pow (n := 5) hc hk
  · exact hc
theorem flagAcc_app (l r : List Str) (st : Int × Int) : flagAcc (l ++ r) st = (flagAcc l st).bind (flagAcc r) := by
  cases r with
  | nil =>
    rw [List.append_nil]
    have : flagAcc [] = some := rfl
    rw [this]
    cases flagAcc l st <;> rfl
  | cons x r => exact flagAcc_append r x l st
theorem acc_opt {p : Prop} [Decidable p] {x : Str} {st st' : Int × Int} (h : p → flagStep x st = some st') : flagAcc (if p then [x] else []) st = some (if p then st' else st) := by
  by_cases hp : p
  · rw [if_pos hp, if_pos hp]
    show (flagStep x st).bind (flagAcc []) = _
    rw [h hp]
    rfl
  · rw [if_neg hp, if_neg hp]
    rfl
theorem step_w1 (st : Int × Int) : flagStep (Str.ofString "RightToLeft") st = some (Builtin.bitOr st.1 (1 : Nat), st.2) := step_word (by decide +kernel)
theorem step_w2 (st : Int × Int) : flagStep (Str.ofString "IgnoreBaseGlyphs") st = some (Builtin.bitOr st.1 (2 : Nat), st.2) := step_word (by decide +kernel)
theorem step_w4 (st : Int × Int) : flagStep (Str.ofString "IgnoreLigatures") st = some (Builtin.bitOr st.1 (4 : Nat), st.2) := step_word (by decide +kernel)
theorem step_w8 (st : Int × Int) : flagStep (Str.ofString "IgnoreMarks") st = some (Builtin.bitOr st.1 (8 : Nat), st.2) := step_word (by decide +kernel)
theorem acc_bit {p : Prop} [Decidable p] {x : Str} {c a k : Nat} {m : Int} (hk : k < 32) (hc : c < 32) (h : ∀ st : Int × Int, flagStep x st = some (Builtin.bitOr st.1 (k : Nat), st.2)) :
    flagAcc (if p then [x] else []) (fl c a, m) = some (fl (onIf p k c) a, m) := by
  rw [acc_opt (fun _ => h _)]
  show some (if p then (Builtin.bitOr (fl c a) (k : Int), m) else (fl c a, m)) = _
  rw [or_fl k (by omega) (by omega)]
  unfold onIf
  split <;> rfl
theorem acc_use {p : Prop} [Decidable p] {c a : Nat} {m n : Int} (hc : c < 32) (h0 : 0 ≤ n) (h1 : n < 65536) :
    flagAcc (if p then [useT n] else []) (fl c a, m) = some (fl (onIf p 16 c) a, if p then n else m) := by
  rw [acc_opt (fun _ => step_useT h0 h1 _)]
  show some (if p then (Builtin.bitOr (fl c a) ((16 : Nat) : Int), n) else (fl c a, m)) = _
  rw [or_fl 16 (by omega) (by omega)]
  unfold onIf
  split <;> rfl
theorem acc_att {c : Nat} {m : Int} (a : Nat) (hc : c < 32) (ha : a < 256) :
    flagAcc (if 0 < (a : Int) then [attT (a : Int)] else []) (fl c 0, m) = some (fl c a, m) := by
  by_cases h : 0 < (a : Int)
  · rw [acc_opt (fun _ => step_attT (n := (a : Int)) (by omega) (by omega) _), if_pos h]
    have : Int.fmod (fl c 0) 256 = c := by
      rw [Int.fmod_eq_emod_of_nonneg _ (by decide)]
      show ((c + 256 * 0 : Nat) : Int) % 256 = c
      omega
    rw [show (Int.fmod ((fl c 0, m) : Int × Int).1 256) = c from this]
    show some (((c : Int) + 256 * a, m) : Int × Int) = some (((c + 256 * a : Nat) : Int), m)
    push_cast
    rfl
  · rw [if_neg h]
    have : a = 0 := by omega
    subst this
    rfl

abbrev bitP (f : Nat) (k : Nat) : Prop := (Int.fdiv (f : Int) (2 ^ k)).fmod 2 = 1
theorem bit_nat (f m : Nat) : (Int.fdiv (f : Int) (m : Int)).fmod 2 = 1 ↔ f / m % 2 = 1 := by
  rw [Int.fdiv_eq_ediv_of_nonneg _ (Int.natCast_nonneg m), Int.fmod_eq_emod_of_nonneg _ (by decide)]
  have e : (f : Int) / (m : Int) % 2 = ((f / m % 2 : Nat) : Int) := rfl
  rw [e]
  exact Int.ofNat_inj (m := f / m % 2) (n := 1)
theorem low_bit (f m n : Nat) (h : 2 ∣ n) : f % (m * n) / m % 2 = f / m % 2 := by
  rw [Nat.mod_mul_right_div_self, Nat.mod_mod_of_dvd _ h]
theorem bitP_0 (f : Nat) : bitP f 0 ↔ f % 2 = 1 := by
  have h := bit_nat f 1
  rw [Nat.div_one] at h
  exact h
theorem bitR_0 (f : Nat) : bitP f 0 ↔ f % 32 % 2 = 1 := by rw [bitP_0, Nat.mod_mod_of_dvd f (by decide : 2 ∣ 32)]
theorem bitP_1 (f : Nat) : bitP f 1 ↔ f / 2 % 2 = 1 := bit_nat f 2
theorem bitR_1 (f : Nat) : bitP f 1 ↔ f % 32 / 2 % 2 = 1 := by rw [bitP_1, ← low_bit f 2 16 (by decide)]
theorem bitP_2 (f : Nat) : bitP f 2 ↔ f / 4 % 2 = 1 := bit_nat f 4
theorem bitR_2 (f : Nat) : bitP f 2 ↔ f % 32 / 4 % 2 = 1 := by rw [bitP_2, ← low_bit f 4 8 (by decide)]
theorem bitP_3 (f : Nat) : bitP f 3 ↔ f / 8 % 2 = 1 := bit_nat f 8
theorem bitR_3 (f : Nat) : bitP f 3 ↔ f % 32 / 8 % 2 = 1 := by rw [bitP_3, ← low_bit f 8 4 (by decide)]
theorem bitP_4 (f : Nat) : bitP f 4 ↔ f / 16 % 2 = 1 := bit_nat f 16
theorem bitR_4 (f : Nat) : bitP f 4 ↔ f % 32 / 16 % 2 = 1 := by rw [bitP_4, ← low_bit f 16 2 (by decide)]
theorem and_bit (f : Int) (k : Nat) : Builtin.bitAnd f (2 ^ k) ≠ 0 ↔ (f.fdiv (2 ^ k)).fmod 2 = 1 := by
  rw [PySem.W.kbt_bitF]
  have h2 : (2 : Int) ^ k ≠ 0 := by
    have : (0 : Int) < 2 ^ k := Int.pow_pos (by decide)
    omega
  by_cases h : (f.fdiv (2 ^ k)).fmod 2 = 1
  · rw [if_pos h]
    exact ⟨fun _ => h, fun _ => h2⟩
  · rw [if_neg h]
    exact ⟨fun q => absurd rfl q, fun q => absurd q h⟩
theorem opt_congr {p q : Prop} [Decidable p] [Decidable q] {x : Str} (h : p ↔ q) : (if p then [x] else []) = (if q then [x] else []) := by
  by_cases hq : q
  · rw [if_pos hq, if_pos (h.mpr hq)]
  · rw [if_neg hq, if_neg (fun hp => hq (h.mp hp))]
theorem flagWords_is (f : Nat) (hf : f < 65536) (n : Int) : flagWords (f : Int) n =
    (((((([] : List Str) ++ (if bitP f 0 then [Str.ofString "RightToLeft"] else [])) ++ (if bitP f 1 then [Str.ofString "IgnoreBaseGlyphs"] else [])) ++ (if bitP f 2 then [Str.ofString "IgnoreLigatures"] else [])) ++ (if bitP f 3 then [Str.ofString "IgnoreMarks"] else [])) ++ (if bitP f 4 then [useT n] else [])) ++ (if 0 < ((f / 256 : Nat) : Int) then [attT ((f / 256 : Nat) : Int)] else []) := by
  have ea : attWant (f : Int) = ((f / 256 : Nat) : Int) := by
    unfold attWant
    rw [Int.fdiv_eq_ediv_of_nonneg _ (by decide), Int.fmod_eq_emod_of_nonneg _ (by decide)]
    omega
  have et : Str.ofString "MarkAttachmentType " = attW ++ sp := by decide +kernel
  unfold flagWords attPart
  rw [ea, et]
  refine congrArg (· ++ _) ?_
  show (((((([] : List Str) ++ wordPart f n 0) ++ wordPart f n 1) ++ wordPart f n 2) ++ wordPart f n 3) ++ wordPart f n 4) = _
  have p0 : wordPart (f : Int) n 0 = (if bitP f 0 then [Str.ofString "RightToLeft"] else []) := opt_congr (and_bit f 0)
  have p1 : wordPart (f : Int) n 1 = (if bitP f 1 then [Str.ofString "IgnoreBaseGlyphs"] else []) := opt_congr (and_bit f 1)
  have p2 : wordPart (f : Int) n 2 = (if bitP f 2 then [Str.ofString "IgnoreLigatures"] else []) := opt_congr (and_bit f 2)
  have p3 : wordPart (f : Int) n 3 = (if bitP f 3 then [Str.ofString "IgnoreMarks"] else []) := opt_congr (and_bit f 3)
  have p4 : wordPart (f : Int) n 4 = (if bitP f 4 then [useT n] else []) := opt_congr (and_bit f 4)
  rw [p0, p1, p2, p3, p4]
theorem lw_is (f : Nat) (hf : f < 65536) (n : Int) : lwWords (f : Int) n = flagWords (f : Int) n := by
  rw [flagWords_is f hf n]
  have et : Str.ofString "MarkAttachmentType " = attW ++ sp := by decide +kernel
  have eu : Str.ofString "UseMarkFilteringSet " = useW ++ sp := by decide +kernel
  have ea : (f : Int).fdiv 256 = ((f / 256 : Nat) : Int) := by
    rw [Int.fdiv_eq_ediv_of_nonneg _ (by decide)]
    omega
  unfold lwWords lwAtt lwSet
  rw [ea, et, eu]
  refine congrArg (· ++ _) ?_
  refine congrArg (· ++ _) ?_
  show (((([] : List Str) ++ lwPart f 0) ++ lwPart f 1) ++ lwPart f 2) ++ lwPart f 3 = _
  rfl
theorem lw_eq {f n : Int} (h0 : 0 ≤ f) (h1 : f < 65536) : lwWords f n = flagWords f n := by
  obtain ⟨f, rfl⟩ := Int.eq_ofNat_of_zero_le h0
  exact lw_is f (by omega) n
theorem bits_32 : ∀ r : Nat, r < 32 → onIf (r / 16 % 2 = 1) 16 (onIf (r / 8 % 2 = 1) 8 (onIf (r / 4 % 2 = 1) 4 (onIf (r / 2 % 2 = 1) 2 (onIf (r % 2 = 1) 1 0)))) = r := by decide +kernel
theorem bits_32r : ∀ r : Nat, r < 32 → onIf (r % 2 = 1) 1 (onIf (r / 2 % 2 = 1) 2 (onIf (r / 4 % 2 = 1) 4 (onIf (r / 8 % 2 = 1) 8 (onIf (r / 16 % 2 = 1) 16 0)))) = r := by decide +kernel
theorem onIf_congr {p q : Prop} [Decidable p] [Decidable q] {k c d : Nat} (h : p ↔ q) (e : c = d) : onIf p k c = onIf q k d := by
  subst e
  unfold onIf
  by_cases hq : q
  · rw [if_pos hq, if_pos (h.mpr hq)]
  · rw [if_neg hq, if_neg (fun hp => hq (h.mp hp))]
theorem opt_rev {p : Prop} [Decidable p] {x : Str} : (if p then [x] else []).reverse = (if p then [x] else []) := by
  split <;> rfl
theorem flag_back {f n : Int} (h0 : 0 ≤ f) (h1 : f < 65536) (n0 : 0 ≤ n) (n1 : n < 65536) :
    flagOf (flagWords f n) = (Int.fmod f 32 + f.fdiv 256 * 256, if (f.fdiv 16).fmod 2 = 1 then n else 0) := by
  obtain ⟨f, rfl⟩ := Int.eq_ofNat_of_zero_le h0
  have hc : onIf (bitP f 4) 16 (onIf (bitP f 3) 8 (onIf (bitP f 2) 4 (onIf (bitP f 1) 2 (onIf (bitP f 0) 1 0)))) = f % 32 := by
    rw [← bits_32 (f % 32) (Nat.mod_lt _ (by decide))]
    exact onIf_congr (bitR_4 f) (onIf_congr (bitR_3 f) (onIf_congr (bitR_2 f) (onIf_congr (bitR_1 f) (onIf_congr (bitR_0 f) rfl))))
  have b0 : onIf (bitP f 0) 1 0 < 32 := onIf_lt (by decide) (by decide)
  have b1 : onIf (bitP f 1) 2 (onIf (bitP f 0) 1 0) < 32 := onIf_lt (by decide) b0
  have b2 : onIf (bitP f 2) 4 (onIf (bitP f 1) 2 (onIf (bitP f 0) 1 0)) < 32 := onIf_lt (by decide) b1
  have b3 : onIf (bitP f 3) 8 (onIf (bitP f 2) 4 (onIf (bitP f 1) 2 (onIf (bitP f 0) 1 0))) < 32 := onIf_lt (by decide) b2
  have b4 := onIf_lt (p := bitP f 4) (k := 16) (by decide) b3
  unfold flagOf
  rw [flagWords_is f (by omega) n]
  have z : ((0, 0) : Int × Int) = (fl 0 0, 0) := rfl
  rw [z]
  simp only [flagAcc_app]
  have e0 : flagAcc [] (fl 0 0, 0) = some (fl 0 0, 0) := rfl
  rw [e0, Option.bind_some, acc_bit (by decide) (by decide) step_w1, Option.bind_some, acc_bit (by decide) b0 step_w2, Option.bind_some, acc_bit (by decide) b1 step_w4, Option.bind_some, acc_bit (by decide) b2 step_w8, Option.bind_some, acc_use b3 n0 n1, Option.bind_some, acc_att (f / 256) b4 (by omega), hc]
  show ((fl (f % 32) (f / 256), _) : Int × Int) = _
  refine Prod.ext ?_ rfl
  show fl (f % 32) (f / 256) = _
  rw [Int.fdiv_eq_ediv_of_nonneg _ (by decide), Int.fmod_eq_emod_of_nonneg _ (by decide)]
  unfold fl
  omega
theorem flag_back_rev {f n : Int} (h0 : 0 ≤ f) (h1 : f < 65536) (n0 : 0 ≤ n) (n1 : n < 65536) :
    flagOf (flagWords f n).reverse = (Int.fmod f 32 + f.fdiv 256 * 256, if (f.fdiv 16).fmod 2 = 1 then n else 0) := by
  obtain ⟨f, rfl⟩ := Int.eq_ofNat_of_zero_le h0
  have hc : onIf (bitP f 0) 1 (onIf (bitP f 1) 2 (onIf (bitP f 2) 4 (onIf (bitP f 3) 8 (onIf (bitP f 4) 16 0)))) = f % 32 := by
    rw [← bits_32r (f % 32) (Nat.mod_lt _ (by decide))]
    exact onIf_congr (bitR_0 f) (onIf_congr (bitR_1 f) (onIf_congr (bitR_2 f) (onIf_congr (bitR_3 f) (onIf_congr (bitR_4 f) rfl))))
  have b4 : onIf (bitP f 4) 16 0 < 32 := onIf_lt (by decide) (by decide)
  have b3 : onIf (bitP f 3) 8 (onIf (bitP f 4) 16 0) < 32 := onIf_lt (by decide) b4
  have b2 : onIf (bitP f 2) 4 (onIf (bitP f 3) 8 (onIf (bitP f 4) 16 0)) < 32 := onIf_lt (by decide) b3
  have b1 : onIf (bitP f 1) 2 (onIf (bitP f 2) 4 (onIf (bitP f 3) 8 (onIf (bitP f 4) 16 0))) < 32 := onIf_lt (by decide) b2
  unfold flagOf
  rw [flagWords_is f (by omega) n]
  simp only [List.reverse_append, opt_rev, List.reverse_nil]
  have z : ((0, 0) : Int × Int) = (fl 0 0, 0) := rfl
  rw [z]
  rw [List.append_nil, flagAcc_app, acc_att (f / 256) (by decide) (by omega), Option.bind_some, flagAcc_app, acc_use (by decide) n0 n1, Option.bind_some, flagAcc_app, acc_bit (by decide) b4 step_w8, Option.bind_some, flagAcc_app, acc_bit (by decide) b3 step_w4, Option.bind_some, flagAcc_app, acc_bit (by decide) b2 step_w2, Option.bind_some, acc_bit (by decide) b1 step_w1, hc]
  show ((fl (f % 32) (f / 256), _) : Int × Int) = _
  refine Prod.ext ?_ rfl
  show fl (f % 32) (f / 256) = _
  rw [Int.fdiv_eq_ediv_of_nonneg _ (by decide), Int.fmod_eq_emod_of_nonneg _ (by decide)]
  unfold fl
  omega

abbrev FlagTxt (x : Str) : Prop := x.length ≤ 1000 ∧ ∀ y ∈ Txt.split x sp, PyData.strOk y = true
theorem opt_mem {p : Prop} [Decidable p] {x y : Str} (h : y ∈ (if p then [x] else [])) : p ∧ y = x := by
  split at h
  · exact ⟨by assumption, List.mem_singleton.mp h⟩
  · exact absurd h List.not_mem_nil
theorem txt_two {W : Str} {n : Int} (hW : 32 ∉ W.cps.toList) (hl : W.length ≤ 100) (ho : PyData.strOk W = true) (h0 : 0 ≤ n) (h1 : n < 65536) : FlagTxt (W ++ sp ++ Str.ofString (toString n)) := by
  refine ⟨?_, fun y hy => ?_⟩
  · have h5 := str_len5 h0 h1
    have hs : sp.length = 1 := by decide +kernel
    have e : (W ++ sp ++ Str.ofString (toString n)).length = W.length + sp.length + (Str.ofString (toString n)).length := by
      simp only [Str.length, PySem.Str.cps_append, Array.size_append]
    omega
  · rw [split_two _ _ hW (str_free n)] at hy
    simp only [List.mem_cons, List.not_mem_nil, or_false] at hy
    rcases hy with rfl | rfl
    · exact ho
    · exact str_ok h0
theorem words_txt {f n : Int} (h0 : 0 ≤ f) (h1 : f < 65536) (n0 : 0 ≤ n) (n1 : n < 65536) : ∀ x ∈ flagWords f n, FlagTxt x := by
  obtain ⟨f, rfl⟩ := Int.eq_ofNat_of_zero_le h0
  intro x hx
  rw [flagWords_is f (by omega) n] at hx
  simp only [List.mem_append, List.not_mem_nil, false_or] at hx
  rcases hx with ((((hx | hx) | hx) | hx) | hx) | hx <;> obtain ⟨hp, rfl⟩ := opt_mem hx
  · decide +kernel
  · decide +kernel
  · decide +kernel
  · decide +kernel
  · exact txt_two useW_free (by decide +kernel) (by decide +kernel) n0 n1
  · exact txt_two attW_free (by decide +kernel) (by decide +kernel) (by omega) (by omega)
theorem words_len (f n : Int) : (flagWords f n).length ≤ 6 := by
  have h := wordUpto_len f n 5
  unfold flagWords attPart
  rw [List.length_append]
  split <;> simp <;> omega
end Nu
end
section
theorem Nu.freshNuPureR : True := by
  w_top off
  first | (walk1; done) | trivial
open PySem PySem.W PyProof.Rows PySem.Calls PySem.Spec
namespace Nu
/-- a state of the row's reader, its parts as numbers from 0 -/
noncomputable abbrev rsN (b0 b1 b2 b3 b4 a : Nat) (m : Int) : RS := ⟨(b0 : Int), (b1 : Int), (b2 : Int), (b3 : Int), (b4 : Int), (a : Int), m⟩
noncomputable abbrev lo5 (b0 b1 b2 b3 b4 : Nat) : Nat := b0 + b1 * 2 + b2 * 4 + b3 * 8 + b4 * 16
structure Rs5 (b0 b1 b2 b3 b4 a : Nat) : Prop where
  x0 : b0 < 2
  x1 : b1 < 2
  x2 : b2 < 2
  x3 : b3 < 2
  x4 : b4 < 2
  xa : a < 256
theorem tell_n (b0 b1 b2 b3 b4 a : Nat) (m : Int) : rsTell (rsN b0 b1 b2 b3 b4 a m) = (fl (lo5 b0 b1 b2 b3 b4) a, m) := by
  refine Prod.ext ?_ rfl
  show (b0 : Int) + b1 * 2 + b2 * 4 + b3 * 8 + b4 * 16 + 256 * a = ((lo5 b0 b1 b2 b3 b4 + 256 * a : Nat) : Int)
  unfold lo5
  push_cast
  rfl
theorem or_1 : ∀ b0, b0 < 2 → ∀ b1, b1 < 2 → ∀ b2, b2 < 2 → ∀ b3, b3 < 2 → ∀ b4, b4 < 2 → lo5 b0 b1 b2 b3 b4 ||| 1 = lo5 1 b1 b2 b3 b4 := by decide
theorem or_2 : ∀ b0, b0 < 2 → ∀ b1, b1 < 2 → ∀ b2, b2 < 2 → ∀ b3, b3 < 2 → ∀ b4, b4 < 2 → lo5 b0 b1 b2 b3 b4 ||| 2 = lo5 b0 1 b2 b3 b4 := by decide
theorem or_4 : ∀ b0, b0 < 2 → ∀ b1, b1 < 2 → ∀ b2, b2 < 2 → ∀ b3, b3 < 2 → ∀ b4, b4 < 2 → lo5 b0 b1 b2 b3 b4 ||| 4 = lo5 b0 b1 1 b3 b4 := by decide
theorem or_8 : ∀ b0, b0 < 2 → ∀ b1, b1 < 2 → ∀ b2, b2 < 2 → ∀ b3, b3 < 2 → ∀ b4, b4 < 2 → lo5 b0 b1 b2 b3 b4 ||| 8 = lo5 b0 b1 b2 1 b4 := by decide
theorem or_16 : ∀ b0, b0 < 2 → ∀ b1, b1 < 2 → ∀ b2, b2 < 2 → ∀ b3, b3 < 2 → ∀ b4, b4 < 2 → lo5 b0 b1 b2 b3 b4 ||| 16 = lo5 b0 b1 b2 b3 1 := by decide
section
variable {b0 b1 b2 b3 b4 a : Nat} {m : Int}
theorem Rs5.lt (h : Rs5 b0 b1 b2 b3 b4 a) : lo5 b0 b1 b2 b3 b4 < 32 := by
  obtain ⟨h0, h1, h2, h3, h4, _⟩ := h
  unfold lo5
  omega
def RowStep (j : Nat) : Prop := ∀ b0 b1 b2 b3 b4 a (m : Int), Rs5 b0 b1 b2 b3 b4 a →
  (flagStep (rowText j) (rsTell (rsN b0 b1 b2 b3 b4 a m)) = none ∧ readStep j (rsN b0 b1 b2 b3 b4 a m) = none) ∨
  ∃ c0 c1 c2 c3 c4 d m', Rs5 c0 c1 c2 c3 c4 d ∧ flagStep (rowText j) (rsTell (rsN b0 b1 b2 b3 b4 a m)) = some (rsTell (rsN c0 c1 c2 c3 c4 d m')) ∧ readStep j (rsN b0 b1 b2 b3 b4 a m) = some (rsN c0 c1 c2 c3 c4 d m')
theorem row_bad {j : Nat} (h1 : ¬ WordIn (rowText j)) (h2 : ¬ UseIn (rowText j)) (h3 : ¬ AttIn (rowText j)) (hk : rowKind j = Str.ofString "") : RowStep j := fun b0 b1 b2 b3 b4 a m h => by
  refine .inl ⟨step_none h1 h2 h3, ?_⟩
  unfold readStep
  rw [if_pos hk]
theorem row_set {j : Nat} (n : Int) (hn : numberIn (Txt.split (rowText j) sp) = n) (h1 : ¬ WordIn (rowText j)) (h2 : UseIn (rowText j)) (hk0 : rowKind j ≠ Str.ofString "") (hk1 : rowKind j ≠ Str.ofString "bit") (hk : rowKind j = Str.ofString "set") (hw : rowWorth j = n) : RowStep j := fun b0 b1 b2 b3 b4 a m h => by
  refine .inr ⟨b0, b1, b2, b3, 1, a, n, ⟨h.x0, h.x1, h.x2, h.x3, by decide, h.xa⟩, ?_, ?_⟩
  · rw [step_use hn h1 h2, tell_n, tell_n, ← or_16 b0 h.x0 b1 h.x1 b2 h.x2 b3 h.x3 b4 h.x4]
    exact congrArg (fun x => some (x, n)) (or_fl 16 (by have := h.lt; omega) (by decide))
  · unfold readStep
    rw [if_neg hk0, if_neg hk1, if_pos hk, hw]
    rfl
theorem row_att {j : Nat} (n : Nat) (hn : numberIn (Txt.split (rowText j) sp) = n) (h1 : ¬ WordIn (rowText j)) (h2 : ¬ UseIn (rowText j)) (h3 : AttIn (rowText j)) (hk0 : rowKind j ≠ Str.ofString "") (hk1 : rowKind j ≠ Str.ofString "bit") (hk : rowKind j ≠ Str.ofString "set") (hw : rowWorth j = n) (hlt : n < 256) : RowStep j := fun b0 b1 b2 b3 b4 a m h => by
  refine .inr ⟨b0, b1, b2, b3, b4, n, m, ⟨h.x0, h.x1, h.x2, h.x3, h.x4, hlt⟩, ?_, ?_⟩
  · rw [step_att hn h1 h2 h3, tell_n, tell_n]
    refine congrArg (fun x => some (x, m)) ?_
    have := h.lt
    show Int.fmod (fl (lo5 b0 b1 b2 b3 b4) a) 256 + 256 * (n : Int) = fl (lo5 b0 b1 b2 b3 b4) n
    rw [Int.fmod_eq_emod_of_nonneg _ (by decide)]
    unfold fl
    omega
  · unfold readStep
    rw [if_neg hk0, if_neg hk1, if_neg hk, hw]
theorem row_step : ∀ j, j < 21 → RowStep j := by
  intro j hj
  rcases row_lt hj with rfl | rfl | rfl | rfl | rfl | rfl | rfl | rfl | rfl | rfl | rfl | rfl | rfl | rfl | rfl | rfl | rfl | rfl | rfl | rfl | rfl
  · intro b0 b1 b2 b3 b4 a m h
    refine .inr ⟨1, b1, b2, b3, b4, a, m, ⟨by decide, h.x1, h.x2, h.x3, h.x4, h.xa⟩, ?_, rfl⟩
    rw [show rowText 0 = Str.ofString "RightToLeft" from rfl, step_w1, tell_n, tell_n, ← or_1 b0 h.x0 b1 h.x1 b2 h.x2 b3 h.x3 b4 h.x4]
    exact congrArg (fun x => some (x, m)) (or_fl 1 (by have := h.lt; omega) (by decide))
  · intro b0 b1 b2 b3 b4 a m h
    refine .inr ⟨b0, 1, b2, b3, b4, a, m, ⟨h.x0, by decide, h.x2, h.x3, h.x4, h.xa⟩, ?_, rfl⟩
    rw [show rowText 1 = Str.ofString "IgnoreBaseGlyphs" from rfl, step_w2, tell_n, tell_n, ← or_2 b0 h.x0 b1 h.x1 b2 h.x2 b3 h.x3 b4 h.x4]
    exact congrArg (fun x => some (x, m)) (or_fl 2 (by have := h.lt; omega) (by decide))
  · intro b0 b1 b2 b3 b4 a m h
    refine .inr ⟨b0, b1, 1, b3, b4, a, m, ⟨h.x0, h.x1, by decide, h.x3, h.x4, h.xa⟩, ?_, rfl⟩
    rw [show rowText 2 = Str.ofString "IgnoreLigatures" from rfl, step_w4, tell_n, tell_n, ← or_4 b0 h.x0 b1 h.x1 b2 h.x2 b3 h.x3 b4 h.x4]
    exact congrArg (fun x => some (x, m)) (or_fl 4 (by have := h.lt; omega) (by decide))
  · intro b0 b1 b2 b3 b4 a m h
    refine .inr ⟨b0, b1, b2, 1, b4, a, m, ⟨h.x0, h.x1, h.x2, by decide, h.x4, h.xa⟩, ?_, rfl⟩
    rw [show rowText 3 = Str.ofString "IgnoreMarks" from rfl, step_w8, tell_n, tell_n, ← or_8 b0 h.x0 b1 h.x1 b2 h.x2 b3 h.x3 b4 h.x4]
    exact congrArg (fun x => some (x, m)) (or_fl 8 (by have := h.lt; omega) (by decide))
  · exact row_set 7 (by decide +kernel) (by decide +kernel) (by decide +kernel) (by decide +kernel) (by decide +kernel) (by decide +kernel) (by decide +kernel)
  · exact row_att 1 (by decide +kernel) (by decide +kernel) (by decide +kernel) (by decide +kernel) (by decide +kernel) (by decide +kernel) (by decide +kernel) (by decide +kernel) (by decide)
  · exact row_att 254 (by decide +kernel) (by decide +kernel) (by decide +kernel) (by decide +kernel) (by decide +kernel) (by decide +kernel) (by decide +kernel) (by decide +kernel) (by decide)
  · exact row_set 65 (by decide +kernel) (by decide +kernel) (by decide +kernel) (by decide +kernel) (by decide +kernel) (by decide +kernel) (by decide +kernel)
  · exact row_set 65535 (by decide +kernel) (by decide +kernel) (by decide +kernel) (by decide +kernel) (by decide +kernel) (by decide +kernel) (by decide +kernel)
  · exact row_att 3 (by decide +kernel) (by decide +kernel) (by decide +kernel) (by decide +kernel) (by decide +kernel) (by decide +kernel) (by decide +kernel) (by decide +kernel) (by decide)
  all_goals exact row_bad (by decide +kernel) (by decide +kernel) (by decide +kernel) (by decide +kernel)
theorem acc_rows : ∀ (js : List Nat), (∀ j ∈ js, j < 21) → ∀ (b0 b1 b2 b3 b4 a : Nat) (m : Int), Rs5 b0 b1 b2 b3 b4 a →
    flagAcc (js.map rowText) (rsTell (rsN b0 b1 b2 b3 b4 a m)) = (readAcc js (rsN b0 b1 b2 b3 b4 a m)).map rsTell
  | [], _, _, _, _, _, _, _, _, _ => rfl
  | j :: r, hj, b0, b1, b2, b3, b4, a, m, h => by
    show (flagStep (rowText j) _).bind (flagAcc (r.map rowText)) = ((readStep j _).bind (readAcc r)).map rsTell
    rcases row_step j (hj j (.head _)) b0 b1 b2 b3 b4 a m h with ⟨e1, e2⟩ | ⟨c0, c1, c2, c3, c4, d, m', h', e1, e2⟩
    · rw [e1, e2]
      rfl
    · rw [e1, e2]
      exact acc_rows r (fun i hi => hj i (.tail _ hi)) c0 c1 c2 c3 c4 d m' h'
end
theorem rows_same (js : List Nat) (h : ∀ j ∈ js, j < 21) : flagOf (js.map rowText) = readOf js := by
  have e := acc_rows js h 0 0 0 0 0 0 0 ⟨by decide, by decide, by decide, by decide, by decide, by decide⟩
  have z : rsTell (rsN 0 0 0 0 0 0 0) = (0, 0) := rfl
  have z2 : rsN 0 0 0 0 0 0 0 = rs0 := rfl
  rw [z, z2] at e
  unfold flagOf readOf
  rw [e]
  cases readAcc js rs0 <;> rfl
theorem rows_txt : ∀ j, j < 21 → FlagTxt (rowText j) := by decide +kernel
end Nu
end
section
theorem Nu.freshNuRule : True := by
  w_top off
  first | (walk1; done) | trivial
open PySem PySem.W PyProof.Rows PySem.Calls PySem.Spec
namespace Nu
theorem news_small {h₀ h : Heap} {L : Addr} (own2 : List (Addr × Obj)) {own : List (Addr × Obj)} (N : News h₀ L h own) (hs : ∀ p ∈ own2, p ∈ own) : News h₀ L h own2 := fun p hp => N p (hs p hp)
theorem same_strs : ∀ ts : List Str, PySem.Spec.sameAll (ts.map PyData.str) (ts.map PyData.str) = true
  | [] => rfl
  | x :: r => by
    show (PySem.Spec.same (.str x) (.str x) && PySem.Spec.sameAll (r.map PyData.str) (r.map PyData.str)) = true
    rw [same_strs r]
    simp [PySem.Spec.same]
theorem noMix_strs : ∀ ts : List Str, SeqAt.noMixAll (ts.map PyData.str) (ts.map PyData.str) = true
  | [] => by simp [SeqAt.noMixAll]
  | x :: r => by simp [SeqAt.noMixAll, SeqAt.noMix, noMix_strs r]
theorem strs_len : ∀ {vs : List Value} {ts : List Str}, StrsAre vs ts → vs.length = ts.length
  | _, _, .nil => rfl
  | _, _, .cons _ _ h => congrArg (· + 1) (strs_len h)
theorem strs_size {vs : List Value} {f n : Int} (h : StrsAre vs (flagWords f n)) : vs.toArray.toList.length ≤ sizeLine := by
  have h1 := strs_len h
  have h2 := words_len f n
  have h3 : vs.toArray.toList = vs := rfl
  rw [h3, h1]
  exact Nat.le_trans h2 (by decide)
theorem strs_rev {vs : List Value} {ts : List Str} (h : StrsAre vs ts) : StrsAre vs.reverse ts.reverse := by
  induction h with
  | nil => exact .nil
  | cons x t h ih =>
    rw [List.reverse_cons, List.reverse_cons]
    exact StrsAre.append' ih (.cons _ _ .nil)
theorem ok_of_txt {f n : Int} (h : ∀ x ∈ flagWords f n, FlagTxt x) : ∀ x ∈ (flagWords f n).reverse, FlagTxt x := fun x hx => h x (List.mem_reverse.mp hx)
theorem word_ok {f n : Int} (h0 : 0 ≤ f) (h1 : f < 65536) (n0 : 0 ≤ n) (_ : n < 65536) : ∀ x ∈ flagWords f n, PyData.strOk x = true := by
  obtain ⟨f, rfl⟩ := Int.eq_ofNat_of_zero_le h0
  have two : ∀ (W : Str) (m : Int), PyData.strOk W = true → 0 ≤ m → PyData.strOk (W ++ sp ++ Str.ofString (toString m)) = true := fun W m hW hm => by
    have h1 := str_ok hm
    have h2 : PyData.strOk sp = true := by decide +kernel
    unfold PyData.strOk at *
    simp only [PySem.Str.cps_append, Array.all_append, hW, h1, h2, Bool.and_self]
  intro x hx
  rw [flagWords_is f (by omega) n] at hx
  simp only [List.mem_append, List.not_mem_nil, false_or] at hx
  rcases hx with ((((hx | hx) | hx) | hx) | hx) | hx <;> obtain ⟨hp, rfl⟩ := opt_mem hx
  · decide +kernel
  · decide +kernel
  · decide +kernel
  · decide +kernel
  · exact two _ _ (by decide +kernel) n0
  · exact two _ _ (by decide +kernel) (by omega)
theorem txt_of {vs : List Value} {f n : Int} (_ : StrsAre vs (flagWords f n)) (h0 : 0 ≤ f) (h1 : f < 65536) (n0 : 0 ≤ n) (n1 : n < 65536) : ∀ x ∈ flagWords f n, FlagTxt x := words_txt h0 h1 n0 n1
def DueOk {vs : List Value} {f n : Int} (_ : StrsAre vs (flagWords f n)) (d1 d2 : Int) : Prop := flagOf (flagWords f n) = (d1, d2) ∧ flagOf (flagWords f n).reverse = (d1, d2)
theorem due_on {vs : List Value} {f n : Int} (hW : StrsAre vs (flagWords f n)) (h0 : 0 ≤ f) (h1 : f < 65536) (n0 : 0 ≤ n) (n1 : n < 65536) (h : (f.fdiv 16).fmod 2 = 1) : DueOk hW (Int.fmod f 32 + f.fdiv 256 * 256) n := by
  unfold DueOk
  rw [flag_back h0 h1 n0 n1, flag_back_rev h0 h1 n0 n1, if_pos h]
  exact ⟨rfl, rfl⟩
theorem due_off {vs : List Value} {f n : Int} (hW : StrsAre vs (flagWords f n)) (h0 : 0 ≤ f) (h1 : f < 65536) (n0 : 0 ≤ n) (n1 : n < 65536) (h : ¬ (f.fdiv 16).fmod 2 = 1) : DueOk hW (Int.fmod f 32 + f.fdiv 256 * 256) 0 := by
  unfold DueOk
  rw [flag_back h0 h1 n0 n1, flag_back_rev h0 h1 n0 n1, if_neg h]
  exact ⟨rfl, rfl⟩
theorem pair_a {ts : List Str} {x y x' y' : Int} (h : flagOf ts = (x, y)) (h' : flagOf ts = (x', y')) : x = x' := (Prod.mk.inj (h.symm.trans h')).1
theorem pair_b {ts : List Str} {x y x' y' : Int} (h : flagOf ts = (x, y)) (h' : flagOf ts = (x', y')) : y = y' := (Prod.mk.inj (h.symm.trans h')).2
section
variable {prog : Program} {w : World} {A : Around} {E Q : Value → Shared → Prop} {s : Shared} {h₀ : Heap} {L a b : Addr} {news : List (Addr × Obj)} {va vb : List Value} {na nb : Nat} {f n : Int}
theorem ne_words (N : News h₀ L s.heap news) (ha : (a, listOf va.toArray na) ∈ news) (hb : (b, listOf vb.toArray nb) ∈ news) (sa : StrsAre va (flagWords f n)) (sb : StrsAre vb (lwWords f n))
    (h0 : 0 ≤ f) (h1 : f < 65536) (n0 : 0 ≤ n) (n1 : n < 65536) (hu : A.units + 64 < cLine) (h : Q (.bool false) s) : wpAny (model prog w) A (compareOp .NotEq (.ref a) (.ref b)) Q E s := by
  rw [lw_eq h0 h1] at sb
  have hs := shaped_strs _ (word_ok h0 h1 n0 n1)
  refine ne_dataH_same (reads_newData (N.isList ha) sa.carried) (reads_newData (N.isList hb) sb.carried) hs hs hu ?_ ?_
  · simp [SeqAt.noMix, noMix_strs]
  · have : PySem.Spec.same (PyData.list ((flagWords f n).map PyData.str)) (PyData.list ((flagWords f n).map PyData.str)) = true := same_strs _
    rw [this]
    exact h
theorem ne_pair {x y x' y' : Int} {t1 t2 t3 t4 : Tok} (N : News h₀ L s.heap news) (ha : (a, ({ cls := .type "tuple", data := .seq #[.int x t1, .int y t2] na } : Obj)) ∈ news) (hb : (b, ({ cls := .type "tuple", data := .seq #[.int x' t3, .int y' t4] nb } : Obj)) ∈ news)
    (e1 : x = x') (e2 : y = y') (hu : A.units + 64 < cLine) (h : Q (.bool false) s) : wpAny (model prog w) A (compareOp .NotEq (.ref a) (.ref b)) Q E s := by
  subst e1 e2
  have r : ∀ {c nc t u}, (c, ({ cls := .type "tuple", data := .seq #[.int x t, .int y u] nc } : Obj)) ∈ news → Reads s.heap (.ref c) (.tuple [.int x, .int y]) [] := fun hc =>
    .tuple (N _ hc).1 rfl rfl ((CarriedAll.cons (.int _ _) (.cons (.int _ _) .nil)).reads _)
  refine ne_dataH_same (r ha) (r hb) ?_ ?_ hu ?_ ?_
  · simp [SeqAt.shaped, PyData.canLay0, PyData.depth, PyData.canLayAll0, PyData.depthAll]
  · simp [SeqAt.shaped, PyData.canLay0, PyData.depth, PyData.canLayAll0, PyData.depthAll]
  · simp [SeqAt.noMix, SeqAt.noMixAll]
  · simpa [PySem.Spec.same, PySem.Spec.sameAll] using h
end
section
variable {prog : Program} {w : World} {A : Around} {E Q : Value → Shared → Prop} {s : Shared} {h₀ : Heap} {L l : Addr} {m : Str → Option Value} {news : List (Addr × Obj)} {value slice : PySem.Expr} {its : Array Value} {zs : List Value} {vk : Value} {ops : List Value}
theorem sub_tail {o i : Value} {T id : String} {Q : Value → Shared → Prop} (hT : s.TypeIs o T)
    (hl : typeLookup (.type T) "__getitem__" = pure (some (.builtin id))) (h : wpAny (model prog w) A (getItem o i) Q E s)
    (hs : subscripted slice false o i = operate ops (getItem o i)) :
    wpAny (model prog w) A (subscriptTail value slice o i) Q E s := by
  unfold subscriptTail
  refine wpAny_bind ?_
  rw [getitemInPython_of_ne hT.not_modules]
  refine wpAny_bind (wpAny_specialOf hT hl ?_)
  have fin : wpAny (model prog w) A (subscripted slice false o i) (fun r s₃ => wpAny (model prog w) A (letTemporaryGo value o r >>= fun _ => pure r) Q E s₃) E s := by
    rw [hs]
    exact wpAny_operating (wpAny_mono h (fun r s₃ h₃ => wpAny_bind (wpAny_letTemporaryGo (wpAny_pure h₃))) fun _ _ x => x)
  first
    | exact wpAny_pure (wpAny_bind fin)
    | exact wpAny_bind (wpAny_pure (wpAny_bind fin))
    | exact wpAny_bind fin
theorem rev_tail (F : Fr h₀ L s.heap m) (N : News h₀ L s.heap news) (hl : s.heap.IsList l its) (pk : IsPart vk (some (-1))) (e : its.toList.reverse = zs)
    (h : ∀ D h', Fr h₀ L h' m → News h₀ L h' ((D, listOf zs.toArray 0) :: news) → (∀ p ∈ news, @LT.lt Nat _ p.1 D) → Q (.ref D) { s with heap := h' })
    (hs : subscripted slice false (.ref l) (.ref s.heap.objs.size) = operate ops (getItem (.ref l) (.ref s.heap.objs.size))) (hz : its.size ≤ sizeLine) :
    wpAny (model prog w) A (subscriptTail value slice (.ref l) (.ref s.heap.objs.size)) Q E { s with heap := s.heap.push { cls := .type "slice", data := .fields #[.none, .none, vk] } } := by
  subst e
  refine sub_tail (Heap.IsList.typeIs (s := { s with heap := s.heap.push { cls := .type "slice", data := .fields #[.none, .none, vk] } }) (hl.push _)) list_getitem_lookup
    (wpAny_getItem_list_slice (hl.push _) (Heap.IsSliceOf.new ..) .none .none pk (by decide) ?_ hz) hs
  have N1 := News.push (F.push { cls := .type "slice", data := .fields #[.none, .none, vk] }) (N.grown fun _ _ e => Heap.get?_push_of_some _ e) { cls := .type "list", data := .seq (slicePick its none none (some (-1))) }
  rw [Heap.size_push, krv_pick] at N1
  show Q (.ref (s.heap.push _).objs.size) _
  rw [Heap.size_push]
  rw [krv_pick]
  exact h _ _ ((F.push _).push _) N1 fun p hp => Nat.lt_succ_of_lt (Heap.lt_size (N p hp).1)
end
end Nu
end
section
theorem Nu.freshNuGrow : True := by
  w_top off
  first | (walk1; done) | trivial
open PySem PySem.W PyProof.Rows PySem.Calls PySem.Spec
namespace Nu
/-- the end of a turn that may add to the ledger -/
def GrowEnd {σ : Type} (h₀ : Heap) (L : Addr) (Led : σ → List (Addr × Obj)) (ps : σ → List (Str × Value)) (P : σ → Prop) (own : List (Addr × Obj)) (s₁ s₂ : Shared) : Prop :=
  ∃ (h' : Heap) (tk : Nat) (m' : Str → Option Value) (news' : List (Addr × Obj)) (c : σ), s₂ = { s₁ with heap := h', toks := tk } ∧ Fr h₀ L h' m' ∧ News h₀ L h' news' ∧ (∀ p ∈ Led c, p ∈ news') ∧ (∀ p ∈ own, p ∈ news') ∧ (∀ p ∈ ps c, m' p.1 = some p.2) ∧ OwnOff own ((Led c).map (·.1)) ∧ P c
def GrowPost {σ : Type} (h₀ : Heap) (L : Addr) (Led : σ → List (Addr × Obj)) (ps : σ → List (Str × Value)) (P : σ → Prop) (own : List (Addr × Obj)) (s₁ : Shared) (Q : Flow → Shared → Prop) (f : Flow) (s₂ : Shared) : Prop :=
  match f with
  | .ret v => Q (.ret v) s₂
  | .brk => Q .next s₂
  | _ => GrowEnd h₀ L Led ps P own s₁ s₂
section
variable {prog : Program} {w : World} {A : Around} {E : Value → Shared → Prop} {s : Shared} {env : Env} {h₀ : Heap} {x : Str} {body : List Stmt} {Q : Flow → Shared → Prop}
theorem grow_range {σ : Type} {r : Addr} {a₀ b₀ : Int} {t₀ u₀ v₀ : Tok} {n : Nat} {m₀ : Str → Option Value} (Led : σ → List (Addr × Obj)) (ps : σ → List (Str × Value)) (P : Nat → σ → Prop) (c₀ : σ)
    (hh : A.handled = none) (hr : IsRange s.heap r a₀ b₀ 1 t₀ u₀ v₀) (hsmall : Builtin.Range.small a₀ b₀ 1 = true) (hn : Builtin.Range.rangeSize a₀ b₀ 1 = (n : Int))
    (F : Fr h₀ env.locals s.heap m₀) (N : News h₀ env.locals s.heap (Led c₀)) (hk : ∀ p ∈ ps c₀, m₀ p.1 = some p.2) (hp : P 0 c₀)
    (turn : ∀ (c : σ) i (k : Int) t (u : Str → Option Value) h tk own, i < n → k = a₀ + (i : Int) → P i c → OwnOff own ((Led c).map (·.1)) →
      Fr h₀ env.locals h (fun y => if y = x then some (.int k t) else kstB u (ps c) y) → News h₀ env.locals h (Led c ++ own) →
      wpAny (model prog w) A (execs body env) (GrowPost h₀ env.locals Led ps (P (i + 1)) own { s with heap := h, toks := tk } Q) E { s with heap := h, toks := tk })
    (done : ∀ (c : σ) (u : Str → Option Value) h tk, P n c → Fr h₀ env.locals h (kstB u (ps c)) → News h₀ env.locals h (Led c) → Q .next { s with heap := h, toks := tk }) :
    wpAny (model prog w) A (pyIter (.ref r)) (fun it s₂ => LoopAtV prog w A h₀ env x body Q E it s₂) E s := by
  refine wpAny_pyIter_range hr hsmall ?_
  have W : Walks prog w A s.heap.objs.size [s.heap.objs.size] [s.heap.objs.size] n (fun i v => i < n ∧ ∃ t, v = .int (a₀ + i * 1) t)
      (fun i h => IsRangeIter h s.heap.objs.size (a₀ + (i : Nat) * 1) ((n : Int) - (i : Nat)) 1) := (Walks.range hh _ a₀ 1 n).bound
  refine ⟨s.heap.objs.size, [s.heap.objs.size], [s.heap.objs.size], n, _, _, m₀, Led c₀, (fun i m nx => KV Led ps (P i) m nx), rfl, W, ?_, ?_, ?_, (by show IsRangeIter _ _ _ _ _; rw [hn]; simpa using Heap.get?_push_size _ rfl), F.push _, (fun p hp => ⟨Heap.get?_push_of_some _ (N p hp).1, (N p hp).2⟩), ⟨c₀, rfl, hk, hp⟩, ?_, ?_⟩
  · intro hm
    exact absurd F.ns.lt ((List.mem_singleton.mp hm) ▸ Nat.lt_irrefl _)
  · intro b hb
    rw [List.mem_singleton.mp hb]
    exact next_is_new F
  · intro p hp hI
    exact absurd (Heap.lt_size (N p hp).1) ((List.mem_singleton.mp hI) ▸ Nat.lt_irrefl _)
  · rintro i v m₁ nx s₁ own ⟨hh', tk', rfl⟩ hin ⟨_, t, rfl⟩ ⟨c, rfl, h1, hp'⟩ hnw hown hget hmem hst F₁ N₁
    have hoff : OwnOff own ((Led c).map (·.1)) := by
      intro p hp b hb e
      obtain ⟨q, hq, rfl⟩ := List.mem_map.mp hb
      exact hnw q hq (e ▸ hown p hp)
    have N₂ : News h₀ env.locals hh' (Led c ++ own) := fun p hp => N₁ p ((List.mem_append.mp hp).elim (fun h => List.mem_append.mpr (.inr h)) fun h => List.mem_append.mpr (.inl h))
    have fin : ∀ s₂, GrowEnd h₀ env.locals Led ps (P (i + 1)) own { s with heap := hh', toks := tk' } s₂ →
        LoopStepU h₀ env.locals [s.heap.objs.size] own (fun m nx => KV Led ps (P (i + 1)) m nx) { s with heap := hh', toks := tk' } .next s₂ := by
      rintro s₂ ⟨h', tk, m', news', c', e, F', N', hn', ho, hm, hof, hp2⟩
      refine ⟨rfl, h', tk, m', Led c', e, F', fun p hp => (List.mem_append.mp hp).elim (fun h => N' p (ho p h)) fun h => N' p (hn' p h), fun p hp hI => ?_, c', rfl, hm, hp2⟩
      have hI' := List.mem_singleton.mp hI
      have hg : ∃ o, hh'.get? s.heap.objs.size = some o := ⟨_, hst⟩
      obtain ⟨o, ho'⟩ := hg
      have hin2 : (s.heap.objs.size, o) ∈ own := hmem _ (.head _) (next_is_new F) o ho'
      exact hof _ hin2 p.1 (List.mem_map.mpr ⟨p, hp, rfl⟩) hI'.symm
    refine wpAny_mono (turn c i _ t m₁ hh' tk' own hin (by omega) hp' hoff (kv_fr h1 F₁) N₂) (fun f s₂ p => ?_) fun _ _ e => e
    cases f with
    | ret v => exact .ret p
    | brk => exact .brk p
    | next => exact .next (fin _ p)
    | cont => exact .cont (fin _ p)
  · rintro h' tk m' nx F' N' _ ⟨c, rfl, h1, hp'⟩
    refine done c m' h' tk hp' ?_ N'
    rw [show kstB m' (ps c) = m' from funext fun _ => kstB_eq h1 fun _ => rfl]
    exact F'
end
end Nu
end
section
theorem Nu.freshNuRule2 : True := by
  w_top off
  first | (walk1; done) | trivial
open PySem PySem.W PyProof.Rows PySem.Calls PySem.Spec
namespace Nu
theorem rows_top : ∀ (w : World) (h : Heap), PySem.Challenge.rw_nu0152_01.row.prog = PySem.Challenge.rw_nu0152_01.row.prog → (Nu.hd.heap_39 w.params).In h →
    h.get? 182 = some ({ cls := .type "tuple", data := .seq ([.ref 161, .ref 162, .ref 163, .ref 164, .ref 165, .ref 166, .ref 167, .ref 168, .ref 169, .ref 170, .ref 171, .ref 172, .ref 173, .ref 174, .ref 175, .ref 176, .ref 177, .ref 178, .ref 179, .ref 180, .ref 181] : List Value).toArray 0 } : Obj) := by
  k_fill
  intro w h _ X
  exact X 182 _ (by k_is)
section
variable {prog : Program} {w : World} {A : Around} {E Q : Value → Shared → Prop} {s : Shared} {h₀ : Heap} {L b : Addr} {m : Str → Option Value} {news : List (Addr × Obj)} {value slice : PySem.Expr} {ops : List Value} {n : Nat}
theorem pick3 {x y : Str} {ta tb tc t : Tok} {r : Int} (N : News h₀ L s.heap news) (hb : (b, ({ cls := .type "tuple", data := .seq #[.str x ta, .str x tb, .str y tc] n } : Obj)) ∈ news) (h0 : 0 ≤ r) (h1 : r < 3)
    (h : ∀ (kd : Str) (t : Tok), kd = x ∨ kd = y → Q (.str kd t) s) (hs : subscripted slice false (.ref b) (.int r t) = operate ops (getItem (.ref b) (.int r t))) :
    wpAny (model prog w) A (subscriptTail value slice (.ref b) (.int r t)) Q E s := by
  have hT := N.isTup hb
  refine sub_tail hT.typeIs slot_tuple_getitem.lookup ?_ hs
  obtain rfl | rfl | rfl : r = 0 ∨ r = 1 ∨ r = 2 := by omega
  · exact getItem_tuple hT (by decide) (by decide) (j := 0) (by rfl) (by rfl) (h _ _ (.inl rfl))
  · exact getItem_tuple hT (by decide) (by decide) (j := 1) (by rfl) (by rfl) (h _ _ (.inl rfl))
  · exact getItem_tuple hT (by decide) (by decide) (j := 2) (by rfl) (by rfl) (h _ _ (.inr rfl))
theorem pick_row {t : Tok} {r : Int} (F : Fr h₀ L s.heap m) (X : (Nu.hd.heap_39 w.params).In h₀) (h0 : 0 ≤ r) (h1 : r < 21)
    (h : Q (rowRef r.toNat) s) (hs : subscripted slice false (.ref 182) (.int r t) = operate ops (getItem (.ref 182) (.int r t))) :
    wpAny (model prog w) A (subscriptTail value slice (.ref 182) (.int r t)) Q E s := by
  have e := rows_top w s.heap rfl (X.keeps F.keep)
  have hT : IsTup s.heap 182 _ := ⟨_, e, rfl, _, rfl⟩
  refine sub_tail hT.typeIs slot_tuple_getitem.lookup ?_ hs
  obtain ⟨j, rfl⟩ := Int.eq_ofNat_of_zero_le h0
  have hj : j < 21 := by omega
  rcases row_lt hj with rfl | rfl | rfl | rfl | rfl | rfl | rfl | rfl | rfl | rfl | rfl | rfl | rfl | rfl | rfl | rfl | rfl | rfl | rfl | rfl | rfl
  · exact getItem_tuple hT (by decide) (by decide) (j := 0) (by rfl) (by rfl) h
  · exact getItem_tuple hT (by decide) (by decide) (j := 1) (by rfl) (by rfl) h
  · exact getItem_tuple hT (by decide) (by decide) (j := 2) (by rfl) (by rfl) h
  · exact getItem_tuple hT (by decide) (by decide) (j := 3) (by rfl) (by rfl) h
  · exact getItem_tuple hT (by decide) (by decide) (j := 4) (by rfl) (by rfl) h
  · exact getItem_tuple hT (by decide) (by decide) (j := 5) (by rfl) (by rfl) h
  · exact getItem_tuple hT (by decide) (by decide) (j := 6) (by rfl) (by rfl) h
  · exact getItem_tuple hT (by decide) (by decide) (j := 7) (by rfl) (by rfl) h
  · exact getItem_tuple hT (by decide) (by decide) (j := 8) (by rfl) (by rfl) h
  · exact getItem_tuple hT (by decide) (by decide) (j := 9) (by rfl) (by rfl) h
  · exact getItem_tuple hT (by decide) (by decide) (j := 10) (by rfl) (by rfl) h
  · exact getItem_tuple hT (by decide) (by decide) (j := 11) (by rfl) (by rfl) h
  · exact getItem_tuple hT (by decide) (by decide) (j := 12) (by rfl) (by rfl) h
  · exact getItem_tuple hT (by decide) (by decide) (j := 13) (by rfl) (by rfl) h
  · exact getItem_tuple hT (by decide) (by decide) (j := 14) (by rfl) (by rfl) h
  · exact getItem_tuple hT (by decide) (by decide) (j := 15) (by rfl) (by rfl) h
  · exact getItem_tuple hT (by decide) (by decide) (j := 16) (by rfl) (by rfl) h
  · exact getItem_tuple hT (by decide) (by decide) (j := 17) (by rfl) (by rfl) h
  · exact getItem_tuple hT (by decide) (by decide) (j := 18) (by rfl) (by rfl) h
  · exact getItem_tuple hT (by decide) (by decide) (j := 19) (by rfl) (by rfl) h
  · exact getItem_tuple hT (by decide) (by decide) (j := 20) (by rfl) (by rfl) h
end
end Nu
end
section
theorem Nu.freshNuCaret : True := by
  w_top off
  first | (walk1; done) | trivial
open PySem PySem.W PyProof.Rows PySem.Calls PySem.Spec
namespace Nu
structure CE where
  addr : Addr
  kd : Str
  z : Int
  tk : Tok
  tz : Tok
  n : Nat
noncomputable abbrev CE.ref (e : CE) : Value := .ref e.addr
noncomputable abbrev CE.ent (e : CE) : Addr × Obj := (e.addr, ({ cls := .type "tuple", data := .seq #[.str e.kd e.tk, .int e.z e.tz] e.n } : Obj))
structure CS where
  cs : List CE
  t : Tok
  n : Nat
  nl : Nat
  pl : Int
structure CS.Ok (l : Addr) (i : Nat) (c : CS) : Prop where
  len : c.cs.length = i
  low : 0 ≤ c.pl
  high : c.pl ≤ 4 + 2 * i
  kinds : ∀ e ∈ c.cs, e.kd = Str.ofString "at" ∨ e.kd = Str.ofString "point"
  over : ∀ e ∈ c.cs, @LT.lt Nat _ l e.addr

noncomputable abbrev caretLed (tape l cells b1 b2 b3 : Addr) (C o1 o2 o3 : Obj) (c : CS) : List (Addr × Obj) :=
  (tape, listOf #[.ref cells, .int c.pl c.t] c.n) :: (l, listOf (c.cs.map CE.ref).toArray c.nl) :: (cells, C) :: (b1, o1) :: (b2, o2) :: (b3, o3) :: c.cs.map CE.ent
theorem allLt_mem {d : Addr} {l : List (Addr × Obj)} (h : AllLt d l) : ∀ p ∈ l, @LT.lt Nat _ p.1 d := by
  induction l with
  | nil => exact fun p hp => absurd hp List.not_mem_nil
  | cons q r ih =>
    intro p hp
    rcases List.mem_cons.mp hp with e | hp
    · rw [e]; exact h.1
    · exact ih h.2 p hp
theorem caret_end {h₀ h8 : Heap} {L tape l cells b1 b2 b3 D : Addr} {m8 : Str → Option Value} {X : Addr × Obj} {C o1 o2 o3 : Obj} {kd : Str} {tkd tz t8 : Tok} {z p8 : Int} {nD n8 nl' i : Nat} {cs : List CE} {rest ow : List (Addr × Obj)} {s₁ : Shared} {tk : Nat}
    (F8 : Fr h₀ L h8 m8) (N8 : News h₀ L h8 ((D, ({ cls := .type "tuple", data := .seq #[.str kd tkd, .int z tz] nD } : Obj)) :: (tape, listOf #[.ref cells, .int p8 t8] n8) :: X :: (l, listOf ((cs.map CE.ref).toArray.push (.ref D)) nl') :: (cells, C) :: (b1, o1) :: (b2, o2) :: (b3, o3) :: rest))
    (hcm : ∀ e ∈ cs, e.ent ∈ rest) (how : ∀ p ∈ ow, p ∈ rest) (hlt : AllLt D rest) (hD : @LT.lt Nat _ l D) (hk : m8 (Str.ofString "carets") = some (.ref l))
    (hoR : OwnOff rest [tape, l, cells, b1, b2, b3]) (hoff : OwnOff ow ((tape, listOf #[.ref cells, .int p8 t8] n8).1 :: (l, listOf #[] 0).1 :: (cells, C).1 :: (b1, o1).1 :: (b2, o2).1 :: (b3, o3).1 :: (cs.map CE.ent).map (·.1)))
    (hcl : cs.length = i) (h0 : 0 ≤ p8) (h1 : p8 ≤ 4 + 2 * ((i + 1 : Nat) : Int)) (hcs : ∀ e ∈ cs, e.kd = Str.ofString "at" ∨ e.kd = Str.ofString "point") (hlo : ∀ e ∈ cs, @LT.lt Nat _ l e.addr) (hkd : kd = Str.ofString "at" ∨ kd = Str.ofString "point") :
    GrowEnd h₀ L (caretLed tape l cells b1 b2 b3 C o1 o2 o3) (fun _ => [(Str.ofString "carets", Value.ref l)]) (CS.Ok l (i + 1)) ow s₁ { s₁ with heap := h8, toks := tk } := by
  refine ⟨h8, tk, m8, _, ⟨cs ++ [⟨D, kd, z, tkd, tz, nD⟩], t8, n8, nl', p8⟩, rfl, F8, N8, ?_, ?_, ?_, ?_, ?_⟩
  · intro p hp
    simp only [List.push_toArray]
    simp only [caretLed, List.map_append, List.map_cons, List.map_nil, List.mem_cons, List.mem_append, List.not_mem_nil, or_false] at hp ⊢
    rcases hp with h | h | h | h | h | h | h | h
    · exact .inr (.inl h)
    · exact .inr (.inr (.inr (.inl h)))
    · exact .inr (.inr (.inr (.inr (.inl h))))
    · exact .inr (.inr (.inr (.inr (.inr (.inl h)))))
    · exact .inr (.inr (.inr (.inr (.inr (.inr (.inl h))))))
    · exact .inr (.inr (.inr (.inr (.inr (.inr (.inr (.inl h)))))))
    · obtain ⟨e, he, rfl⟩ := List.mem_map.mp h
      exact .inr (.inr (.inr (.inr (.inr (.inr (.inr (.inr (hcm e he))))))))
    · exact .inl h
  · intro p hp
    exact .tail _ (.tail _ (.tail _ (.tail _ (.tail _ (.tail _ (.tail _ (.tail _ (how p hp))))))))
  · intro p hp
    rw [List.mem_singleton.mp hp]
    exact hk
  · intro p hp b hb
    simp only [caretLed, List.map_append, List.map_cons, List.map_nil, List.mem_cons, List.mem_append, List.not_mem_nil, or_false] at hb
    rcases hb with h | h | h | h | h | h | h | h
    · exact hoR p (how p hp) b (by simp [h])
    · exact hoR p (how p hp) b (by simp [h])
    · exact hoR p (how p hp) b (by simp [h])
    · exact hoR p (how p hp) b (by simp [h])
    · exact hoR p (how p hp) b (by simp [h])
    · exact hoR p (how p hp) b (by simp [h])
    · exact hoff p hp b (by simp only [List.mem_cons]; exact .inr (.inr (.inr (.inr (.inr (.inr h))))))
    · intro q
      have hlt' : @LT.lt Nat _ p.1 D := allLt_mem hlt p (how p hp)
      have q' : @Eq Nat p.1 D := q.trans h
      omega
  · refine ⟨by simp [hcl], h0, h1, ?_, ?_⟩
    · intro e he
      rcases List.mem_append.mp he with he | he
      · exact hcs e he
      · rw [List.mem_singleton.mp he]; exact hkd
    · intro e he
      rcases List.mem_append.mp he with he | he
      · exact hlo e he
      · rw [List.mem_singleton.mp he]; exact hD
end Nu
end
section
theorem Nu.freshNuComp : True := by
  w_top off
  first | (walk1; done) | trivial
open PySem PySem.W PyProof.Rows PySem.Calls PySem.Spec
namespace Nu
section
variable {prog : Program} {w : World} {A : Around} {s : Shared} {h₀ : Heap} {L : Addr} {m : Str → Option Value} {env : Env} {elt : PySem.Expr} {x : Str} {scope : Scope} {cl : List (Str × Addr)} {S : List (Addr × Obj) → Prop} {P : Nat → Value → Prop} {Fin : List Value → List (Addr × Obj) → Prop}
/-- the end of a comprehension's turn, told by a state -/
def EltEnd {σ : Type} (h₀ : Heap) (L : Addr) (m : Str → Option Value) (s : Shared) (I : Addr) (oI : Obj) (C : Addr) (oC : Obj) (D : Addr) (S : List (Addr × Obj) → Prop) (Led : σ → List (Addr × Obj)) (Y : σ → List Value) (Ok : σ → Prop) (c : σ) (y : Value) (s' : Shared) : Prop :=
  ∃ c', Ok c' ∧ Y c' = Y c ++ [y] ∧ LCg.CompEnd h₀ L m s I oI C oC D (LCg.lst (Y c)) S (fun _ nw => nw = Led c') y s'
theorem rest_st {σ : Type} (Led : σ → List (Addr × Obj)) (Y : σ → List Value) (Ok : Nat → σ → Prop) (n : Nat)
    (turn : ∀ i c v I oI C oC D m₂ h tk (E' : Value → Shared → Prop), i < n → P i v → Ok i c → LCg.NsObj oC m₂ → m₂ x = some v → Fr h₀ L h m → News h₀ L h ((I, oI) :: (C, oC) :: (D, LCg.lst (Y c)) :: Led c) → LCg.Off3 I C D (Led c) → ((@Ne Nat I C) ∧ (@Ne Nat I D) ∧ (@Ne Nat C D)) →
      wpAny (model prog w) A (eval elt (compEnvC scope cl C env)) (EltEnd h₀ L m { s with heap := h, toks := tk } I oI C oC D S Led Y (Ok (i + 1)) c) E' { s with heap := h, toks := tk })
    (fin : ∀ c, Ok n c → Fin (Y c) (Led c)) :
    ∀ k i c, i + k = n → Ok i c → LCg.CompRest prog w A h₀ L m env elt x scope cl s S P Fin k i (Y c) (Led c)
  | 0, i, c, e, o => LCg.CompRest.zero (fin c (by have : i = n := by omega
                                                  exact this ▸ o))
  | k + 1, i, c, e, o => LCg.CompRest.succ fun v I oI C oC D m₂ h tk E' hv hC hx F N off ne => by
    refine wpAny_mono (turn i c v I oI C oC D m₂ h tk E' (by omega) hv o hC hx F N off ne) (fun y s' q => ?_) fun _ _ e => e
    obtain ⟨c', o', ey, h', tk', nw, es, F', N', off', hS, rfl⟩ := q
    refine ⟨h', tk', Led c', es, F', N', off', hS, ?_⟩
    show LCg.CompRest prog w A h₀ L m env elt x scope cl s S P Fin k (i + 1) (Y c ++ [y]) (Led c')
    rw [← ey]
    exact rest_st Led Y Ok n turn fin k (i + 1) c' (by omega) o'
theorem elt_end {σ : Type} {Led : σ → List (Addr × Obj)} {Y : σ → List Value} {Ok : σ → Prop} {c : σ} {I C D : Addr} {oI oC : Obj} {y : Value} {h' : Heap} {tk : Nat} {all : List (Addr × Obj)} (c' : σ)
    (F : Fr h₀ L h' m) (N : News h₀ L h' all) (sub : ∀ p ∈ (I, oI) :: (C, oC) :: (D, LCg.lst (Y c)) :: Led c', p ∈ all) (off : LCg.Off3 I C D (Led c')) (hS : S (Led c')) (ey : Y c' = Y c ++ [y]) (o : Ok c') :
    EltEnd h₀ L m s I oI C oC D S Led Y Ok c y { s with heap := h', toks := tk } :=
  ⟨c', o, ey, h', tk, Led c', rfl, F, fun p hp => N p (sub p hp), off, hS, rfl⟩
theorem off_any {I C D : Addr} {l : List (Addr × Obj)} (h : LCg.Off3 I C D l) : (∀ p ∈ l, p.1 ≠ I) ∧ (∀ p ∈ l, p.1 ≠ C) ∧ ∀ p ∈ l, p.1 ≠ D :=
  ⟨fun p hp => (h.mem p hp).1, fun p hp => (h.mem p hp).2.1, fun p hp => (h.mem p hp).2.2⟩
end
section
variable {prog : Program} {w : World} {A : Around} {E Q : Value → Shared → Prop} {s : Shared} {h₀ : Heap} {L b : Addr} {m : Str → Option Value} {value slice : PySem.Expr} {ops : List Value}
theorem row_zero {t : Tok} {j : Nat} (F : Fr h₀ L s.heap m) (X : (Nu.hd.heap_39 w.params).In h₀) (hj : j < 21)
    (h : ∀ t, Q (.str (rowText j) t) s) (hs : subscripted slice false (rowRef j) (.int 0 t) = operate ops (getItem (rowRef j) (.int 0 t))) :
    wpAny (model prog w) A (subscriptTail value slice (rowRef j) (.int 0 t)) Q E s := by
  have e := row_top w s.heap rfl (X.keeps F.keep) j hj
  have hT : IsTup s.heap (161 + j) _ := ⟨_, e, rfl, _, rfl⟩
  exact sub_tail hT.typeIs slot_tuple_getitem.lookup (getItem_tuple hT (by decide) (by decide) (j := 0) (by rfl) (by rfl) (h _)) hs
end
structure RwS where
  js : List Nat
  t : Tok
  n : Nat
  pl : Int
structure RwS.Ok (p0 : Int) (i : Nat) (c : RwS) : Prop where
  len : c.js.length = i
  low : 0 ≤ c.pl
  high : c.pl ≤ p0 + i
  rows : ∀ j ∈ c.js, j < 21
theorem row_get {js : List Nat} {i : Nat} {v : Value} (h : ((js.map rowRef).toArray)[i]? = some v) : ∃ j, js[i]? = some j ∧ v = rowRef j ∧ j ∈ js := by
  simp only [List.getElem?_toArray, List.getElem?_map] at h
  cases e : js[i]? with
  | none => rw [e] at h; cases h
  | some j =>
    rw [e] at h
    exact ⟨j, rfl, (Option.some.inj h).symm, List.mem_of_getElem? e⟩
theorem rows_next {js : List Nat} {i j : Nat} {ys : List Value} {t : Tok} (hj : js[i]? = some j) (h : StrsAre ys ((js.take i).map rowText)) : StrsAre (ys ++ [.str (rowText j) t]) ((js.take (i + 1)).map rowText) := by
  rw [List.take_add_one, hj, List.map_append]
  exact StrsAre.append' h (.cons _ _ .nil)
theorem rows_all {js : List Nat} {ys : List Value} (h : StrsAre ys ((js.take ((js.map rowRef).toArray.size)).map rowText)) : StrsAre ys (js.map rowText) := by
  rwa [List.size_toArray, List.length_map, List.take_length] at h
theorem rows_len {js : List Nat} {n : Nat} (h : js.length = n) (hn : n ≤ 10) : (js.map rowRef).toArray.size ≤ sizeLine := by
  rw [List.size_toArray, List.length_map]
  exact Nat.le_trans (by omega : _ ≤ 10) (by decide)
theorem rows_text {js : List Nat} (h : ∀ j ∈ js, j < 21) : ∀ x ∈ js.map rowText, FlagTxt x := fun x hx => by
  obtain ⟨j, hj, rfl⟩ := List.mem_map.mp hx
  exact rows_txt j (h j hj)
theorem pair_c {ts : List Str} {js : List Nat} {x y x' y' : Int} (e : flagOf ts = readOf js) (h : flagOf ts = (x, y)) (h' : readOf js = (x', y')) : x = x' := (Prod.mk.inj (h.symm.trans (e.trans h'))).1
theorem pair_d {ts : List Str} {js : List Nat} {x y x' y' : Int} (e : flagOf ts = readOf js) (h : flagOf ts = (x, y)) (h' : readOf js = (x', y')) : y = y' := (Prod.mk.inj (h.symm.trans (e.trans h'))).2
end Nu
end
section
theorem Nu.freshNuGdef : True := by
  w_top off
  first | (walk1; done) | trivial
open PySem PySem.W PyProof.Rows PySem.Calls PySem.Spec
namespace Nu
noncomputable abbrev gEnt (w : World) (nm : String) (t : Tok) (v : Value) : DictEntry := { hash := PyData.keyHash w.params (Str.ofString nm), key := .str (Str.ofString nm) t, val := v }
noncomputable abbrev gDict (w : World) (a1 a2 a3 a4 d : Addr) (t1 t2 t3 t4 t5 : Tok) : Obj := dictOf [gEnt w "classes" t1 (.ref a1), gEnt w "attach" t2 (.ref a2), gEnt w "sets" t3 (.ref a3), gEnt w "points" t4 (.ref a4), gEnt w "carets" t5 (.ref d)] 5
theorem gdef_core : ∀ (w : World) (mg mb : Str → Option Value) (mean : ExcName → Option Value) (dp un : Nat) (gd : Option (List Code)) (cn : Str) (cs : Scope) (a : Addr) (ccd : Value) (cl : List (Str × Addr)) (outer : List Env) (A₀ : Around) (base h₀ : Heap) (L : Addr) (m : Str → Option Value) (s : Shared) (Q E : Value → Shared → Prop)
    (own : List (Addr × Obj)),
    Below A₀ base outer h₀ → Fr h₀ L s.heap m → (Nu.hd.heap_39 w.params).In h₀ → News h₀ L s.heap own →
    Top Nu.hd.view_39 (looseW Nu.hd.view_39 [Str.ofString "FLAG_WORDS"]) mean mg mb h₀ → cs.kind = .function → dp + 3 < recursionLimit → un + 300 < cLine →
    (∀ (x dx d a1 a2 a3 a4 : Addr) (o : Obj) (t1 t2 t3 t4 t5 : Tok) (h' : Heap) (tk' : Nat), Fr h₀ L h' m → News h₀ L h' ((d, o) :: (x, instObj 144 dx) :: (dx, gDict w a1 a2 a3 a4 d t1 t2 t3 t4 t5) :: own) → (∀ p ∈ own, @LT.lt Nat _ p.1 dx) → @LT.lt Nat _ dx x → @LT.lt Nat _ x d → (d == sysModules) = false → o.IsDictOf (intKind PySem.Challenge.rw_nu0152_01.row.prog w) [] → Q (.ref x) { s with heap := h', toks := tk' }) →
    wpAny (model PySem.Challenge.rw_nu0152_01.row.prog w) (ktrTop dp un gd cn cs L a ccd cl outer) (call (.ref 155) []) Q E s := by
  k_fill
  intro w mg mb mean dp un gd cn cs a ccd cl outer A₀ base h₀ L m s Q E own B F X N T hk hd hu hret
  have hMk := kstMark
  refine wpAny_call ?_
  k_dflt cell_enter
  repeat' (first | (k_unfold; (try dsimp only)) | ((with_reducible show wpAny _ _ (call (Value.ref _) _) _ _ _); (k_here; k_dflt (refine' call_cls ?j1 ?j2 ?j3 ?j4 ?j5 ?j6 ?_; (case j1 => k_asm); (case j2 => k_asm); (case j3 => k_asm); (case j4 => k_is); (case j5 => k_is); (case j6 => k_is); k_whole); intro x' d' h' F' N' l1 l2; (try k_lt l1); (try k_lt2 l2); (try k_sweep); k_dflt ((refine' code_def ?j1 ?j2 ?j3 ?j4 ?j5 ?jA ?jF ?jK ?j6 ?j7 ?j8 ?j9 ?jB ?_ ?c2 ?c3 ?c4 ?c5; (case jA => exact rfl); (case jF => exact rfl); (case jK => first | exact rfl | assumption); (case j1 => k_asm); (case j2 => k_asm); (case j3 => k_asm); (case j4 => k_asm); (case j5 => k_asm); (case j6 => k_is); (case j7 => k_is); (case j8 => ktr_room); (case j9 => first | exact BindsTo.of_eq rfl | exact binds_K (by k_in) rfl (by k_is) rfl rfl rfl); (case c5 => decide); (case jB => exact locs rfl); (case c2 => exact rfl); (case c3 => exact rfl); (case c4 => exact rfl); k_whole; intro g' L' h' FG' F' N' B' X' T'; (try dsimp only); (try k_lift B'); (try k_fold))))) | walk1 | (dsimp only; walk1) | (leave1; (try dsimp only)) | fail "no step")
  rename Obj.IsDictOf (intKind _ _) _ [] => hi
  rename News h₀ L _ _ => kN
  rename Fr h₀ L _ m => kF
  exact hret _ _ _ _ _ _ _ _ _ _ _ _ _ _ _ kF (news_small _ kN (by kst_inAny)) (allLt_mem (by (first | assumption | exact And.right (by assumption) | exact And.right (And.right (by assumption)) | exact And.right (And.right (And.right (by assumption))) | exact And.right (And.right (And.right (And.right (by assumption)))) | exact And.right (And.right (And.right (And.right (And.right (by assumption))))) | exact And.right (And.right (And.right (And.right (And.right (And.right (by assumption)))))) | exact And.right (And.right (And.right (And.right (And.right (And.right (And.right (by assumption))))))) | exact And.right (And.right (And.right (And.right (And.right (And.right (And.right (And.right (by assumption)))))))) | exact And.right (And.right (And.right (And.right (And.right (And.right (And.right (And.right (And.right (by assumption))))))))) | exact And.right (And.right (And.right (And.right (And.right (And.right (And.right (And.right (And.right (And.right (by assumption)))))))))) | exact And.right (And.right (And.right (And.right (And.right (And.right (And.right (And.right (And.right (And.right (And.right (by assumption)))))))))))))) (by omega) (by omega) (by assumption) hi
end Nu
end
section
theorem Nu.freshNuCompT : True := by
  w_top off
  first | (walk1; done) | trivial
open PySem PySem.W PyProof.Rows PySem.Calls PySem.Spec
namespace Nu
open PyProof.Rows.LCg PyProof.Rows.LCt in
section
variable {prog : Program} {w : World} {A : Around} {E : Value → Shared → Prop} {s : Shared} {h₀ : Heap} {L : Addr} {m : Str → Option Value} {env : Env}
noncomputable abbrev tupO (its : Array Value) (n : Nat) : Obj := { cls := .type "tuple", data := .seq its n }
def SrcTup (prog : Program) (w : World) (A : Around) (h₀ : Heap) (L : Addr) (m : Str → Option Value) (env : Env) (ct elt : PySem.Expr) (x : Str) (scope : Scope) (cl : List (Str × Addr)) (Fin : Shared → List Value → List (Addr × Obj) → Prop) (xv : Value) (s₁ : Shared) : Prop :=
  ∃ ax its n news, xv = .ref ax ∧ A.handled = none ∧ Fr h₀ L s₁.heap m ∧ News h₀ L s₁.heap news ∧ (ax, tupO its n) ∈ news ∧ its.size ≤ sizeLine ∧
    ∀ s₂ : Shared, (∃ h, s₂ = { s₁ with heap := h }) → CompRestT prog w A h₀ L m env ct elt x scope cl s₂ (fun nw => (ax, tupO its n) ∈ nw) (fun i v => its[i]? = some v) (Fin s₂) its.size 0 [] news
theorem ListComp_Tup {ct elt iter : PySem.Expr} {x : Str} {px : Pos} {scope : Scope} {cl : List (Str × Addr)} {pos : Pos} {Q : Value → Shared → Prop} (F₀ : Fr h₀ L s.heap m)
    (hclos : closureFor scope env = pure cl) (hcell : ∀ y ∈ scope.names, y.2 ≠ .cell) (hkind : scope.kind = .function)
    (hnames : ∀ y ∈ scope.names, y.2 = .local → scope.names.lookup y.1 = some .local) (hx : scope.names.lookup x = some .local)
    (h : wpAny (model prog w) A (eval iter env) (SrcTup prog w A h₀ L m env ct elt x scope cl (fun s₂ => FinE h₀ L m s₂ Q)) E s)
    (hs : ∀ x, foldedSetIterable iter env x = pure x) :
    wpAny (model prog w) A (eval (.ListComp elt [⟨.Name x px, iter, [ct], 0⟩] scope pos) env) Q E s := by
  rw [eval_ListComp]
  refine wpAny_comprehension_free (use := none) rfl hs hclos hkind hnames (wpAny_mono h (fun xv s₁ h₁ => ?_) fun _ _ e => e)
  obtain ⟨ax, its, n, news, rfl, hh, F, N, hm, hsz, R⟩ := h₁
  have hl : s₁.heap.IsTuple ax its := ⟨_, (N _ hm).1, rfl, n, rfl⟩
  have hlt : ax < s₁.heap.objs.size := Heap.lt_size (N _ hm).1
  refine wpAny_pyIter_tuple hl ?_
  have up : ∀ b o, s₁.heap.get? b = some o → (s₁.heap.push { cls := .type "tuple_iterator", data := .fields #[.ref ax, .int 0 0] }).get? b = some o := fun b o e => Heap.get?_push_of_some _ e
  refine block_T (S := fun nw => (ax, tupO its n) ∈ nw) (Walks.tuple hh s₁.heap.objs.size ax (Nat.ne_of_lt hlt) its) hsz (fun i h st => by obtain ⟨o, e, _⟩ := st.1; exact ⟨o, e⟩)
    (fun i h h' o nw st e e' k N S => ⟨by obtain ⟨o', q, r⟩ := st.1; rw [e] at q; cases q; exact ⟨o, e', r⟩, ⟨_, (N _ S).1, rfl, n, rfl⟩⟩) hcell hkind hx ⟨⟨_, Heap.get?_push_size _ rfl, rfl, rfl⟩, hl.push _⟩ (fun b hb => ?_)
    (F.keeps up) (N.grown up) (Nat.ne_of_lt F.ns.lt) (next_is_new F) (fun p hp => Nat.ne_of_lt (Heap.lt_size (N p hp).1)) hm (R _ ⟨_, rfl⟩) ?_
  · show b < (s₁.heap.push _).objs.size
    rw [Heap.size_push]
    rcases List.mem_cons.mp hb with rfl | hb
    · exact Nat.lt_succ_self _
    · rw [List.mem_singleton.mp hb]; exact Nat.lt_succ_of_lt hlt
  · intro D C h tk m' ys news' F' N' o1 hn hC₀ hD₀ hCL hDL hCD offC fin
    refine ⟨m', hn, fun h'' hs'' => fin D h'' tk (F'.change hs'' hCL hC₀) (fun p hp => ?_) o1⟩
    refine ⟨hs''.extBut _ _ ?_ (N' p hp).1, (N' p hp).2⟩
    rcases List.mem_cons.mp hp with rfl | hp
    · exact Ne.symm hCD
    · exact offC p hp
def EltSkip {σ : Type} (h₀ : Heap) (L : Addr) (m : Str → Option Value) (s : Shared) (I : Addr) (oI : Obj) (C : Addr) (oC : Obj) (D : Addr) (S : List (Addr × Obj) → Prop) (Led : σ → List (Addr × Obj)) (Y : σ → List Value) (Ok : σ → Prop) (c : σ) (s' : Shared) : Prop :=
  ∃ c', Ok c' ∧ Y c' = Y c ∧ CompEnd h₀ L m s I oI C oC D (lst (Y c)) S (fun _ nw => nw = Led c') Value.none s'
theorem elt_skip {σ : Type} {S : List (Addr × Obj) → Prop} {Led : σ → List (Addr × Obj)} {Y : σ → List Value} {Ok : σ → Prop} {c : σ} {I C D : Addr} {oI oC : Obj} {h' : Heap} {tk : Nat} {all : List (Addr × Obj)} (c' : σ)
    (F : Fr h₀ L h' m) (N : News h₀ L h' all) (sub : ∀ p ∈ (I, oI) :: (C, oC) :: (D, lst (Y c)) :: Led c', p ∈ all) (off : Off3 I C D (Led c')) (hS : S (Led c')) (ey : Y c' = Y c) (o : Ok c') :
    EltSkip h₀ L m s I oI C oC D S Led Y Ok c { s with heap := h', toks := tk } :=
  ⟨c', o, ey, h', tk, Led c', rfl, F, fun p hp => N p (sub p hp), off, hS, rfl⟩
theorem rest_stT {σ : Type} {ct elt : PySem.Expr} {x : Str} {scope : Scope} {cl : List (Str × Addr)} {S : List (Addr × Obj) → Prop} {P : Nat → Value → Prop} {Fin : List Value → List (Addr × Obj) → Prop} (Led : σ → List (Addr × Obj)) (Y : σ → List Value) (Ok : Nat → σ → Prop) (n : Nat)
    (turn : ∀ i c v I oI C oC D m₂ h tk (E' : Value → Shared → Prop), i < n → P i v → Ok i c → NsObj oC m₂ → m₂ x = some v → Fr h₀ L h m → News h₀ L h ((I, oI) :: (C, oC) :: (D, lst (Y c)) :: Led c) → Off3 I C D (Led c) → ((@Ne Nat I C) ∧ (@Ne Nat I D) ∧ (@Ne Nat C D)) →
      wpAny (model prog w) A (isTrue ct (compEnvC scope cl C env) (eval ct (compEnvC scope cl C env))) (fun ok s' => if ok = true then
        wpAny (model prog w) A (eval elt (compEnvC scope cl C env)) (EltEnd h₀ L m { s with heap := h, toks := tk } I oI C oC D S Led Y (Ok (i + 1)) c) E' s'
        else EltSkip h₀ L m { s with heap := h, toks := tk } I oI C oC D S Led Y (Ok (i + 1)) c s') E' { s with heap := h, toks := tk })
    (fin : ∀ c, Ok n c → Fin (Y c) (Led c)) :
    ∀ k i c, i + k = n → Ok i c → CompRestT prog w A h₀ L m env ct elt x scope cl s S P Fin k i (Y c) (Led c)
  | 0, i, c, e, o => CompRestT.zero (fin c (by have : i = n := by omega
                                               exact this ▸ o))
  | k + 1, i, c, e, o => CompRestT.succ fun v I oI C oC D m₂ h tk E' hv hC hx F N off ne => by
    refine wpAny_mono (turn i c v I oI C oC D m₂ h tk E' (by omega) hv o hC hx F N off ne) (fun ok s' q => ?_) fun _ _ e => e
    cases ok with
    | true =>
      simp only [if_true] at q ⊢
      refine wpAny_mono q (fun y s' q => ?_) fun _ _ e => e
      obtain ⟨c', o', ey, h', tk', nw, es, F', N', off', hS, rfl⟩ := q
      refine ⟨h', tk', Led c', es, F', N', off', hS, ?_⟩
      show CompRestT prog w A h₀ L m env ct elt x scope cl s S P Fin k (i + 1) (Y c ++ [y]) (Led c')
      rw [← ey]
      exact rest_stT Led Y Ok n turn fin k (i + 1) c' (by omega) o'
    | false =>
      simp only [Bool.false_eq_true, if_false] at q ⊢
      obtain ⟨c', o', ey, h', tk', nw, es, F', N', off', hS, rfl⟩ := q
      refine ⟨h', tk', Led c', es, F', N', off', hS, ?_⟩
      show CompRestT prog w A h₀ L m env ct elt x scope cl s S P Fin k (i + 1) (Y c) (Led c')
      rw [← ey]
      exact rest_stT Led Y Ok n turn fin k (i + 1) c' (by omega) o'
end
end Nu
end
section
theorem Nu.freshNuStops : True := by
  w_top off
  first | (walk1; done) | trivial
open PySem PySem.W PyProof.Rows PySem.Calls PySem.Spec
namespace Nu
noncomputable abbrev glyD (r : Addr) : List (Int × Value) := [(5, .ref r)]
/-- the row that caret_stops reads: the dict of carets is empty, or holds the glyph 5 alone -/
def RowIs (cs : List CE) (own : List (Addr × Obj)) (gl : Int) (kvs : List (Int × Value)) : Prop :=
  (kvs = [] ∧ cs = []) ∨ ∃ r n, kvs = glyD r ∧ ((gl = 6 ∧ cs = []) ∨ (gl = 5 ∧ (r, tupO (cs.map CE.ref).toArray n) ∈ own))
theorem ks_get {ks : List CE} {i : Nat} {v : Value} (h : ((ks.map CE.ref).toArray)[i]? = some v) : ∃ e, ks[i]? = some e ∧ v = .ref e.addr ∧ e ∈ ks := by
  simp only [List.getElem?_toArray, List.getElem?_map] at h
  cases e : ks[i]? with
  | none => rw [e] at h; cases h
  | some j =>
    rw [e] at h
    exact ⟨j, rfl, (Option.some.inj h).symm, List.mem_of_getElem? e⟩
noncomputable def atZ (ks : List CE) : List Int := (ks.filter fun e => decide (e.kd = Str.ofString "at")).map CE.z
theorem atZ_small {ks : List CE} (h : ks.length ≤ 3) : (atZ ks).length < 64 := by
  unfold atZ
  rw [List.length_map]
  have := List.length_filter_le (fun e : CE => decide (e.kd = Str.ofString "at")) ks
  omega
theorem at_on {ks : List CE} {i : Nat} {e : CE} {ys : List Value} {t : Tok} (he : ks[i]? = some e) (hk : e.kd = Str.ofString "at") (h : IntsAre ys (atZ (ks.take i))) : IntsAre (ys ++ [.int e.z t]) (atZ (ks.take (i + 1))) := by
  have : atZ (ks.take (i + 1)) = atZ (ks.take i) ++ [e.z] := by
    unfold atZ
    rw [List.take_add_one, he]
    simp [hk]
  rw [this]
  exact IntsAre.append h (.cons _ _ .nil)
theorem at_off {ks : List CE} {i : Nat} {e : CE} {ys : List Value} (he : ks[i]? = some e) (hk : e.kd ≠ Str.ofString "at") (h : IntsAre ys (atZ (ks.take i))) : IntsAre ys (atZ (ks.take (i + 1))) := by
  have : atZ (ks.take (i + 1)) = atZ (ks.take i) := by
    unfold atZ
    rw [List.take_add_one, he]
    simp [hk]
  rw [this]
  exact h
section
variable {prog : Program} {w : World} {A : Around} {E Q : Value → Shared → Prop} {s : Shared} {h₀ : Heap} {L l : Addr} {news : List (Addr × Obj)} {ks : List CE} {n : Nat}
theorem len_ks (N : News h₀ L s.heap news) (hm : (l, tupO (ks.map CE.ref).toArray n) ∈ news) (hk : ks.length ≤ 3) (h : Q (.int (ks.length : Int) (s.toks + 1)) { s with toks := s.toks + 1 + 1 }) :
    wpAny (model prog w) A (call (.builtin "len") [.ref l]) Q E s := by
  have e2 : (ks.map CE.ref).toArray.size = ks.length := by rw [List.size_toArray, List.length_map]
  exact len_tuple ⟨_, (N _ hm).1, rfl, n, rfl⟩ (by rw [e2]; omega) (by rw [e2]; exact h)
theorem len_kl (N : News h₀ L s.heap news) (hm : (l, listOf (ks.map CE.ref).toArray n) ∈ news) (hk : ks.length ≤ 3) (h : Q (.int (ks.length : Int) (s.toks + 1)) { s with toks := s.toks + 1 + 1 }) :
    wpAny (model prog w) A (call (.builtin "len") [.ref l]) Q E s := by
  have e2 : (ks.map CE.ref).toArray.size = ks.length := by rw [List.size_toArray, List.length_map]
  exact len_list ⟨_, (N _ hm).1, rfl, n, rfl⟩ (by rw [e2]; omega) (by rw [e2]; exact h)
end
section
variable {prog : Program} {w : World} {A : Around} {E Q : Value → Shared → Prop} {s : Shared} {h₀ : Heap} {L : Addr} {m : Str → Option Value} {news : List (Addr × Obj)} {value slice : PySem.Expr} {ops : List Value} {e : CE} {t : Tok}
theorem ent_zero (N : News h₀ L s.heap news) (he : e.ent ∈ news) (h : Q (.str e.kd e.tk) s) (hs : subscripted slice false (.ref e.addr) (.int 0 t) = operate ops (getItem (.ref e.addr) (.int 0 t))) :
    wpAny (model prog w) A (subscriptTail value slice (.ref e.addr) (.int 0 t)) Q E s := by
  have hT : IsTup s.heap e.addr #[.str e.kd e.tk, .int e.z e.tz] := ⟨_, (N _ he).1, rfl, _, rfl⟩
  exact sub_tail hT.typeIs slot_tuple_getitem.lookup (getItem_tuple hT (by decide) (by decide) (j := 0) (by rfl) (by rfl) h) hs
theorem ent_one (N : News h₀ L s.heap news) (he : e.ent ∈ news) (h : Q (.int e.z e.tz) s) (hs : subscripted slice false (.ref e.addr) (.int 1 t) = operate ops (getItem (.ref e.addr) (.int 1 t))) :
    wpAny (model prog w) A (subscriptTail value slice (.ref e.addr) (.int 1 t)) Q E s := by
  have hT : IsTup s.heap e.addr #[.str e.kd e.tk, .int e.z e.tz] := ⟨_, (N _ he).1, rfl, _, rfl⟩
  exact sub_tail hT.typeIs slot_tuple_getitem.lookup (getItem_tuple hT (by decide) (by decide) (j := 1) (by rfl) (by rfl) h) hs
end
noncomputable def evenOf (pt wd : Int) : List Int := List.map (fun k' => (wd * k').fdiv pt) (rangeKs 1 (pt - 1).toNat)
/-- what caret_stops tells: the told distances ascending, where there are as many as joints and all are distances; else the width parted evenly -/
def StopsR (ks : List CE) (pt wd : Int) (ns : List Int) : Prop :=
  ((ks.length : Int) = pt - 1 ∧ (atZ ks).length = ks.length ∧ ns.Perm (atZ ks) ∧ ns.Pairwise (· ≤ ·)) ∨ (¬ ((ks.length : Int) = pt - 1 ∧ (atZ ks).length = ks.length) ∧ ns = evenOf pt wd)
theorem stops_a {ks : List CE} {pt wd : Int} {ns : List Int} (h1 : (ks.length : Int) = pt - 1) (h2 : (ns.length : Int) = (ks.length : Int)) (hP : ns.Perm (atZ ks)) (hO : ns.Pairwise (· ≤ ·)) : StopsR ks pt wd ns := by
  refine .inl ⟨h1, ?_, hP, hO⟩
  rw [← hP.length_eq]; omega
theorem stops_b {ks : List CE} {pt wd : Int} {ns : List Int} (h2 : (ns.length : Int) ≠ (ks.length : Int)) (hP : ns.Perm (atZ ks)) : StopsR ks pt wd (List.map (fun k' => (wd * k').fdiv pt) (rangeKs 1 (pt - 1).toNat)) := by
  refine .inr ⟨fun h => h2 ?_, rfl⟩
  rw [hP.length_eq, h.2]
theorem stops_c {ks : List CE} {pt wd : Int} (h1 : (ks.length : Int) ≠ pt - 1) : StopsR ks pt wd (List.map (fun k' => (wd * k').fdiv pt) (rangeKs 1 (pt - 1).toNat)) := .inr ⟨fun h => h1 h.1, rfl⟩
theorem stops_core : ∀ (w : World) (mg mb : Str → Option Value) (mean : ExcName → Option Value) (dp un : Nat) (gd : Option (List Code)) (cn : Str) (cs : Scope) (a : Addr) (ccd : Value) (cl : List (Str × Addr)) (outer : List Env) (A₀ : Around) (base h₀ : Heap) (L : Addr) (m : Str → Option Value) (s : Shared) (Q E : Value → Shared → Prop)
    (own : List (Addr × Obj)) (x dx d a1 a2 a3 a4 : Addr) (o : Obj) (t1 t2 t3 t4 t5 : Tok) (gl pt wd : Int) (tg tp tw : Tok) (ks : List CE) (kvs : List (Int × Value)),
    Below A₀ base outer h₀ → Fr h₀ L s.heap m → (Nu.hd.heap_39 w.params).In h₀ → News h₀ L s.heap ((d, o) :: (x, instObj 144 dx) :: (dx, gDict w a1 a2 a3 a4 d t1 t2 t3 t4 t5) :: own) →
    Top Nu.hd.view_39 (looseW Nu.hd.view_39 [Str.ofString "FLAG_WORDS"]) mean mg mb h₀ → cs.kind = .function → o.IsDictOf (intKind PySem.Challenge.rw_nu0152_01.row.prog w) kvs → (d == sysModules) = false → RowIs ks own gl kvs → ks.length ≤ 3 → (∀ e ∈ ks, e.ent ∈ own) → (∀ e ∈ ks, e.kd = Str.ofString "at" ∨ e.kd = Str.ofString "point") → gl = 5 ∨ gl = 6 → 1 ≤ pt → pt ≤ 4 → -500 ≤ wd → wd ≤ 1500 → dp + 3 < recursionLimit → un + 300 < cLine →
    (∀ (D : Addr) (vs : List Value) (ns : List Int) (n : Nat) (h' : Heap) (tk' : Nat), IntsAre vs ns → StopsR ks pt wd ns → Fr h₀ L h' m → News h₀ L h' ((D, listOf vs.toArray n) :: (d, o) :: (x, instObj 144 dx) :: (dx, gDict w a1 a2 a3 a4 d t1 t2 t3 t4 t5) :: own) → Q (.ref D) { s with heap := h', toks := tk' }) →
    wpAny (model PySem.Challenge.rw_nu0152_01.row.prog w) (ktrTop dp un gd cn cs L a ccd cl outer) (call (.ref 160) [.ref x, .int gl tg, .int pt tp, .int wd tw]) Q E s := by
  k_fill
  intro w mg mb mean dp un gd cn cs a ccd cl outer A₀ base h₀ L m s Q E own x dx d a1 a2 a3 a4 o t1 t2 t3 t4 t5 gl pt wd tg tp tw ks kvs B F X N T hk hO hd' hrow hkl hke hkk hgl hp0 hp1 hw0 hw1 hd hu hret
  have hMk := kstMark
  refine wpAny_call ?_
  k_dflt (refine' code_defC ?k1 ?k2 ?k3 ?k4 ?k5 ?kA ?kF ?kK ?k6 ?k7 ?k8 ?k9 ?kB ?kD ?_ ?c2 ?c3 ?c4; (case kA => exact rfl); (case kF => exact rfl); (case kK => assumption); (case k1 => k_asm); (case k2 => k_asm); (case k3 => k_asm); (case k4 => k_asm); (case k5 => k_asm); (case k6 => k_is); (case k7 => k_is); (case k8 => ktr_room); (case k9 => exact BindsTo.of_eq rfl); (case kB => exact rfl); (case kD => decide +kernel); (case c2 => exact rfl); (case c3 => exact rfl); (case c4 => exact rfl); k_whole)
  intro g' L' h' tk' cells' FG' F' N' Y' B' X' T' l1
  try k_lt l1
  k_cells Y'
  try simp only [List.cons_append, List.nil_append] at N'
  rename_i oc1 oc2 dc1 dc2
  obtain ⟨u0, F2⟩ := fr_small [(Str.ofString "gdef", Value.ref x), (Str.ofString "glyph", Value.int gl tg)] F' (by kst_all)
  clear F'
  dsimp only
  refine cut (σ := Addr × Nat) F2 (fun c => (c.1, tupO (ks.map CE.ref).toArray c.2) :: (L' + 1 + 1, oc1) :: (L' + 1, oc2) :: (d, o) :: (x, instObj 144 dx) :: (dx, gDict w a1 a2 a3 a4 d t1 t2 t3 t4 t5) :: own) (fun c => [(Str.ofString "row", Value.ref c.1)]) (fun _ => True) ?_ ?_
  · intro E9
    rcases hrow with ⟨rfl, rfl⟩ | ⟨r, nr, rfl, ⟨rfl, rfl⟩ | ⟨rfl, hr⟩⟩
    · repeat' (first | (k_unfold; (try dsimp only)) | ((with_reducible show wpAny _ _ (call (Value.builtin "len") _) _ _ _); (k_here; (with_reducible show wpAny _ _ (call (Value.builtin "len") [Value.ref _]) _ _ _); k_dflt (refine' len_ks ?j1 ?j2 ?j3 ?_; (case j1 => k_asm); (case j2 => k_mem); (case j3 => assumption)); k_whole)) | walk1 | (dsimp only; walk1) | (leave1; (try dsimp only)) | fail "no step")
      exact ⟨rfl, at_intro ⟨_, _⟩ (by assumption) (by assumption) (by kst_inAny) (by kst_all) trivial⟩
    · repeat' (first | (k_unfold; (try dsimp only)) | ((with_reducible show wpAny _ _ (call (Value.builtin "len") _) _ _ _); (k_here; (with_reducible show wpAny _ _ (call (Value.builtin "len") [Value.ref _]) _ _ _); k_dflt (refine' len_ks ?j1 ?j2 ?j3 ?_; (case j1 => k_asm); (case j2 => k_mem); (case j3 => assumption)); k_whole)) | walk1 | (dsimp only; walk1) | (leave1; (try dsimp only)) | fail "no step")
      exact ⟨rfl, at_intro ⟨_, _⟩ (by assumption) (by assumption) (by kst_inAny) (by kst_all) trivial⟩
    · have N2 : News g' L' h' ((r, tupO (ks.map CE.ref).toArray nr) :: (L' + 1 + 1, oc1) :: (L' + 1, oc2) :: (d, o) :: (x, instObj 144 dx) :: (dx, gDict w a1 a2 a3 a4 d t1 t2 t3 t4 t5) :: own) := fun p hp => by
        rcases List.mem_cons.mp hp with rfl | hp
        · exact N' _ (.tail _ (.tail _ (.tail _ (.tail _ (.tail _ hr)))))
        · exact N' p hp
      clear N'
      repeat' (first | (k_unfold; (try dsimp only)) | ((with_reducible show wpAny _ _ (call (Value.builtin "len") _) _ _ _); (k_here; (with_reducible show wpAny _ _ (call (Value.builtin "len") [Value.ref _]) _ _ _); k_dflt (refine' len_ks ?j1 ?j2 ?j3 ?_; (case j1 => k_asm); (case j2 => k_mem); (case j3 => assumption)); k_whole)) | walk1 | (dsimp only; walk1) | (leave1; (try dsimp only)) | fail "no step")
      exact ⟨rfl, at_intro ⟨_, _⟩ (by assumption) (by assumption) (by kst_inAny) (by kst_all) trivial⟩
  rintro ⟨ra, nr⟩ u1 h1 tk1 F1 N1 -
  clear F2 N'
  dsimp only at F1 N1 ⊢
  refine cut (σ := Addr × List Value × List Int × Nat) F1 (fun c => (c.1, listOf c.2.1.toArray c.2.2.2) :: (ra, tupO (ks.map CE.ref).toArray nr) :: (L' + 1 + 1, oc1) :: (L' + 1, oc2) :: (d, o) :: (x, instObj 144 dx) :: (dx, gDict w a1 a2 a3 a4 d t1 t2 t3 t4 t5) :: own) (fun c => [(Str.ofString "row", Value.ref ra), (Str.ofString "stops", Value.ref c.1)]) (fun c => IntsAre c.2.1 c.2.2.1 ∧ c.2.2.1.Perm (atZ ks) ∧ c.2.2.1.Pairwise (· ≤ ·)) ?_ ?_
  · intro E9
    repeat' (first | (k_unfold; (try dsimp only)) | ((with_reducible show wpAny _ _ (call (Value.builtin "len") _) _ _ _); (k_here; (with_reducible show wpAny _ _ (call (Value.builtin "len") [Value.ref _]) _ _ _); k_dflt (refine' len_ks ?j1 ?j2 ?j3 ?_; (case j1 => k_asm); (case j2 => k_mem); (case j3 => assumption)); k_whole)) | ((fail_if_success (with_reducible show wpAny _ _ (eval (PySem.Expr.ListComp _ _ _ _) _) _ _ _)); walk1) | ((fail_if_success (with_reducible show wpAny _ _ (eval (PySem.Expr.ListComp _ _ _ _) _) _ _ _)); dsimp only; walk1) | (leave1; (try dsimp only)) | fail "no step")
    k_dflt (refine ListComp_Tup (F₀ := by k_asm) (by rfl) (by decide) (by rfl) (by decide) (by rfl) ?_ (by intro _; rfl))
    walk1
    with_unfolding_all refine ⟨ra, (ks.map CE.ref).toArray, nr, _, rfl, by rfl, by assumption, N1, List.mem_cons_self .., ?_, ?_⟩
    · rw [List.size_toArray, List.length_map]
      exact Nat.le_trans (by omega : _ ≤ 10) (by decide)
    rintro s₂ ⟨g, rfl⟩
    with_unfolding_all refine rest_stT (σ := List Value) (fun _ => (ra, tupO (ks.map CE.ref).toArray nr) :: (L' + 1 + 1, oc1) :: (L' + 1, oc2) :: (d, o) :: (x, instObj 144 dx) :: (dx, gDict w a1 a2 a3 a4 d t1 t2 t3 t4 t5) :: own) (fun c => c) (fun i c => IntsAre c (atZ (ks.take i))) (ks.map CE.ref).toArray.size ?turn ?fin (ks.map CE.ref).toArray.size 0 [] (Nat.zero_add _) .nil
    case turn =>
      rintro i ys v I oI C oC D m₂ h tk E' hi hv hok hC hx F N off hne
      (try dsimp only at F N off hok hv hi)
      obtain ⟨e, he, rfl, hem⟩ := ks_get hv
      have hent := hke e hem
      have hee : e.ent ∈ (I, oI) :: (C, oC) :: (D, LCg.lst ys) :: (ra, tupO (ks.map CE.ref).toArray nr) :: (L' + 1 + 1, oc1) :: (L' + 1, oc2) :: (d, o) :: (x, instObj 144 dx) :: (dx, gDict w a1 a2 a3 a4 d t1 t2 t3 t4 t5) :: own :=
        .tail _ (.tail _ (.tail _ (.tail _ (.tail _ (.tail _ (.tail _ (.tail _ (.tail _ hent))))))))
      clear hv
      repeat' (first | (k_unfold; (try dsimp only)) | ((with_reducible show wpAny _ _ (call (Value.builtin "len") _) _ _ _); (k_here; (with_reducible show wpAny _ _ (call (Value.builtin "len") [Value.ref _]) _ _ _); k_dflt (refine' len_ks ?j1 ?j2 ?j3 ?_; (case j1 => k_asm); (case j2 => k_mem); (case j3 => assumption)); k_whole)) | ((fail_if_success (with_reducible show wpAny _ _ (subscriptTail _ _ _ _) _ _ _)); walk1) | ((fail_if_success (with_reducible show wpAny _ _ (subscriptTail _ _ _ _) _ _ _)); dsimp only; walk1) | (leave1; (try dsimp only)) | fail "no step")
      k_dflt (refine' ent_zero ?j1 ?j2 ?_ ?j5; (case j1 => k_asm); (case j2 => exact hee); (case j5 => with_unfolding_all rfl))
      obtain ⟨ea, ekd, ez, etk, etz, en⟩ := e
      rcases hkk _ hem with rfl | rfl
      · (try dsimp only)
        repeat' (first | (k_unfold; (try dsimp only)) | ((with_reducible show wpAny _ _ (call (Value.builtin "len") _) _ _ _); (k_here; (with_reducible show wpAny _ _ (call (Value.builtin "len") [Value.ref _]) _ _ _); k_dflt (refine' len_ks ?j1 ?j2 ?j3 ?_; (case j1 => k_asm); (case j2 => k_mem); (case j3 => assumption)); k_whole)) | ((fail_if_success (with_reducible show wpAny _ _ (subscriptTail _ _ _ _) _ _ _)); walk1) | ((fail_if_success (with_reducible show wpAny _ _ (subscriptTail _ _ _ _) _ _ _)); dsimp only; walk1) | (leave1; (try dsimp only)) | fail "no step")
        k_dflt (refine' ent_one (e := ⟨ea, Str.ofString "at", ez, etk, etz, en⟩) ?j1 ?j2 ?_ ?j5; (case j1 => k_asm); (case j2 => exact hee); (case j5 => with_unfolding_all rfl))
        repeat (first | k_unfold | fail_if_success skip)
        exact elt_end (ys ++ [_]) (by assumption) (by assumption) (by (try dsimp only); kst_inAny) off (List.mem_cons_self ..) rfl (at_on he rfl hok)
      · (try dsimp only)
        repeat' (first | (k_unfold; (try dsimp only)) | ((with_reducible show wpAny _ _ (call (Value.builtin "len") _) _ _ _); (k_here; (with_reducible show wpAny _ _ (call (Value.builtin "len") [Value.ref _]) _ _ _); k_dflt (refine' len_ks ?j1 ?j2 ?j3 ?_; (case j1 => k_asm); (case j2 => k_mem); (case j3 => assumption)); k_whole)) | walk1 | (dsimp only; walk1) | (leave1; (try dsimp only)) | fail "no step")
        exact elt_skip ys (by assumption) (by assumption) (by (try dsimp only); kst_inAny) off (List.mem_cons_self ..) rfl (at_off he (show Str.ofString "point" ≠ Str.ofString "at" by decide) hok)
    case fin =>
      intro ys hys
      unfold LCg.FinE
      intro D9 h9 tk9 F9 N9 o9
      have hall : (ks.take (ks.map CE.ref).toArray.size) = ks := by rw [List.size_toArray, List.length_map, List.take_length]
      rw [hall] at hys
      have N9' : News g' L' h9 ((D9, listOf ys.toArray ys.length) :: (ra, tupO (ks.map CE.ref).toArray nr) :: (L' + 1 + 1, oc1) :: (L' + 1, oc2) :: (d, o) :: (x, instObj 144 dx) :: (dx, gDict w a1 a2 a3 a4 d t1 t2 t3 t4 t5) :: own) := N9
      clear N9
      dsimp only at o9 ⊢
      repeat' (first | (k_unfold; (try dsimp only)) | ((with_reducible show wpAny _ _ (call (Value.builtin "len") _) _ _ _); (k_here; (with_reducible show wpAny _ _ (call (Value.builtin "len") [Value.ref _]) _ _ _); k_dflt (refine' len_ks ?j1 ?j2 ?j3 ?_; (case j1 => k_asm); (case j2 => k_mem); (case j3 => assumption)); k_whole)) | ((fail_if_success (with_reducible show wpAny _ _ (call (Value.builtin "sorted") [Value.ref _]) _ _ _)); (first | walk1 | (dsimp only; walk1) | (leave1; (try dsimp only)))) | fail "no step")
      k_dflt (refine' kso_sorted ?j1 ?j2 ?j3 hys ?j5 ?_; (case j1 => k_asm); (case j2 => k_asm); (case j3 => exact News.isList N9' (List.mem_cons_self ..)); (case j5 => exact atZ_small hkl))
      intro D7 vs7 ns7 c7 h7 F7 N7 l7 i7 e7 p7 o7 b7
      clear e7 b7
      clear N9'
      repeat' (first | (k_unfold; (try dsimp only)) | ((with_reducible show wpAny _ _ (call (Value.builtin "len") _) _ _ _); (k_here; (with_reducible show wpAny _ _ (call (Value.builtin "len") [Value.ref _]) _ _ _); k_dflt (refine' len_ks ?j1 ?j2 ?j3 ?_; (case j1 => k_asm); (case j2 => k_mem); (case j3 => assumption)); k_whole)) | walk1 | (dsimp only; walk1) | (leave1; (try dsimp only)) | fail "no step")
      exact ⟨rfl, at_intro ⟨_, vs7, ns7, _⟩ (by assumption) (by assumption) (by kst_inAny) (by kst_all) ⟨i7, p7, o7⟩⟩
  rintro ⟨la, vs, ns, nl⟩ u2 h2 tk2 F3 N3 ⟨hI, hP, hO2⟩
  clear F1 N1
  dsimp only at F3 N3 hI hP hO2 ⊢
  have hnl : ns.length ≤ ks.length := by
    rw [hP.length_eq]
    unfold atZ
    rw [List.length_map]
    exact List.length_filter_le ..
  repeat' (first | (k_unfold; (try dsimp only)) | ((with_reducible show wpAny _ _ (call (Value.builtin "len") _) _ _ _); (k_here; (with_reducible show wpAny _ _ (call (Value.builtin "len") [Value.ref _]) _ _ _); k_dflt (refine' len_ks ?j1 ?j2 ?j3 ?_; (case j1 => k_asm); (case j2 => k_mem); (case j3 => assumption)); k_whole)) | walk1 | (dsimp only; walk1) | (leave1; (try dsimp only)) | fail "no step")
  · exact hret _ _ _ _ _ _ hI (stops_a (by assumption) (by assumption) hP hO2) (by assumption) (news_small _ (by assumption) (by kst_inAny))
  · exact hret _ _ _ _ _ _ (by assumption) (stops_b (by assumption) hP) (by assumption) (news_small _ (by assumption) (by kst_inAny))
  · exact hret _ _ _ _ _ _ (by assumption) (stops_c (by assumption)) (by assumption) (news_small _ (by assumption) (by kst_inAny))
end Nu
end
section
theorem Nu.freshNuUse2 : True := by
  w_top off
  first | (walk1; done) | trivial
open PySem PySem.W PyProof.Rows PySem.Calls PySem.Spec
namespace Nu
theorem gdef_use {w : World} {mg mb : Str → Option Value} {mean : ExcName → Option Value} {dp un : Nat} {gd : Option (List Code)} {cn : Str} {cs : Scope} {a : Addr} {ccd : Value} {cl : List (Str × Addr)} {outer : List Env} {A₀ : Around} {base h₀ : Heap} {L : Addr} {m : Str → Option Value} {s : Shared} {Q E : Value → Shared → Prop}
    {own : List (Addr × Obj)} (B : Below A₀ base outer h₀) (F : Fr h₀ L s.heap m) (X : (Nu.hd.heap_39 w.params).In h₀) (N : News h₀ L s.heap own) (T : Top Nu.hd.view_39 (looseW Nu.hd.view_39 [Str.ofString "FLAG_WORDS"]) mean mg mb h₀) (hk : cs.kind = .function) (hd : dp + 3 < recursionLimit) (hu : un + 300 < cLine)
    (hret : ∀ (x dx d a1 a2 a3 a4 : Addr) (o : Obj) (t1 t2 t3 t4 t5 : Tok) (h' : Heap) (tk' : Nat), Fr h₀ L h' m → News h₀ L h' ((d, o) :: (x, instObj 144 dx) :: (dx, gDict w a1 a2 a3 a4 d t1 t2 t3 t4 t5) :: own) → (∀ p ∈ own, @LT.lt Nat _ p.1 dx) → @LT.lt Nat _ dx x → @LT.lt Nat _ x d → (d == sysModules) = false → o.IsDictOf (intKind PySem.Challenge.rw_nu0152_01.row.prog w) [] → Q (.ref x) { s with heap := h', toks := tk' }) :
    wpAny (model PySem.Challenge.rw_nu0152_01.row.prog w) (ktrTop dp un gd cn cs L a ccd cl outer) (call (.ref 155) []) Q E s := by
  exact gdef_core w mg mb mean dp un gd cn cs a ccd cl outer A₀ base h₀ L m s Q E own B F X N T hk hd hu hret
theorem stops_use {w : World} {mg mb : Str → Option Value} {mean : ExcName → Option Value} {dp un : Nat} {gd : Option (List Code)} {cn : Str} {cs : Scope} {a : Addr} {ccd : Value} {cl : List (Str × Addr)} {outer : List Env} {A₀ : Around} {base h₀ : Heap} {L : Addr} {m : Str → Option Value} {s : Shared} {Q E : Value → Shared → Prop}
    {own : List (Addr × Obj)} {x dx d a1 a2 a3 a4 : Addr} {o : Obj} {t1 t2 t3 t4 t5 : Tok} {gl pt wd : Int} {tg tp tw : Tok} {ks : List CE} {kvs : List (Int × Value)} (B : Below A₀ base outer h₀) (F : Fr h₀ L s.heap m) (X : (Nu.hd.heap_39 w.params).In h₀) (N : News h₀ L s.heap own) (T : Top Nu.hd.view_39 (looseW Nu.hd.view_39 [Str.ofString "FLAG_WORDS"]) mean mg mb h₀) (hk : cs.kind = .function)
    (mx : (x, instObj 144 dx) ∈ own) (mg' : (dx, gDict w a1 a2 a3 a4 d t1 t2 t3 t4 t5) ∈ own) (md : (d, o) ∈ own) (hO : o.IsDictOf (intKind PySem.Challenge.rw_nu0152_01.row.prog w) kvs) (hds : (d == sysModules) = false) (hrow : RowIs ks own gl kvs) (hkl : ks.length ≤ 3) (hke : ∀ e ∈ ks, e.ent ∈ own) (hkk : ∀ e ∈ ks, e.kd = Str.ofString "at" ∨ e.kd = Str.ofString "point") (hgl : gl = 5 ∨ gl = 6) (hp0 : 1 ≤ pt) (hp1 : pt ≤ 4) (hw0 : -500 ≤ wd) (hw1 : wd ≤ 1500) (hd : dp + 3 < recursionLimit) (hu : un + 300 < cLine)
    (hret : ∀ (D : Addr) (vs : List Value) (ns : List Int) (n : Nat) (h' : Heap) (tk' : Nat), IntsAre vs ns → StopsR ks pt wd ns → Fr h₀ L h' m → News h₀ L h' ((D, listOf vs.toArray n) :: own) → Q (.ref D) { s with heap := h', toks := tk' }) :
    wpAny (model PySem.Challenge.rw_nu0152_01.row.prog w) (ktrTop dp un gd cn cs L a ccd cl outer) (call (.ref 160) [.ref x, .int gl tg, .int pt tp, .int wd tw]) Q E s := by
  refine stops_core w mg mb mean dp un gd cn cs a ccd cl outer A₀ base h₀ L m s Q E own x dx d a1 a2 a3 a4 o t1 t2 t3 t4 t5 gl pt wd tg tp tw ks kvs B F X ?_ T hk hO hds hrow hkl hke hkk hgl hp0 hp1 hw0 hw1 hd hu ?_
  · intro p hp
    rcases List.mem_cons.mp hp with rfl | hp
    · exact N _ md
    rcases List.mem_cons.mp hp with rfl | hp
    · exact N _ mx
    rcases List.mem_cons.mp hp with rfl | hp
    · exact N _ mg'
    · exact N _ hp
  · intro D vs ns n h' tk' hI hS F' N'
    refine hret D vs ns n h' tk' hI hS F' (fun p hp => N' p ?_)
    rcases List.mem_cons.mp hp with rfl | hp
    · exact .head _
    · exact .tail _ (.tail _ (.tail _ (.tail _ hp)))
theorem stopsR_same {ks : List CE} {pt wd : Int} {a b : List Int} (ha : StopsR ks pt wd a) (hb : StopsR ks pt wd b) : a = b := by
  rcases ha with ⟨h1, h2, hP, hO⟩ | ⟨h1, e⟩ <;> rcases hb with ⟨h1', h2', hP', hO'⟩ | ⟨h1', e'⟩
  · exact ksm_same (hP.trans hP'.symm) hO hO'
  · exact absurd ⟨h1, h2⟩ h1'
  · exact absurd ⟨h1', h2'⟩ h1
  · rw [e, e']
theorem stopsR_nil {pt wd : Int} {ns : List Int} (h : StopsR [] pt wd ns) : ns = evenOf pt wd := by
  rcases h with ⟨h1, -, hP, -⟩ | ⟨-, e⟩
  · have e0 : atZ [] = [] := rfl
    rw [e0] at hP
    have h3 : (0 : Int) = pt - 1 := h1
    have e1 : pt - 1 = 0 := by omega
    rw [List.perm_nil.mp hP]
    unfold evenOf
    rw [e1]
    rfl
  · exact e
/-- the carets that are told as points -/
noncomputable def ptsOf (ks : List CE) : List CE := ks.filter fun e => decide (e.kd = Str.ofString "point")
theorem at_len {ks : List CE} (hkk : ∀ e ∈ ks, e.kd = Str.ofString "at" ∨ e.kd = Str.ofString "point") : (atZ ks).length + (ptsOf ks).length = ks.length := by
  have hne : Str.ofString "point" ≠ Str.ofString "at" := by decide
  unfold atZ ptsOf
  rw [List.length_map]
  induction ks with
  | nil => rfl
  | cons e r ih =>
    have ih := ih fun e he => hkk e (.tail _ he)
    rcases hkk e (.head _) with h | h
    · rw [List.filter_cons_of_pos (by simpa using h), List.filter_cons_of_neg (by simpa [h] using hne.symm), List.length_cons, List.length_cons]
      omega
    · rw [List.filter_cons_of_neg (by simpa [h] using hne), List.filter_cons_of_pos (by simpa using h), List.length_cons, List.length_cons]
      omega
theorem at_all {ks : List CE} (hkk : ∀ e ∈ ks, e.kd = Str.ofString "at" ∨ e.kd = Str.ofString "point") (h : ptsOf ks = []) : atZ ks = ks.map CE.z := by
  unfold atZ ptsOf at *
  congr 1
  refine List.filter_eq_self.mpr fun e he => ?_
  have h1 := List.filter_eq_nil_iff.mp h e he
  rcases hkk e he with h2 | h2
  · simpa using h2
  · exact absurd (by simpa using h2) h1
theorem told_a {ks : List CE} {pt wd : Int} {ns : List Int} (hkk : ∀ e ∈ ks, e.kd = Str.ofString "at" ∨ e.kd = Str.ofString "point") (h1 : (ks.length : Int) = pt - 1) (h2 : ptsOf ks = []) (hP : ns.Perm (ks.map CE.z)) (hO : ns.Pairwise (· ≤ ·)) : StopsR ks pt wd ns := by
  have := at_len hkk
  rw [h2] at this
  exact .inl ⟨h1, by simpa using this, by rw [at_all hkk h2]; exact hP, hO⟩
theorem told_b {ks : List CE} {pt wd : Int} (h1 : (ks.length : Int) ≠ pt - 1) : StopsR ks pt wd (evenOf pt wd) := .inr ⟨fun h => h1 h.1, rfl⟩
theorem told_c {ks : List CE} {pt wd : Int} (hkk : ∀ e ∈ ks, e.kd = Str.ofString "at" ∨ e.kd = Str.ofString "point") (h2 : ptsOf ks ≠ []) : StopsR ks pt wd (evenOf pt wd) := by
  refine .inr ⟨fun h => ?_, rfl⟩
  have := at_len hkk
  have h3 : (ptsOf ks).length ≠ 0 := fun e => h2 (List.length_eq_zero_iff.mp e)
  omega
noncomputable def ptD (e : CE) : PyData := .tuple [.str e.kd, .int e.z]
theorem kd_ok {e : CE} (h : e.kd = Str.ofString "at" ∨ e.kd = Str.ofString "point") : PyData.strOk e.kd = true := by
  rcases h with h | h <;> (rw [h]; decide +kernel)
theorem reads_pts {h₀ h : Heap} {L : Addr} {news : List (Addr × Obj)} (N : News h₀ L h news) : ∀ {ps : List CE}, (∀ e ∈ ps, e.ent ∈ news) → ReadsAll h (ps.map CE.ref) (ps.map ptD) []
  | [], _ => .nil
  | e :: r, hm => ReadsAll.cons (as := []) (bs := []) (Reads.tuple (N _ (hm e (.head _))).1 rfl rfl ((CarriedAll.cons (.str _ _) (.cons (.int _ _) .nil)).reads _)) (reads_pts N fun e he => hm e (.tail _ he))
theorem canLay_pts : ∀ {ps : List CE}, (∀ e ∈ ps, e.kd = Str.ofString "at" ∨ e.kd = Str.ofString "point") → PyData.canLayAll0 (ps.map ptD) = true
  | [], _ => by simp [PyData.canLayAll0]
  | e :: r, hk => by simp [ptD, PyData.canLayAll0, PyData.canLay0, kd_ok (hk e (.head _)), canLay_pts (ps := r) fun e he => hk e (.tail _ he)]
theorem depth_pts : ∀ ps : List CE, PyData.depthAll (ps.map ptD) ≤ 1
  | [] => by simp [PyData.depthAll]
  | e :: r => by
    have := depth_pts r
    simp only [List.map_cons, ptD, PyData.depthAll, PyData.depth]
    omega
theorem shaped_pts {ps : List CE} (hk : ∀ e ∈ ps, e.kd = Str.ofString "at" ∨ e.kd = Str.ofString "point") : SeqAt.shaped (.list (ps.map ptD)) = true := by
  have h1 := depth_pts ps
  have h2 : PyData.depth (.list (ps.map ptD)) ≤ 64 := by simp only [PyData.depth]; omega
  show (PyData.canLay0 (.list (ps.map ptD)) && decide (PyData.depth (.list (ps.map ptD)) ≤ 64)) = true
  rw [Bool.and_eq_true]
  exact ⟨by simp only [PyData.canLay0]; exact canLay_pts hk, decide_eq_true h2⟩
section
variable {prog : Program} {w : World} {A : Around} {E Q : Value → Shared → Prop} {s : Shared} {h₀ : Heap} {L a b : Addr} {news : List (Addr × Obj)} {ps : List CE} {n k : Nat}
theorem ne_pts (N : News h₀ L s.heap news) (ha : (a, listOf (ps.map CE.ref).toArray n) ∈ news) (hb : (b, listOf #[] k) ∈ news) (hm : ∀ e ∈ ps, e.ent ∈ news) (hk : ∀ e ∈ ps, e.kd = Str.ofString "at" ∨ e.kd = Str.ofString "point") (hu : A.units + 64 < cLine)
    (h0 : ps = [] → Q (.bool false) s) (h1 : ps ≠ [] → Q (.bool true) s) : wpAny (model prog w) A (compareOp .NotEq (.ref a) (.ref b)) Q E s := by
  refine ne_dataH_same (da := .list (ps.map ptD)) (db := .list []) (Reads.list (N _ ha).1 rfl rfl (reads_pts N hm)) (Reads.list (N _ hb).1 rfl rfl ReadsAll.nil) (shaped_pts hk) (by decide +kernel) hu ?_ ?_
  · cases ps <;> simp [SeqAt.noMix, SeqAt.noMixAll]
  · cases ps with
    | nil => simpa [PySem.Spec.same, PySem.Spec.sameAll] using h0 rfl
    | cons e r => simpa [PySem.Spec.same, PySem.Spec.sameAll] using h1 (List.cons_ne_nil _ _)
end
theorem z_next {ks : List CE} {i : Nat} {e : CE} {ys : List Value} {t : Tok} (he : ks[i]? = some e) (h : IntsAre ys ((ks.take i).map CE.z)) : IntsAre (ys ++ [.int e.z t]) ((ks.take (i + 1)).map CE.z) := by
  rw [List.take_add_one, he, List.map_append]
  exact IntsAre.append h (.cons _ _ .nil)
theorem pt_on {ks : List CE} {i : Nat} {e : CE} {ys : List Value} (he : ks[i]? = some e) (hk : e.kd = Str.ofString "point") (h : ys = (ptsOf (ks.take i)).map CE.ref) : ys ++ [.ref e.addr] = (ptsOf (ks.take (i + 1))).map CE.ref := by
  have : ptsOf (ks.take (i + 1)) = ptsOf (ks.take i) ++ [e] := by
    unfold ptsOf
    rw [List.take_add_one, he]
    simp [hk]
  rw [this, h, List.map_append]
  rfl
theorem pt_off {ks : List CE} {i : Nat} {e : CE} {ys : List Value} (he : ks[i]? = some e) (hk : e.kd ≠ Str.ofString "point") (h : ys = (ptsOf (ks.take i)).map CE.ref) : ys = (ptsOf (ks.take (i + 1))).map CE.ref := by
  have : ptsOf (ks.take (i + 1)) = ptsOf (ks.take i) := by
    unfold ptsOf
    rw [List.take_add_one, he]
    simp [hk]
  rw [this, h]
end Nu
end
section
theorem Nu.freshNuLess : True := by
  w_top off
  first | (walk1; done) | trivial
open PySem PySem.W PyProof.Rows PySem.Calls PySem.Spec
namespace Nu
/-- the way on is walked for any word that the asked one gives: smaller terms -/
theorem gen_Q {α : Type} {M : Model} {A : Around} {t : Sem α} {E : Value → Shared → Prop} {s : Shared} {Q : α → Shared → Prop} (h : ∀ Q' : α → Shared → Prop, (∀ v s', Q v s' → Q' v s') → wpAny M A t Q' E s) : wpAny M A t Q E s := h Q fun _ _ q => q
theorem gen_QE {α : Type} {M : Model} {A : Around} {t : Sem α} {E : Value → Shared → Prop} {s : Shared} {Q : α → Shared → Prop} (h : ∀ Q' : α → Shared → Prop, (∀ v s', Q v s' → Q' v s') → wpAny M A t Q' (fun _ _ => False) s) : wpAny M A t Q E s := wpAny_noRaise (h Q fun _ _ q => q)
theorem ne_lt {a b : Nat} (h : a < b) : a ≠ b := Nat.ne_of_lt h
theorem ne_gt {a b : Nat} (h : b < a) : a ≠ b := Nat.ne_of_gt h
theorem sz_a (n : Nat) : n + 1 ≠ n + 1 + 1 := Nat.ne_of_lt (Nat.lt_succ_self _)
theorem sz_b (n : Nat) : n + 1 ≠ n + 1 + 1 + 1 := Nat.ne_of_lt (Nat.lt_succ_of_lt (Nat.lt_succ_self _))
theorem sz_c (n : Nat) : n + 1 + 1 ≠ n + 1 := (sz_a n).symm
theorem sz_d (n : Nat) : n + 1 + 1 + 1 ≠ n + 1 := (sz_b n).symm
theorem le3_10 {n : Nat} (h : n ≤ 3) : n ≤ 10 := Nat.le_trans h (by decide)
theorem le3_64 {n : Nat} (h : n ≤ 3) : n < 64 := Nat.lt_of_le_of_lt h (by decide)
theorem le3_size {n : Nat} (h : n ≤ 3) : n ≤ sizeLine := Nat.le_trans (le3_10 h) (by decide)
theorem int3 {n : Int} (h0 : 0 ≤ n) (h : n < 4) : n = 0 ∨ n = 1 ∨ n = 2 ∨ n = 3 := by omega
theorem int4 {n : Int} (h0 : 0 ≤ n) (h : n < 5) : n = 0 ∨ n = 1 ∨ n = 2 ∨ n = 3 ∨ n = 4 := by omega
theorem nat3 {n : Int} {k : Nat} (h : n < 4) (e : k = n.toNat) : k ≤ 3 := by omega
theorem under3 {n : Int} {k : Nat} (h : n < 4) (hi : k < n.toNat) : (k : Int) < 3 := by omega
theorem under4 {n : Int} {k : Nat} (h : n < 5) (hi : k < n.toNat) : (k : Int) < 4 := by omega
theorem le4_10 {n : Int} (h : n < 5) : n.toNat ≤ 10 := by omega
theorem eq3 {i k : Nat} (e : k = i) (h : (i : Int) < 3) : k ≤ 3 := by omega
theorem off_gt {a b c : Nat} (h : a ≤ b) (h1 : b < c) (q : c = a) : False := Nat.ne_of_gt (Nat.lt_of_le_of_lt h h1) q
theorem cj0 {p r : Prop} (h : p ∧ r) : p := h.1
theorem cj1 {x0 p r : Prop} (h : x0 ∧ p ∧ r) : p := h.2.1
theorem cj2 {x0 x1 p r : Prop} (h : x0 ∧ x1 ∧ p ∧ r) : p := h.2.2.1
theorem cj3 {x0 x1 x2 p r : Prop} (h : x0 ∧ x1 ∧ x2 ∧ p ∧ r) : p := h.2.2.2.1
theorem cj4 {x0 x1 x2 x3 p r : Prop} (h : x0 ∧ x1 ∧ x2 ∧ x3 ∧ p ∧ r) : p := h.2.2.2.2.1
theorem cj5 {x0 x1 x2 x3 x4 p r : Prop} (h : x0 ∧ x1 ∧ x2 ∧ x3 ∧ x4 ∧ p ∧ r) : p := h.2.2.2.2.2.1
theorem cj6 {x0 x1 x2 x3 x4 x5 p r : Prop} (h : x0 ∧ x1 ∧ x2 ∧ x3 ∧ x4 ∧ x5 ∧ p ∧ r) : p := h.2.2.2.2.2.2.1
theorem cj7 {x0 x1 x2 x3 x4 x5 x6 p r : Prop} (h : x0 ∧ x1 ∧ x2 ∧ x3 ∧ x4 ∧ x5 ∧ x6 ∧ p ∧ r) : p := h.2.2.2.2.2.2.2.1
theorem cj8 {x0 x1 x2 x3 x4 x5 x6 x7 p r : Prop} (h : x0 ∧ x1 ∧ x2 ∧ x3 ∧ x4 ∧ x5 ∧ x6 ∧ x7 ∧ p ∧ r) : p := h.2.2.2.2.2.2.2.2.1
theorem cj9 {x0 x1 x2 x3 x4 x5 x6 x7 x8 p r : Prop} (h : x0 ∧ x1 ∧ x2 ∧ x3 ∧ x4 ∧ x5 ∧ x6 ∧ x7 ∧ x8 ∧ p ∧ r) : p := h.2.2.2.2.2.2.2.2.2.1
theorem cj10 {x0 x1 x2 x3 x4 x5 x6 x7 x8 x9 p r : Prop} (h : x0 ∧ x1 ∧ x2 ∧ x3 ∧ x4 ∧ x5 ∧ x6 ∧ x7 ∧ x8 ∧ x9 ∧ p ∧ r) : p := h.2.2.2.2.2.2.2.2.2.2.1
theorem ck2 {a b p : Prop} (h : a ∧ b ∧ p) : p := h.2.2
end Nu
end
section
theorem Nu.freshNuMain : True := by
  w_top off
  first | (walk1; done) | trivial
open PySem PySem.W PyProof.Rows PySem.Calls PySem.Spec
namespace Nu
local macro_rules | `(tactic| walk_at "cj") => `(tactic| (first | assumption | exact cj0 (by assumption) | exact cj1 (by assumption) | exact cj2 (by assumption) | exact cj3 (by assumption) | exact cj4 (by assumption) | exact cj5 (by assumption) | exact cj6 (by assumption) | exact cj7 (by assumption) | exact cj8 (by assumption) | exact cj9 (by assumption) | exact cj10 (by assumption) | exact ck2 (by assumption)))
local macro_rules | `(tactic| k_ne) => `(tactic| (refine neN ?_; (try dsimp only); first | walk_at "cj" | (refine ne_lt ?_; walk_at "cj") | (refine ne_gt ?_; walk_at "cj") | (refine Ne.symm ?_; walk_at "cj") | exact sz_a _ | exact sz_b _ | exact sz_c _ | exact sz_d _))
local macro_rules | `(tactic| k_all) => `(tactic| exact OwnOff.ne (by assumption) (by simp))
structure Tape where
  cells : Addr
  tape : Addr
  vs : List Value
  ns : List Int
  nt : Nat
  nc : Nat
  pl : Int
  t0 : Tok
  oT : Obj
noncomputable abbrev Tape.obj (c : Tape) : Obj := listOf #[.ref c.cells, .int c.pl c.t0] c.nt
noncomputable abbrev Tape.cellsObj (c : Tape) : Obj := listOf c.vs.toArray c.nc
structure Tape.Ok (L : Addr) (k : Int) (c : Tape) : Prop where
  lt : @LT.lt Nat _ c.cells c.tape
  isInts : IntsAre c.vs c.ns
  pos : 0 < c.ns.length
  le : c.ns.length ≤ 40
  cell : c.oT.data = .cell (some (.ref c.tape))
  low : 0 ≤ c.pl
  high : c.pl ≤ k
  above : @LT.lt Nat _ (L + 1 + 1 + 1) c.cells ∧ @LT.lt Nat _ (L + 1 + 1) c.cells ∧ @LT.lt Nat _ (L + 1) c.cells
structure GS where
  x : Addr
  dx : Addr
  d : Addr
  a1 : Addr
  a2 : Addr
  a3 : Addr
  a4 : Addr
  o : Obj
  t1 : Tok
  t2 : Tok
  t3 : Tok
  t4 : Tok
  t5 : Tok
theorem main : PySem.Challenge.rw_nu0152_01.Holds := Nu.hd (by
  k_go0
  rename Fr _ _ _ _ => lF
  rename News _ _ _ _ => lN
  rename Heap.IsList _ _ _ => lL
  rename IntsAre _ _ => lI
  rename Below _ _ _ _ => lB
  rename Shared => s1
  rename World => w0
  rename Frag.In _ _ => lX
  obtain ⟨u0, lF2⟩ := fr_small [(Str.ofString "script", Value.ref _)] lF (by kst_all)
  clear lF
  dsimp only
  have hMk := kstMark
  rename_i hh tk o3 o2 o1 d3 d2 d1 X0
  clear X0
  obtain ⟨v3, d3⟩ : ∃ v, o3.data = .cell v := ⟨_, d3⟩
  obtain ⟨v2, d2⟩ : ∃ v, o2.data = .cell v := ⟨_, d2⟩
  obtain ⟨v1, d1⟩ : ∃ v, o1.data = .cell v := ⟨_, d1⟩
  refine gen_QE fun Q0 hQ0 => ?_
  refine cut (σ := Tape) lF2 (fun c => [(c.tape, c.obj), (c.cells, c.cellsObj), (s1.heap.objs.size + 1, c.oT), (s1.heap.objs.size + 1 + 1, o2), (s1.heap.objs.size + 1 + 1 + 1, o3)]) (fun _ => []) (Tape.Ok s1.heap.objs.size 0) ?_ ?_
  · intro E9
    refine gen_Q fun Q9 hQ9 => ?_
    repeat' (first | (k_unfold; (try dsimp only)) | ((with_reducible show wpAny _ _ (call (Value.builtin "len") _) _ _ _); (k_here; (with_reducible show wpAny _ _ (call (Value.builtin "len") [Value.ref _]) _ _ _); k_dflt (refine' len_kl ?zzj1 ?zzj2 ?zzj3 ?_; (case zzj1 => k_asm); (case zzj2 => k_mem); (case zzj3 => assumption)); k_whole)) | ((with_reducible show wpAny _ _ (call (Value.type _) _) _ _ _); (k_here; (with_reducible show wpAny _ _ (call (Value.type _) [Value.ref _]) _ _ _); k_dflt (refine' kde_tupleOf ?zzk1 ?zzk2 ?zzk3 ?zzk4 ?zzk5 ?_; (case zzk1 => k_asm); (case zzk2 => k_asm); (case zzk3 => exact News.isList (by k_asm) (by k_mem)); (case zzk4 => (rw [List.size_toArray, List.length_map]; exact Nat.le_trans (by assumption : _ ≤ 3) (by decide))); (case zzk5 => exact List.toList_toArray ..); k_whole); intro D' h' F' N' l1; (try k_lt l1); (try k_sweep))) | ((with_reducible show wpAny _ _ (call (Value.ref _) _) _ _ _); (k_here; (k_dflt (refine' gdef_use ?zzk1 ?zzk2 ?zzk3 ?zzk4 ?zzk5 ?zzk6 ?zzk14 ?zzk15 ?_; (case zzk1 => k_asm); (case zzk2 => k_asm); (case zzk3 => k_asm); (case zzk4 => k_asm); (case zzk5 => k_asm); (case zzk6 => first | exact rfl | assumption); (case zzk14 => ktr_room); (case zzk15 => ktr_units); k_whole)); intro x9 dx9 d9 a1 a2 a3 a4 o9 t1 t2 t3 t4 t5 h9 tk9 F9 N9 lo9 lx9 ld9 ds9 i9; (try dsimp only); (try k_fold); (try k_sweep))) | ((with_reducible show wpAny _ _ (compareOp .NotEq (Value.ref _) (Value.ref _)) _ _ _); (k_here; first | (k_dflt (refine' ne_words ?zzN ?zza ?zzb ?zzsa ?zzsb ?zzp0 ?zzp1 ?zzp2 ?zzp3 ?zzhu ?_; (case zzN => k_asm); (case zza => k_mem); (case zzb => k_mem); (case zzsa => assumption); (case zzsb => assumption); (case zzp0 => assumption); (case zzp1 => assumption); (case zzp2 => assumption); (case zzp3 => assumption); (case zzhu => ktr_units)); (try dsimp only); (try k_fold)) | (k_dflt (refine' ne_pair ?zzN ?zza ?zzb ?zze1 ?zze2 ?zzhu ?_; (case zzN => k_asm); (case zza => k_mem); (case zzb => k_mem); (case zze1 => (first | exact pair_a (by assumption) (by assumption) | exact pair_b (by assumption) (by assumption) | exact pair_c (by assumption) (by assumption) (by assumption) | exact pair_d (by assumption) (by assumption) (by assumption))); (case zze2 => (first | exact pair_a (by assumption) (by assumption) | exact pair_b (by assumption) (by assumption) | exact pair_c (by assumption) (by assumption) (by assumption) | exact pair_d (by assumption) (by assumption) (by assumption))); (case zzhu => ktr_units)); (try dsimp only); (try k_fold)))) | ((with_reducible show wpAny _ _ (call (Value.type _) _) _ _ _); (k_here; (with_reducible show wpAny _ _ (call (Value.type _) [Value.ref _]) _ _ _); k_dflt (refine' kup_listOfT ?zzF ?zzN ?zzb ?zze ?_ ?zzz; (case zzF => k_asm); (case zzN => k_asm); (case zzb => k_mem); (case zze => exact List.toList_toArray ..); (case zzz => exact strs_size (by assumption))); intro D' c' h' F' N' l1; (try k_lt l1); (try k_sweep))) | ((with_reducible show wpAny _ _ (call (Value.ref _) _) _ _ _); (k_here; first | (k_dflt (refine' draw_use ?zzk1 ?zzk2 ?zzk3 ?zzk4 ?zzk5 ?zzk6 ?zzkD ?zzkc ?zzk7 ?zzk8 ?zzk9 ?zzk10 ?zzk11 ?zzk12 ?zzk13 ?zzk14 ?zzk15 ?_; (case zzk1 => k_asm); (case zzk2 => k_asm); (case zzk3 => k_asm); (case zzk4 => k_asm); (case zzk5 => k_asm); (case zzk6 => first | exact rfl | assumption); (case zzkD => (first | exact Del.head (by repeat' (first | exact List.forall_mem_nil _ | exact OwnOff.ne (by assumption) (by simp) | refine List.forall_mem_cons.mpr ⟨by k_ne, ?_⟩)) | exact Del.tail (by k_ne) (by first | exact Del.head (by repeat' (first | exact List.forall_mem_nil _ | exact OwnOff.ne (by assumption) (by simp) | refine List.forall_mem_cons.mpr ⟨by k_ne, ?_⟩)) | exact Del.tail (by k_ne) (by first | exact Del.head (by repeat' (first | exact List.forall_mem_nil _ | exact OwnOff.ne (by assumption) (by simp) | refine List.forall_mem_cons.mpr ⟨by k_ne, ?_⟩)) | exact Del.tail (by k_ne) (by first | exact Del.head (by repeat' (first | exact List.forall_mem_nil _ | exact OwnOff.ne (by assumption) (by simp) | refine List.forall_mem_cons.mpr ⟨by k_ne, ?_⟩)) | exact Del.tail (by k_ne) (by first | exact Del.head (by repeat' (first | exact List.forall_mem_nil _ | exact OwnOff.ne (by assumption) (by simp) | refine List.forall_mem_cons.mpr ⟨by k_ne, ?_⟩)) | exact Del.tail (by k_ne) (by first | exact Del.head (by repeat' (first | exact List.forall_mem_nil _ | exact OwnOff.ne (by assumption) (by simp) | refine List.forall_mem_cons.mpr ⟨by k_ne, ?_⟩)) | exact Del.tail (by k_ne) (by first | exact Del.head (by repeat' (first | exact List.forall_mem_nil _ | exact OwnOff.ne (by assumption) (by simp) | refine List.forall_mem_cons.mpr ⟨by k_ne, ?_⟩)) | exact Del.tail (by k_ne) (by first | exact Del.head (by repeat' (first | exact List.forall_mem_nil _ | exact OwnOff.ne (by assumption) (by simp) | refine List.forall_mem_cons.mpr ⟨by k_ne, ?_⟩)) | exact Del.tail (by k_ne) (by first | exact Del.head (by repeat' (first | exact List.forall_mem_nil _ | exact OwnOff.ne (by assumption) (by simp) | refine List.forall_mem_cons.mpr ⟨by k_ne, ?_⟩)) | exact Del.tail (by k_ne) (by exact Del.head (by repeat' (first | exact List.forall_mem_nil _ | exact OwnOff.ne (by assumption) (by simp) | refine List.forall_mem_cons.mpr ⟨by k_ne, ?_⟩))))))))))))); (case zzkc => k_mem); (case zzk7 => omega); (case zzk8 => assumption); (case zzk9 => assumption); (case zzk10 => assumption); (case zzk11 => omega); (case zzk12 => omega); (case zzk13 => decide); (case zzk14 => ktr_room); (case zzk15 => ktr_units); k_whole); intro r9 t9 t8 h9 tk9 n9 r0 r1 F9 N9; (try dsimp only); (try k_fold); (try k_sweep)) | (k_dflt (refine' words_use ?zzk1 ?zzk2 ?zzk3 ?zzk4 ?zzk5 ?zzk6 ?zzk7 ?zzk8 ?zzk9 ?zzk10 ?zzk14 ?zzk15 ?_; (case zzk1 => k_asm); (case zzk2 => k_asm); (case zzk3 => k_asm); (case zzk4 => k_asm); (case zzk5 => k_asm); (case zzk6 => first | exact rfl | assumption); (case zzk7 => assumption); (case zzk8 => assumption); (case zzk9 => assumption); (case zzk10 => assumption); (case zzk14 => ktr_room); (case zzk15 => ktr_units); k_whole); intro vs9 h9 tk9 n9 D9 S9 F9 N9 lo9; (try k_lt lo9); (try dsimp only); (try k_fold); (try k_sweep)) | (k_dflt (refine' lw_use ?zzk1 ?zzk2 ?zzk3 ?zzk4 ?zzk5 ?zzk6 ?zzk7 ?zzk8 ?zzk9 ?zzk10 ?zzk14 ?zzk15 ?_; (case zzk1 => k_asm); (case zzk2 => k_asm); (case zzk3 => k_asm); (case zzk4 => k_asm); (case zzk5 => k_asm); (case zzk6 => first | exact rfl | assumption); (case zzk7 => assumption); (case zzk8 => assumption); (case zzk9 => assumption); (case zzk10 => assumption); (case zzk14 => ktr_room); (case zzk15 => ktr_units); k_whole); intro vs9 h9 tk9 n9 D9 S9 F9 N9 lo9; (try k_lt lo9); (try dsimp only); (try k_fold); (try k_sweep)) | (k_dflt (refine' flag_use ?zzk1 ?zzk2 ?zzk3 ?zzk4 ?zzk5 ?zzk6 ?zzkl ?zzkO ?zzkS ?zzkh ?zzk14 ?zzk15 ?_; (case zzk1 => k_asm); (case zzk2 => k_asm); (case zzk3 => k_asm); (case zzk4 => k_asm); (case zzk5 => k_asm); (case zzk6 => first | exact rfl | assumption); (case zzkl => k_mem); (case zzkO => (first | exact ⟨_, .inl rfl⟩ | exact ⟨_, .inr rfl⟩)); (case zzkS => first | assumption | exact strs_rev (by assumption)); (case zzkh => first | assumption | exact ok_of_txt (by assumption)); (case zzk14 => ktr_room); (case zzk15 => ktr_units); k_whole); intro v1 v2 t9 t8 h9 tk9 n9 D9 e9 F9 N9 lo9; (try k_lt lo9); (try dsimp only); (try k_fold); (try k_sweep)) | (k_dflt (refine' read_use ?zzk1 ?zzk2 ?zzk3 ?zzk4 ?zzk5 ?zzk6 ?zzkl ?zzkh ?zzk14 ?zzk15 ?_; (case zzk1 => k_asm); (case zzk2 => k_asm); (case zzk3 => k_asm); (case zzk4 => k_asm); (case zzk5 => k_asm); (case zzk6 => first | exact rfl | assumption); (case zzkl => k_mem); (case zzkh => assumption); (case zzk14 => ktr_room); (case zzk15 => ktr_units); k_whole); intro v1 v2 t9 t8 h9 tk9 n9 D9 e9 F9 N9 lo9; (try k_lt lo9); (try dsimp only); (try k_fold); (try k_sweep)))) | walk1 | (dsimp only; walk1) | (leave1; (try dsimp only)) | fail "no step")
    · rename IntsAre _ (List.take 40 _) => hI
      refine hQ9 _ _ ⟨rfl, at_intro ⟨_, _, _, _, _, _, _, _, _⟩ (by assumption) (by assumption) (List.forall_mem_cons.mpr ⟨.head _, List.forall_mem_cons.mpr ⟨.tail _ (.head _), List.forall_mem_cons.mpr ⟨.tail _ (.tail _ (.tail _ (.tail _ (.tail _ (.head _))))), List.forall_mem_cons.mpr ⟨.tail _ (.tail _ (.tail _ (.tail _ (.head _)))), List.forall_mem_cons.mpr ⟨.tail _ (.tail _ (.tail _ (.head _))), List.forall_mem_nil _⟩⟩⟩⟩⟩) (List.forall_mem_nil _) ⟨?_, hI, ?_, ?_, by assumption, Int.le_refl _, Int.le_refl _, ?_⟩⟩
      · dsimp only; omega
      · assumption
      · simp only [List.length_take] at *; omega
      · dsimp only; omega
    · have hI : IntsAre [Value.int 0 (tk + 1 + 1 + 1)] [0] := IntsAre.cons _ _ IntsAre.nil
      refine hQ9 _ _ ⟨rfl, at_intro ⟨_, _, _, _, _, _, _, _, _⟩ (by assumption) (by assumption) (List.forall_mem_cons.mpr ⟨.head _, List.forall_mem_cons.mpr ⟨.tail _ (.head _), List.forall_mem_cons.mpr ⟨.tail _ (.tail _ (.tail _ (.tail _ (.tail _ (.tail _ (.head _)))))), List.forall_mem_cons.mpr ⟨.tail _ (.tail _ (.tail _ (.tail _ (.tail _ (.head _))))), List.forall_mem_cons.mpr ⟨.tail _ (.tail _ (.tail _ (.tail _ (.head _)))), List.forall_mem_nil _⟩⟩⟩⟩⟩) (List.forall_mem_nil _) ⟨?_, hI, ?_, ?_, by assumption, Int.le_refl _, Int.le_refl _, ?_⟩⟩
      · dsimp only; omega
      · (dsimp only; exact Nat.le_of_ble_eq_true rfl)
      · (dsimp only; exact Nat.le_of_ble_eq_true rfl)
      · dsimp only; omega
  rintro ⟨cells, tape, vs, ns, nt, nc, pl, t0, oT⟩ u1 h1 tk1 F1 N1 ⟨hlt, hI, hn0, hn, d1', hp0, hp1, ⟨ha3, ha2, ha1⟩⟩
  clear lF2 lN
  dsimp only [Tape.obj, Tape.cellsObj] at *
  have ht1 : @LT.lt Nat _ (s1.heap.objs.size + 1) tape := Nat.lt_trans ha1 hlt
  have ht2 : @LT.lt Nat _ (s1.heap.objs.size + 1 + 1) tape := Nat.lt_trans ha2 hlt
  have ht3 : @LT.lt Nat _ (s1.heap.objs.size + 1 + 1 + 1) tape := Nat.lt_trans ha3 hlt
  repeat' (first | (k_unfold; (try dsimp only)) | ((with_reducible show wpAny _ _ (call (Value.builtin "len") _) _ _ _); (k_here; (with_reducible show wpAny _ _ (call (Value.builtin "len") [Value.ref _]) _ _ _); k_dflt (refine' len_kl ?zzj1 ?zzj2 ?zzj3 ?_; (case zzj1 => k_asm); (case zzj2 => k_mem); (case zzj3 => assumption)); k_whole)) | ((with_reducible show wpAny _ _ (call (Value.type _) _) _ _ _); (k_here; (with_reducible show wpAny _ _ (call (Value.type _) [Value.ref _]) _ _ _); k_dflt (refine' kde_tupleOf ?zzk1 ?zzk2 ?zzk3 ?zzk4 ?zzk5 ?_; (case zzk1 => k_asm); (case zzk2 => k_asm); (case zzk3 => exact News.isList (by k_asm) (by k_mem)); (case zzk4 => (rw [List.size_toArray, List.length_map]; exact Nat.le_trans (by assumption : _ ≤ 3) (by decide))); (case zzk5 => exact List.toList_toArray ..); k_whole); intro D' h' F' N' l1; (try k_lt l1); (try k_sweep))) | ((with_reducible show wpAny _ _ (call (Value.ref _) _) _ _ _); (k_here; (k_dflt (refine' gdef_use ?zzk1 ?zzk2 ?zzk3 ?zzk4 ?zzk5 ?zzk6 ?zzk14 ?zzk15 ?_; (case zzk1 => k_asm); (case zzk2 => k_asm); (case zzk3 => k_asm); (case zzk4 => k_asm); (case zzk5 => k_asm); (case zzk6 => first | exact rfl | assumption); (case zzk14 => ktr_room); (case zzk15 => ktr_units); k_whole)); intro x9 dx9 d9 a1 a2 a3 a4 o9 t1 t2 t3 t4 t5 h9 tk9 F9 N9 lo9 lx9 ld9 ds9 i9; (try dsimp only); (try k_fold); (try k_sweep))) | ((with_reducible show wpAny _ _ (compareOp .NotEq (Value.ref _) (Value.ref _)) _ _ _); (k_here; first | (k_dflt (refine' ne_words ?zzN ?zza ?zzb ?zzsa ?zzsb ?zzp0 ?zzp1 ?zzp2 ?zzp3 ?zzhu ?_; (case zzN => k_asm); (case zza => k_mem); (case zzb => k_mem); (case zzsa => assumption); (case zzsb => assumption); (case zzp0 => assumption); (case zzp1 => assumption); (case zzp2 => assumption); (case zzp3 => assumption); (case zzhu => ktr_units)); (try dsimp only); (try k_fold)) | (k_dflt (refine' ne_pair ?zzN ?zza ?zzb ?zze1 ?zze2 ?zzhu ?_; (case zzN => k_asm); (case zza => k_mem); (case zzb => k_mem); (case zze1 => (first | exact pair_a (by assumption) (by assumption) | exact pair_b (by assumption) (by assumption) | exact pair_c (by assumption) (by assumption) (by assumption) | exact pair_d (by assumption) (by assumption) (by assumption))); (case zze2 => (first | exact pair_a (by assumption) (by assumption) | exact pair_b (by assumption) (by assumption) | exact pair_c (by assumption) (by assumption) (by assumption) | exact pair_d (by assumption) (by assumption) (by assumption))); (case zzhu => ktr_units)); (try dsimp only); (try k_fold)))) | ((with_reducible show wpAny _ _ (call (Value.type _) _) _ _ _); (k_here; (with_reducible show wpAny _ _ (call (Value.type _) [Value.ref _]) _ _ _); k_dflt (refine' kup_listOfT ?zzF ?zzN ?zzb ?zze ?_ ?zzz; (case zzF => k_asm); (case zzN => k_asm); (case zzb => k_mem); (case zze => exact List.toList_toArray ..); (case zzz => exact strs_size (by assumption))); intro D' c' h' F' N' l1; (try k_lt l1); (try k_sweep))) | ((with_reducible show wpAny _ _ (call (Value.ref _) _) _ _ _); (k_here; first | (k_dflt (refine' draw_use ?zzk1 ?zzk2 ?zzk3 ?zzk4 ?zzk5 ?zzk6 ?zzkD ?zzkc ?zzk7 ?zzk8 ?zzk9 ?zzk10 ?zzk11 ?zzk12 ?zzk13 ?zzk14 ?zzk15 ?_; (case zzk1 => k_asm); (case zzk2 => k_asm); (case zzk3 => k_asm); (case zzk4 => k_asm); (case zzk5 => k_asm); (case zzk6 => first | exact rfl | assumption); (case zzkD => (first | exact Del.head (by repeat' (first | exact List.forall_mem_nil _ | exact OwnOff.ne (by assumption) (by simp) | refine List.forall_mem_cons.mpr ⟨by k_ne, ?_⟩)) | exact Del.tail (by k_ne) (by first | exact Del.head (by repeat' (first | exact List.forall_mem_nil _ | exact OwnOff.ne (by assumption) (by simp) | refine List.forall_mem_cons.mpr ⟨by k_ne, ?_⟩)) | exact Del.tail (by k_ne) (by first | exact Del.head (by repeat' (first | exact List.forall_mem_nil _ | exact OwnOff.ne (by assumption) (by simp) | refine List.forall_mem_cons.mpr ⟨by k_ne, ?_⟩)) | exact Del.tail (by k_ne) (by first | exact Del.head (by repeat' (first | exact List.forall_mem_nil _ | exact OwnOff.ne (by assumption) (by simp) | refine List.forall_mem_cons.mpr ⟨by k_ne, ?_⟩)) | exact Del.tail (by k_ne) (by first | exact Del.head (by repeat' (first | exact List.forall_mem_nil _ | exact OwnOff.ne (by assumption) (by simp) | refine List.forall_mem_cons.mpr ⟨by k_ne, ?_⟩)) | exact Del.tail (by k_ne) (by first | exact Del.head (by repeat' (first | exact List.forall_mem_nil _ | exact OwnOff.ne (by assumption) (by simp) | refine List.forall_mem_cons.mpr ⟨by k_ne, ?_⟩)) | exact Del.tail (by k_ne) (by first | exact Del.head (by repeat' (first | exact List.forall_mem_nil _ | exact OwnOff.ne (by assumption) (by simp) | refine List.forall_mem_cons.mpr ⟨by k_ne, ?_⟩)) | exact Del.tail (by k_ne) (by first | exact Del.head (by repeat' (first | exact List.forall_mem_nil _ | exact OwnOff.ne (by assumption) (by simp) | refine List.forall_mem_cons.mpr ⟨by k_ne, ?_⟩)) | exact Del.tail (by k_ne) (by first | exact Del.head (by repeat' (first | exact List.forall_mem_nil _ | exact OwnOff.ne (by assumption) (by simp) | refine List.forall_mem_cons.mpr ⟨by k_ne, ?_⟩)) | exact Del.tail (by k_ne) (by exact Del.head (by repeat' (first | exact List.forall_mem_nil _ | exact OwnOff.ne (by assumption) (by simp) | refine List.forall_mem_cons.mpr ⟨by k_ne, ?_⟩))))))))))))); (case zzkc => k_mem); (case zzk7 => omega); (case zzk8 => assumption); (case zzk9 => assumption); (case zzk10 => assumption); (case zzk11 => omega); (case zzk12 => omega); (case zzk13 => decide); (case zzk14 => ktr_room); (case zzk15 => ktr_units); k_whole); intro r9 t9 t8 h9 tk9 n9 r0 r1 F9 N9; (try dsimp only); (try k_fold); (try k_sweep)) | (k_dflt (refine' words_use ?zzk1 ?zzk2 ?zzk3 ?zzk4 ?zzk5 ?zzk6 ?zzk7 ?zzk8 ?zzk9 ?zzk10 ?zzk14 ?zzk15 ?_; (case zzk1 => k_asm); (case zzk2 => k_asm); (case zzk3 => k_asm); (case zzk4 => k_asm); (case zzk5 => k_asm); (case zzk6 => first | exact rfl | assumption); (case zzk7 => assumption); (case zzk8 => assumption); (case zzk9 => assumption); (case zzk10 => assumption); (case zzk14 => ktr_room); (case zzk15 => ktr_units); k_whole); intro vs9 h9 tk9 n9 D9 S9 F9 N9 lo9; (try k_lt lo9); (try dsimp only); (try k_fold); (try k_sweep)) | (k_dflt (refine' lw_use ?zzk1 ?zzk2 ?zzk3 ?zzk4 ?zzk5 ?zzk6 ?zzk7 ?zzk8 ?zzk9 ?zzk10 ?zzk14 ?zzk15 ?_; (case zzk1 => k_asm); (case zzk2 => k_asm); (case zzk3 => k_asm); (case zzk4 => k_asm); (case zzk5 => k_asm); (case zzk6 => first | exact rfl | assumption); (case zzk7 => assumption); (case zzk8 => assumption); (case zzk9 => assumption); (case zzk10 => assumption); (case zzk14 => ktr_room); (case zzk15 => ktr_units); k_whole); intro vs9 h9 tk9 n9 D9 S9 F9 N9 lo9; (try k_lt lo9); (try dsimp only); (try k_fold); (try k_sweep)) | (k_dflt (refine' flag_use ?zzk1 ?zzk2 ?zzk3 ?zzk4 ?zzk5 ?zzk6 ?zzkl ?zzkO ?zzkS ?zzkh ?zzk14 ?zzk15 ?_; (case zzk1 => k_asm); (case zzk2 => k_asm); (case zzk3 => k_asm); (case zzk4 => k_asm); (case zzk5 => k_asm); (case zzk6 => first | exact rfl | assumption); (case zzkl => k_mem); (case zzkO => (first | exact ⟨_, .inl rfl⟩ | exact ⟨_, .inr rfl⟩)); (case zzkS => first | assumption | exact strs_rev (by assumption)); (case zzkh => first | assumption | exact ok_of_txt (by assumption)); (case zzk14 => ktr_room); (case zzk15 => ktr_units); k_whole); intro v1 v2 t9 t8 h9 tk9 n9 D9 e9 F9 N9 lo9; (try k_lt lo9); (try dsimp only); (try k_fold); (try k_sweep)) | (k_dflt (refine' read_use ?zzk1 ?zzk2 ?zzk3 ?zzk4 ?zzk5 ?zzk6 ?zzkl ?zzkh ?zzk14 ?zzk15 ?_; (case zzk1 => k_asm); (case zzk2 => k_asm); (case zzk3 => k_asm); (case zzk4 => k_asm); (case zzk5 => k_asm); (case zzk6 => first | exact rfl | assumption); (case zzkl => k_mem); (case zzkh => assumption); (case zzk14 => ktr_room); (case zzk15 => ktr_units); k_whole); intro v1 v2 t9 t8 h9 tk9 n9 D9 e9 F9 N9 lo9; (try k_lt lo9); (try dsimp only); (try k_fold); (try k_sweep)))) | ((fail_if_success (with_reducible show wpAny _ _ (execs (Stmt.Assign [PySem.Expr.Name (Str.ofString "due") _] _ _ :: _) _) _ _ _)); (first | walk1 | (dsimp only; walk1) | (leave1; (try dsimp only)))) | fail "no step")
  rename Fr _ _ _ _ => lF
  rename News _ _ _ _ => lN
  rename StrsAre _ (flagWords _ _) => hW
  rename StrsAre _ (lwWords _ _) => hLw
  obtain ⟨u2, lF2⟩ := fr_small [(Str.ofString "words", Value.ref _), (Str.ofString "number", Value.int _ _), (Str.ofString "flag", Value.int _ _)] lF (by kst_all)
  clear lF
  dsimp only
  have hT := txt_of hW (by assumption) (by assumption) (by assumption) (by assumption)
  refine cutN (σ := Addr × Nat × Int × Int × Tok × Tok) lF2 lN (fun c => [(c.1, ({ cls := .type "tuple", data := .seq #[.int c.2.2.1 c.2.2.2.2.1, .int c.2.2.2.1 c.2.2.2.2.2] c.2.1 } : Obj))]) (fun c => [(Str.ofString "due", Value.ref c.1)]) (fun c => DueOk hW c.2.2.1 c.2.2.2.1) ?_ ?_
  · intro E9
    refine gen_Q fun Q9 hQ9 => ?_
    repeat' (first | (k_unfold; (try dsimp only)) | ((with_reducible show wpAny _ _ (call (Value.builtin "len") _) _ _ _); (k_here; (with_reducible show wpAny _ _ (call (Value.builtin "len") [Value.ref _]) _ _ _); k_dflt (refine' len_kl ?zzj1 ?zzj2 ?zzj3 ?_; (case zzj1 => k_asm); (case zzj2 => k_mem); (case zzj3 => assumption)); k_whole)) | ((with_reducible show wpAny _ _ (call (Value.type _) _) _ _ _); (k_here; (with_reducible show wpAny _ _ (call (Value.type _) [Value.ref _]) _ _ _); k_dflt (refine' kde_tupleOf ?zzk1 ?zzk2 ?zzk3 ?zzk4 ?zzk5 ?_; (case zzk1 => k_asm); (case zzk2 => k_asm); (case zzk3 => exact News.isList (by k_asm) (by k_mem)); (case zzk4 => (rw [List.size_toArray, List.length_map]; exact Nat.le_trans (by assumption : _ ≤ 3) (by decide))); (case zzk5 => exact List.toList_toArray ..); k_whole); intro D' h' F' N' l1; (try k_lt l1); (try k_sweep))) | ((with_reducible show wpAny _ _ (call (Value.ref _) _) _ _ _); (k_here; (k_dflt (refine' gdef_use ?zzk1 ?zzk2 ?zzk3 ?zzk4 ?zzk5 ?zzk6 ?zzk14 ?zzk15 ?_; (case zzk1 => k_asm); (case zzk2 => k_asm); (case zzk3 => k_asm); (case zzk4 => k_asm); (case zzk5 => k_asm); (case zzk6 => first | exact rfl | assumption); (case zzk14 => ktr_room); (case zzk15 => ktr_units); k_whole)); intro x9 dx9 d9 a1 a2 a3 a4 o9 t1 t2 t3 t4 t5 h9 tk9 F9 N9 lo9 lx9 ld9 ds9 i9; (try dsimp only); (try k_fold); (try k_sweep))) | ((with_reducible show wpAny _ _ (compareOp .NotEq (Value.ref _) (Value.ref _)) _ _ _); (k_here; first | (k_dflt (refine' ne_words ?zzN ?zza ?zzb ?zzsa ?zzsb ?zzp0 ?zzp1 ?zzp2 ?zzp3 ?zzhu ?_; (case zzN => k_asm); (case zza => k_mem); (case zzb => k_mem); (case zzsa => assumption); (case zzsb => assumption); (case zzp0 => assumption); (case zzp1 => assumption); (case zzp2 => assumption); (case zzp3 => assumption); (case zzhu => ktr_units)); (try dsimp only); (try k_fold)) | (k_dflt (refine' ne_pair ?zzN ?zza ?zzb ?zze1 ?zze2 ?zzhu ?_; (case zzN => k_asm); (case zza => k_mem); (case zzb => k_mem); (case zze1 => (first | exact pair_a (by assumption) (by assumption) | exact pair_b (by assumption) (by assumption) | exact pair_c (by assumption) (by assumption) (by assumption) | exact pair_d (by assumption) (by assumption) (by assumption))); (case zze2 => (first | exact pair_a (by assumption) (by assumption) | exact pair_b (by assumption) (by assumption) | exact pair_c (by assumption) (by assumption) (by assumption) | exact pair_d (by assumption) (by assumption) (by assumption))); (case zzhu => ktr_units)); (try dsimp only); (try k_fold)))) | ((with_reducible show wpAny _ _ (call (Value.type _) _) _ _ _); (k_here; (with_reducible show wpAny _ _ (call (Value.type _) [Value.ref _]) _ _ _); k_dflt (refine' kup_listOfT ?zzF ?zzN ?zzb ?zze ?_ ?zzz; (case zzF => k_asm); (case zzN => k_asm); (case zzb => k_mem); (case zze => exact List.toList_toArray ..); (case zzz => exact strs_size (by assumption))); intro D' c' h' F' N' l1; (try k_lt l1); (try k_sweep))) | ((with_reducible show wpAny _ _ (call (Value.ref _) _) _ _ _); (k_here; first | (k_dflt (refine' draw_use ?zzk1 ?zzk2 ?zzk3 ?zzk4 ?zzk5 ?zzk6 ?zzkD ?zzkc ?zzk7 ?zzk8 ?zzk9 ?zzk10 ?zzk11 ?zzk12 ?zzk13 ?zzk14 ?zzk15 ?_; (case zzk1 => k_asm); (case zzk2 => k_asm); (case zzk3 => k_asm); (case zzk4 => k_asm); (case zzk5 => k_asm); (case zzk6 => first | exact rfl | assumption); (case zzkD => (first | exact Del.head (by repeat' (first | exact List.forall_mem_nil _ | exact OwnOff.ne (by assumption) (by simp) | refine List.forall_mem_cons.mpr ⟨by k_ne, ?_⟩)) | exact Del.tail (by k_ne) (by first | exact Del.head (by repeat' (first | exact List.forall_mem_nil _ | exact OwnOff.ne (by assumption) (by simp) | refine List.forall_mem_cons.mpr ⟨by k_ne, ?_⟩)) | exact Del.tail (by k_ne) (by first | exact Del.head (by repeat' (first | exact List.forall_mem_nil _ | exact OwnOff.ne (by assumption) (by simp) | refine List.forall_mem_cons.mpr ⟨by k_ne, ?_⟩)) | exact Del.tail (by k_ne) (by first | exact Del.head (by repeat' (first | exact List.forall_mem_nil _ | exact OwnOff.ne (by assumption) (by simp) | refine List.forall_mem_cons.mpr ⟨by k_ne, ?_⟩)) | exact Del.tail (by k_ne) (by first | exact Del.head (by repeat' (first | exact List.forall_mem_nil _ | exact OwnOff.ne (by assumption) (by simp) | refine List.forall_mem_cons.mpr ⟨by k_ne, ?_⟩)) | exact Del.tail (by k_ne) (by first | exact Del.head (by repeat' (first | exact List.forall_mem_nil _ | exact OwnOff.ne (by assumption) (by simp) | refine List.forall_mem_cons.mpr ⟨by k_ne, ?_⟩)) | exact Del.tail (by k_ne) (by first | exact Del.head (by repeat' (first | exact List.forall_mem_nil _ | exact OwnOff.ne (by assumption) (by simp) | refine List.forall_mem_cons.mpr ⟨by k_ne, ?_⟩)) | exact Del.tail (by k_ne) (by first | exact Del.head (by repeat' (first | exact List.forall_mem_nil _ | exact OwnOff.ne (by assumption) (by simp) | refine List.forall_mem_cons.mpr ⟨by k_ne, ?_⟩)) | exact Del.tail (by k_ne) (by first | exact Del.head (by repeat' (first | exact List.forall_mem_nil _ | exact OwnOff.ne (by assumption) (by simp) | refine List.forall_mem_cons.mpr ⟨by k_ne, ?_⟩)) | exact Del.tail (by k_ne) (by exact Del.head (by repeat' (first | exact List.forall_mem_nil _ | exact OwnOff.ne (by assumption) (by simp) | refine List.forall_mem_cons.mpr ⟨by k_ne, ?_⟩))))))))))))); (case zzkc => k_mem); (case zzk7 => omega); (case zzk8 => assumption); (case zzk9 => assumption); (case zzk10 => assumption); (case zzk11 => omega); (case zzk12 => omega); (case zzk13 => decide); (case zzk14 => ktr_room); (case zzk15 => ktr_units); k_whole); intro r9 t9 t8 h9 tk9 n9 r0 r1 F9 N9; (try dsimp only); (try k_fold); (try k_sweep)) | (k_dflt (refine' words_use ?zzk1 ?zzk2 ?zzk3 ?zzk4 ?zzk5 ?zzk6 ?zzk7 ?zzk8 ?zzk9 ?zzk10 ?zzk14 ?zzk15 ?_; (case zzk1 => k_asm); (case zzk2 => k_asm); (case zzk3 => k_asm); (case zzk4 => k_asm); (case zzk5 => k_asm); (case zzk6 => first | exact rfl | assumption); (case zzk7 => assumption); (case zzk8 => assumption); (case zzk9 => assumption); (case zzk10 => assumption); (case zzk14 => ktr_room); (case zzk15 => ktr_units); k_whole); intro vs9 h9 tk9 n9 D9 S9 F9 N9 lo9; (try k_lt lo9); (try dsimp only); (try k_fold); (try k_sweep)) | (k_dflt (refine' lw_use ?zzk1 ?zzk2 ?zzk3 ?zzk4 ?zzk5 ?zzk6 ?zzk7 ?zzk8 ?zzk9 ?zzk10 ?zzk14 ?zzk15 ?_; (case zzk1 => k_asm); (case zzk2 => k_asm); (case zzk3 => k_asm); (case zzk4 => k_asm); (case zzk5 => k_asm); (case zzk6 => first | exact rfl | assumption); (case zzk7 => assumption); (case zzk8 => assumption); (case zzk9 => assumption); (case zzk10 => assumption); (case zzk14 => ktr_room); (case zzk15 => ktr_units); k_whole); intro vs9 h9 tk9 n9 D9 S9 F9 N9 lo9; (try k_lt lo9); (try dsimp only); (try k_fold); (try k_sweep)) | (k_dflt (refine' flag_use ?zzk1 ?zzk2 ?zzk3 ?zzk4 ?zzk5 ?zzk6 ?zzkl ?zzkO ?zzkS ?zzkh ?zzk14 ?zzk15 ?_; (case zzk1 => k_asm); (case zzk2 => k_asm); (case zzk3 => k_asm); (case zzk4 => k_asm); (case zzk5 => k_asm); (case zzk6 => first | exact rfl | assumption); (case zzkl => k_mem); (case zzkO => (first | exact ⟨_, .inl rfl⟩ | exact ⟨_, .inr rfl⟩)); (case zzkS => first | assumption | exact strs_rev (by assumption)); (case zzkh => first | assumption | exact ok_of_txt (by assumption)); (case zzk14 => ktr_room); (case zzk15 => ktr_units); k_whole); intro v1 v2 t9 t8 h9 tk9 n9 D9 e9 F9 N9 lo9; (try k_lt lo9); (try dsimp only); (try k_fold); (try k_sweep)) | (k_dflt (refine' read_use ?zzk1 ?zzk2 ?zzk3 ?zzk4 ?zzk5 ?zzk6 ?zzkl ?zzkh ?zzk14 ?zzk15 ?_; (case zzk1 => k_asm); (case zzk2 => k_asm); (case zzk3 => k_asm); (case zzk4 => k_asm); (case zzk5 => k_asm); (case zzk6 => first | exact rfl | assumption); (case zzkl => k_mem); (case zzkh => assumption); (case zzk14 => ktr_room); (case zzk15 => ktr_units); k_whole); intro v1 v2 t9 t8 h9 tk9 n9 D9 e9 F9 N9 lo9; (try k_lt lo9); (try dsimp only); (try k_fold); (try k_sweep)))) | walk1 | (dsimp only; walk1) | (leave1; (try dsimp only)) | fail "no step")
    all_goals exact hQ9 _ _ ⟨rfl, at_intro ⟨_, _, _, _, _, _⟩ (by assumption) (by assumption) (by intro p hp; kst_mem) (by kst_all) (by first | exact due_on hW (by assumption) (by assumption) (by assumption) (by assumption) (by assumption) | exact due_off hW (by assumption) (by assumption) (by assumption) (by assumption) (by assumption))⟩
  rintro ⟨D, n, d1, d2, td1, td2⟩ u h tk F N ⟨hd1, hd2⟩
  clear lF2 lN
  dsimp only [List.cons_append, List.nil_append] at *
  repeat' (first | (k_unfold; (try dsimp only)) | ((with_reducible show wpAny _ _ (call (Value.builtin "len") _) _ _ _); (k_here; (with_reducible show wpAny _ _ (call (Value.builtin "len") [Value.ref _]) _ _ _); k_dflt (refine' len_kl ?zzj1 ?zzj2 ?zzj3 ?_; (case zzj1 => k_asm); (case zzj2 => k_mem); (case zzj3 => assumption)); k_whole)) | ((with_reducible show wpAny _ _ (call (Value.type _) _) _ _ _); (k_here; (with_reducible show wpAny _ _ (call (Value.type _) [Value.ref _]) _ _ _); k_dflt (refine' kde_tupleOf ?zzk1 ?zzk2 ?zzk3 ?zzk4 ?zzk5 ?_; (case zzk1 => k_asm); (case zzk2 => k_asm); (case zzk3 => exact News.isList (by k_asm) (by k_mem)); (case zzk4 => (rw [List.size_toArray, List.length_map]; exact Nat.le_trans (by assumption : _ ≤ 3) (by decide))); (case zzk5 => exact List.toList_toArray ..); k_whole); intro D' h' F' N' l1; (try k_lt l1); (try k_sweep))) | ((with_reducible show wpAny _ _ (call (Value.ref _) _) _ _ _); (k_here; (k_dflt (refine' gdef_use ?zzk1 ?zzk2 ?zzk3 ?zzk4 ?zzk5 ?zzk6 ?zzk14 ?zzk15 ?_; (case zzk1 => k_asm); (case zzk2 => k_asm); (case zzk3 => k_asm); (case zzk4 => k_asm); (case zzk5 => k_asm); (case zzk6 => first | exact rfl | assumption); (case zzk14 => ktr_room); (case zzk15 => ktr_units); k_whole)); intro x9 dx9 d9 a1 a2 a3 a4 o9 t1 t2 t3 t4 t5 h9 tk9 F9 N9 lo9 lx9 ld9 ds9 i9; (try dsimp only); (try k_fold); (try k_sweep))) | ((with_reducible show wpAny _ _ (compareOp .NotEq (Value.ref _) (Value.ref _)) _ _ _); (k_here; first | (k_dflt (refine' ne_words ?zzN ?zza ?zzb ?zzsa ?zzsb ?zzp0 ?zzp1 ?zzp2 ?zzp3 ?zzhu ?_; (case zzN => k_asm); (case zza => k_mem); (case zzb => k_mem); (case zzsa => assumption); (case zzsb => assumption); (case zzp0 => assumption); (case zzp1 => assumption); (case zzp2 => assumption); (case zzp3 => assumption); (case zzhu => ktr_units)); (try dsimp only); (try k_fold)) | (k_dflt (refine' ne_pair ?zzN ?zza ?zzb ?zze1 ?zze2 ?zzhu ?_; (case zzN => k_asm); (case zza => k_mem); (case zzb => k_mem); (case zze1 => (first | exact pair_a (by assumption) (by assumption) | exact pair_b (by assumption) (by assumption) | exact pair_c (by assumption) (by assumption) (by assumption) | exact pair_d (by assumption) (by assumption) (by assumption))); (case zze2 => (first | exact pair_a (by assumption) (by assumption) | exact pair_b (by assumption) (by assumption) | exact pair_c (by assumption) (by assumption) (by assumption) | exact pair_d (by assumption) (by assumption) (by assumption))); (case zzhu => ktr_units)); (try dsimp only); (try k_fold)))) | ((with_reducible show wpAny _ _ (call (Value.type _) _) _ _ _); (k_here; (with_reducible show wpAny _ _ (call (Value.type _) [Value.ref _]) _ _ _); k_dflt (refine' kup_listOfT ?zzF ?zzN ?zzb ?zze ?_ ?zzz; (case zzF => k_asm); (case zzN => k_asm); (case zzb => k_mem); (case zze => exact List.toList_toArray ..); (case zzz => exact strs_size (by assumption))); intro D' c' h' F' N' l1; (try k_lt l1); (try k_sweep))) | ((with_reducible show wpAny _ _ (call (Value.ref _) _) _ _ _); (k_here; first | (k_dflt (refine' draw_use ?zzk1 ?zzk2 ?zzk3 ?zzk4 ?zzk5 ?zzk6 ?zzkD ?zzkc ?zzk7 ?zzk8 ?zzk9 ?zzk10 ?zzk11 ?zzk12 ?zzk13 ?zzk14 ?zzk15 ?_; (case zzk1 => k_asm); (case zzk2 => k_asm); (case zzk3 => k_asm); (case zzk4 => k_asm); (case zzk5 => k_asm); (case zzk6 => first | exact rfl | assumption); (case zzkD => (first | exact Del.head (by repeat' (first | exact List.forall_mem_nil _ | exact OwnOff.ne (by assumption) (by simp) | refine List.forall_mem_cons.mpr ⟨by k_ne, ?_⟩)) | exact Del.tail (by k_ne) (by first | exact Del.head (by repeat' (first | exact List.forall_mem_nil _ | exact OwnOff.ne (by assumption) (by simp) | refine List.forall_mem_cons.mpr ⟨by k_ne, ?_⟩)) | exact Del.tail (by k_ne) (by first | exact Del.head (by repeat' (first | exact List.forall_mem_nil _ | exact OwnOff.ne (by assumption) (by simp) | refine List.forall_mem_cons.mpr ⟨by k_ne, ?_⟩)) | exact Del.tail (by k_ne) (by first | exact Del.head (by repeat' (first | exact List.forall_mem_nil _ | exact OwnOff.ne (by assumption) (by simp) | refine List.forall_mem_cons.mpr ⟨by k_ne, ?_⟩)) | exact Del.tail (by k_ne) (by first | exact Del.head (by repeat' (first | exact List.forall_mem_nil _ | exact OwnOff.ne (by assumption) (by simp) | refine List.forall_mem_cons.mpr ⟨by k_ne, ?_⟩)) | exact Del.tail (by k_ne) (by first | exact Del.head (by repeat' (first | exact List.forall_mem_nil _ | exact OwnOff.ne (by assumption) (by simp) | refine List.forall_mem_cons.mpr ⟨by k_ne, ?_⟩)) | exact Del.tail (by k_ne) (by first | exact Del.head (by repeat' (first | exact List.forall_mem_nil _ | exact OwnOff.ne (by assumption) (by simp) | refine List.forall_mem_cons.mpr ⟨by k_ne, ?_⟩)) | exact Del.tail (by k_ne) (by first | exact Del.head (by repeat' (first | exact List.forall_mem_nil _ | exact OwnOff.ne (by assumption) (by simp) | refine List.forall_mem_cons.mpr ⟨by k_ne, ?_⟩)) | exact Del.tail (by k_ne) (by first | exact Del.head (by repeat' (first | exact List.forall_mem_nil _ | exact OwnOff.ne (by assumption) (by simp) | refine List.forall_mem_cons.mpr ⟨by k_ne, ?_⟩)) | exact Del.tail (by k_ne) (by exact Del.head (by repeat' (first | exact List.forall_mem_nil _ | exact OwnOff.ne (by assumption) (by simp) | refine List.forall_mem_cons.mpr ⟨by k_ne, ?_⟩))))))))))))); (case zzkc => k_mem); (case zzk7 => omega); (case zzk8 => assumption); (case zzk9 => assumption); (case zzk10 => assumption); (case zzk11 => omega); (case zzk12 => omega); (case zzk13 => decide); (case zzk14 => ktr_room); (case zzk15 => ktr_units); k_whole); intro r9 t9 t8 h9 tk9 n9 r0 r1 F9 N9; (try dsimp only); (try k_fold); (try k_sweep)) | (k_dflt (refine' words_use ?zzk1 ?zzk2 ?zzk3 ?zzk4 ?zzk5 ?zzk6 ?zzk7 ?zzk8 ?zzk9 ?zzk10 ?zzk14 ?zzk15 ?_; (case zzk1 => k_asm); (case zzk2 => k_asm); (case zzk3 => k_asm); (case zzk4 => k_asm); (case zzk5 => k_asm); (case zzk6 => first | exact rfl | assumption); (case zzk7 => assumption); (case zzk8 => assumption); (case zzk9 => assumption); (case zzk10 => assumption); (case zzk14 => ktr_room); (case zzk15 => ktr_units); k_whole); intro vs9 h9 tk9 n9 D9 S9 F9 N9 lo9; (try k_lt lo9); (try dsimp only); (try k_fold); (try k_sweep)) | (k_dflt (refine' lw_use ?zzk1 ?zzk2 ?zzk3 ?zzk4 ?zzk5 ?zzk6 ?zzk7 ?zzk8 ?zzk9 ?zzk10 ?zzk14 ?zzk15 ?_; (case zzk1 => k_asm); (case zzk2 => k_asm); (case zzk3 => k_asm); (case zzk4 => k_asm); (case zzk5 => k_asm); (case zzk6 => first | exact rfl | assumption); (case zzk7 => assumption); (case zzk8 => assumption); (case zzk9 => assumption); (case zzk10 => assumption); (case zzk14 => ktr_room); (case zzk15 => ktr_units); k_whole); intro vs9 h9 tk9 n9 D9 S9 F9 N9 lo9; (try k_lt lo9); (try dsimp only); (try k_fold); (try k_sweep)) | (k_dflt (refine' flag_use ?zzk1 ?zzk2 ?zzk3 ?zzk4 ?zzk5 ?zzk6 ?zzkl ?zzkO ?zzkS ?zzkh ?zzk14 ?zzk15 ?_; (case zzk1 => k_asm); (case zzk2 => k_asm); (case zzk3 => k_asm); (case zzk4 => k_asm); (case zzk5 => k_asm); (case zzk6 => first | exact rfl | assumption); (case zzkl => k_mem); (case zzkO => (first | exact ⟨_, .inl rfl⟩ | exact ⟨_, .inr rfl⟩)); (case zzkS => first | assumption | exact strs_rev (by assumption)); (case zzkh => first | assumption | exact ok_of_txt (by assumption)); (case zzk14 => ktr_room); (case zzk15 => ktr_units); k_whole); intro v1 v2 t9 t8 h9 tk9 n9 D9 e9 F9 N9 lo9; (try k_lt lo9); (try dsimp only); (try k_fold); (try k_sweep)) | (k_dflt (refine' read_use ?zzk1 ?zzk2 ?zzk3 ?zzk4 ?zzk5 ?zzk6 ?zzkl ?zzkh ?zzk14 ?zzk15 ?_; (case zzk1 => k_asm); (case zzk2 => k_asm); (case zzk3 => k_asm); (case zzk4 => k_asm); (case zzk5 => k_asm); (case zzk6 => first | exact rfl | assumption); (case zzkl => k_mem); (case zzkh => assumption); (case zzk14 => ktr_room); (case zzk15 => ktr_units); k_whole); intro v1 v2 t9 t8 h9 tk9 n9 D9 e9 F9 N9 lo9; (try k_lt lo9); (try dsimp only); (try k_fold); (try k_sweep)))) | ((fail_if_success (with_reducible show wpAny _ _ (subscriptTail _ _ _ _) _ _ _)); (first | walk1 | (dsimp only; walk1) | (leave1; (try dsimp only)))) | fail "no step")
  k_dflt (refine' rev_tail ?j1 ?j2 ?j3 ?j4 ?j5 ?_ ?j6 ?j8; (case j1 => k_asm); (case j2 => k_asm); (case j3 => exact News.isList (by assumption) (by k_mem)); (case j4 => exact IsPart.int _ _); (case j5 => exact congrArg List.reverse (List.toList_toArray ..)); (case j6 => with_unfolding_all rfl); (case j8 => exact strs_size hW))
  intro D7 h7 F7 N7 l7
  try k_lt l7
  try k_sweep
  repeat' (first | (k_unfold; (try dsimp only)) | ((with_reducible show wpAny _ _ (call (Value.builtin "len") _) _ _ _); (k_here; (with_reducible show wpAny _ _ (call (Value.builtin "len") [Value.ref _]) _ _ _); k_dflt (refine' len_kl ?zzj1 ?zzj2 ?zzj3 ?_; (case zzj1 => k_asm); (case zzj2 => k_mem); (case zzj3 => assumption)); k_whole)) | ((with_reducible show wpAny _ _ (call (Value.type _) _) _ _ _); (k_here; (with_reducible show wpAny _ _ (call (Value.type _) [Value.ref _]) _ _ _); k_dflt (refine' kde_tupleOf ?zzk1 ?zzk2 ?zzk3 ?zzk4 ?zzk5 ?_; (case zzk1 => k_asm); (case zzk2 => k_asm); (case zzk3 => exact News.isList (by k_asm) (by k_mem)); (case zzk4 => (rw [List.size_toArray, List.length_map]; exact Nat.le_trans (by assumption : _ ≤ 3) (by decide))); (case zzk5 => exact List.toList_toArray ..); k_whole); intro D' h' F' N' l1; (try k_lt l1); (try k_sweep))) | ((with_reducible show wpAny _ _ (call (Value.ref _) _) _ _ _); (k_here; (k_dflt (refine' gdef_use ?zzk1 ?zzk2 ?zzk3 ?zzk4 ?zzk5 ?zzk6 ?zzk14 ?zzk15 ?_; (case zzk1 => k_asm); (case zzk2 => k_asm); (case zzk3 => k_asm); (case zzk4 => k_asm); (case zzk5 => k_asm); (case zzk6 => first | exact rfl | assumption); (case zzk14 => ktr_room); (case zzk15 => ktr_units); k_whole)); intro x9 dx9 d9 a1 a2 a3 a4 o9 t1 t2 t3 t4 t5 h9 tk9 F9 N9 lo9 lx9 ld9 ds9 i9; (try dsimp only); (try k_fold); (try k_sweep))) | ((with_reducible show wpAny _ _ (compareOp .NotEq (Value.ref _) (Value.ref _)) _ _ _); (k_here; first | (k_dflt (refine' ne_words ?zzN ?zza ?zzb ?zzsa ?zzsb ?zzp0 ?zzp1 ?zzp2 ?zzp3 ?zzhu ?_; (case zzN => k_asm); (case zza => k_mem); (case zzb => k_mem); (case zzsa => assumption); (case zzsb => assumption); (case zzp0 => assumption); (case zzp1 => assumption); (case zzp2 => assumption); (case zzp3 => assumption); (case zzhu => ktr_units)); (try dsimp only); (try k_fold)) | (k_dflt (refine' ne_pair ?zzN ?zza ?zzb ?zze1 ?zze2 ?zzhu ?_; (case zzN => k_asm); (case zza => k_mem); (case zzb => k_mem); (case zze1 => (first | exact pair_a (by assumption) (by assumption) | exact pair_b (by assumption) (by assumption) | exact pair_c (by assumption) (by assumption) (by assumption) | exact pair_d (by assumption) (by assumption) (by assumption))); (case zze2 => (first | exact pair_a (by assumption) (by assumption) | exact pair_b (by assumption) (by assumption) | exact pair_c (by assumption) (by assumption) (by assumption) | exact pair_d (by assumption) (by assumption) (by assumption))); (case zzhu => ktr_units)); (try dsimp only); (try k_fold)))) | ((with_reducible show wpAny _ _ (call (Value.type _) _) _ _ _); (k_here; (with_reducible show wpAny _ _ (call (Value.type _) [Value.ref _]) _ _ _); k_dflt (refine' kup_listOfT ?zzF ?zzN ?zzb ?zze ?_ ?zzz; (case zzF => k_asm); (case zzN => k_asm); (case zzb => k_mem); (case zze => exact List.toList_toArray ..); (case zzz => exact strs_size (by assumption))); intro D' c' h' F' N' l1; (try k_lt l1); (try k_sweep))) | ((with_reducible show wpAny _ _ (call (Value.ref _) _) _ _ _); (k_here; first | (k_dflt (refine' draw_use ?zzk1 ?zzk2 ?zzk3 ?zzk4 ?zzk5 ?zzk6 ?zzkD ?zzkc ?zzk7 ?zzk8 ?zzk9 ?zzk10 ?zzk11 ?zzk12 ?zzk13 ?zzk14 ?zzk15 ?_; (case zzk1 => k_asm); (case zzk2 => k_asm); (case zzk3 => k_asm); (case zzk4 => k_asm); (case zzk5 => k_asm); (case zzk6 => first | exact rfl | assumption); (case zzkD => (first | exact Del.head (by repeat' (first | exact List.forall_mem_nil _ | exact OwnOff.ne (by assumption) (by simp) | refine List.forall_mem_cons.mpr ⟨by k_ne, ?_⟩)) | exact Del.tail (by k_ne) (by first | exact Del.head (by repeat' (first | exact List.forall_mem_nil _ | exact OwnOff.ne (by assumption) (by simp) | refine List.forall_mem_cons.mpr ⟨by k_ne, ?_⟩)) | exact Del.tail (by k_ne) (by first | exact Del.head (by repeat' (first | exact List.forall_mem_nil _ | exact OwnOff.ne (by assumption) (by simp) | refine List.forall_mem_cons.mpr ⟨by k_ne, ?_⟩)) | exact Del.tail (by k_ne) (by first | exact Del.head (by repeat' (first | exact List.forall_mem_nil _ | exact OwnOff.ne (by assumption) (by simp) | refine List.forall_mem_cons.mpr ⟨by k_ne, ?_⟩)) | exact Del.tail (by k_ne) (by first | exact Del.head (by repeat' (first | exact List.forall_mem_nil _ | exact OwnOff.ne (by assumption) (by simp) | refine List.forall_mem_cons.mpr ⟨by k_ne, ?_⟩)) | exact Del.tail (by k_ne) (by first | exact Del.head (by repeat' (first | exact List.forall_mem_nil _ | exact OwnOff.ne (by assumption) (by simp) | refine List.forall_mem_cons.mpr ⟨by k_ne, ?_⟩)) | exact Del.tail (by k_ne) (by first | exact Del.head (by repeat' (first | exact List.forall_mem_nil _ | exact OwnOff.ne (by assumption) (by simp) | refine List.forall_mem_cons.mpr ⟨by k_ne, ?_⟩)) | exact Del.tail (by k_ne) (by first | exact Del.head (by repeat' (first | exact List.forall_mem_nil _ | exact OwnOff.ne (by assumption) (by simp) | refine List.forall_mem_cons.mpr ⟨by k_ne, ?_⟩)) | exact Del.tail (by k_ne) (by first | exact Del.head (by repeat' (first | exact List.forall_mem_nil _ | exact OwnOff.ne (by assumption) (by simp) | refine List.forall_mem_cons.mpr ⟨by k_ne, ?_⟩)) | exact Del.tail (by k_ne) (by exact Del.head (by repeat' (first | exact List.forall_mem_nil _ | exact OwnOff.ne (by assumption) (by simp) | refine List.forall_mem_cons.mpr ⟨by k_ne, ?_⟩))))))))))))); (case zzkc => k_mem); (case zzk7 => omega); (case zzk8 => assumption); (case zzk9 => assumption); (case zzk10 => assumption); (case zzk11 => omega); (case zzk12 => omega); (case zzk13 => decide); (case zzk14 => ktr_room); (case zzk15 => ktr_units); k_whole); intro r9 t9 t8 h9 tk9 n9 r0 r1 F9 N9; (try dsimp only); (try k_fold); (try k_sweep)) | (k_dflt (refine' words_use ?zzk1 ?zzk2 ?zzk3 ?zzk4 ?zzk5 ?zzk6 ?zzk7 ?zzk8 ?zzk9 ?zzk10 ?zzk14 ?zzk15 ?_; (case zzk1 => k_asm); (case zzk2 => k_asm); (case zzk3 => k_asm); (case zzk4 => k_asm); (case zzk5 => k_asm); (case zzk6 => first | exact rfl | assumption); (case zzk7 => assumption); (case zzk8 => assumption); (case zzk9 => assumption); (case zzk10 => assumption); (case zzk14 => ktr_room); (case zzk15 => ktr_units); k_whole); intro vs9 h9 tk9 n9 D9 S9 F9 N9 lo9; (try k_lt lo9); (try dsimp only); (try k_fold); (try k_sweep)) | (k_dflt (refine' lw_use ?zzk1 ?zzk2 ?zzk3 ?zzk4 ?zzk5 ?zzk6 ?zzk7 ?zzk8 ?zzk9 ?zzk10 ?zzk14 ?zzk15 ?_; (case zzk1 => k_asm); (case zzk2 => k_asm); (case zzk3 => k_asm); (case zzk4 => k_asm); (case zzk5 => k_asm); (case zzk6 => first | exact rfl | assumption); (case zzk7 => assumption); (case zzk8 => assumption); (case zzk9 => assumption); (case zzk10 => assumption); (case zzk14 => ktr_room); (case zzk15 => ktr_units); k_whole); intro vs9 h9 tk9 n9 D9 S9 F9 N9 lo9; (try k_lt lo9); (try dsimp only); (try k_fold); (try k_sweep)) | (k_dflt (refine' flag_use ?zzk1 ?zzk2 ?zzk3 ?zzk4 ?zzk5 ?zzk6 ?zzkl ?zzkO ?zzkS ?zzkh ?zzk14 ?zzk15 ?_; (case zzk1 => k_asm); (case zzk2 => k_asm); (case zzk3 => k_asm); (case zzk4 => k_asm); (case zzk5 => k_asm); (case zzk6 => first | exact rfl | assumption); (case zzkl => k_mem); (case zzkO => (first | exact ⟨_, .inl rfl⟩ | exact ⟨_, .inr rfl⟩)); (case zzkS => first | assumption | exact strs_rev (by assumption)); (case zzkh => first | assumption | exact ok_of_txt (by assumption)); (case zzk14 => ktr_room); (case zzk15 => ktr_units); k_whole); intro v1 v2 t9 t8 h9 tk9 n9 D9 e9 F9 N9 lo9; (try k_lt lo9); (try dsimp only); (try k_fold); (try k_sweep)) | (k_dflt (refine' read_use ?zzk1 ?zzk2 ?zzk3 ?zzk4 ?zzk5 ?zzk6 ?zzkl ?zzkh ?zzk14 ?zzk15 ?_; (case zzk1 => k_asm); (case zzk2 => k_asm); (case zzk3 => k_asm); (case zzk4 => k_asm); (case zzk5 => k_asm); (case zzk6 => first | exact rfl | assumption); (case zzkl => k_mem); (case zzkh => assumption); (case zzk14 => ktr_room); (case zzk15 => ktr_units); k_whole); intro v1 v2 t9 t8 h9 tk9 n9 D9 e9 F9 N9 lo9; (try k_lt lo9); (try dsimp only); (try k_fold); (try k_sweep)))) | ((fail_if_success (with_reducible show wpAny _ _ (execs (Stmt.Assign [PySem.Expr.Name (Str.ofString "width") _] _ _ :: _) _) _ _ _)); (first | walk1 | (dsimp only; walk1) | (leave1; (try dsimp only)))) | fail "no step")
  rename Fr _ _ _ _ => lF
  rename News _ _ _ _ => lN
  obtain ⟨u3, lF3⟩ := fr_small [] lF (by kst_all)
  have lN3 := news_small [(tape, _), (cells, _), (s1.heap.objs.size + 1, _), (s1.heap.objs.size + 1 + 1, _), (s1.heap.objs.size + 1 + 1 + 1, _)] lN (by intro p hp; kst_mem)
  clear lF lN
  clear hT hLw hd1 hd2
  dsimp only
  refine cut (σ := Tok × Nat × Obj × Int × Tok) lF3 (fun c => [(tape, listOf #[.ref cells, .int (pl + 1 + 1 + 1) c.1] c.2.1), (cells, listOf vs.toArray nc), (s1.heap.objs.size + 1, oT), (s1.heap.objs.size + 1 + 1, c.2.2.1), (s1.heap.objs.size + 1 + 1 + 1, o3)]) (fun _ => []) (fun c => c.2.2.1.data = .cell (some (.int c.2.2.2.1 c.2.2.2.2)) ∧ -500 ≤ c.2.2.2.1 ∧ c.2.2.2.1 ≤ 1500) ?_ ?_
  · intro E9
    refine gen_Q fun Q9 hQ9 => ?_
    repeat' (first | (k_unfold; (try dsimp only)) | ((with_reducible show wpAny _ _ (call (Value.builtin "len") _) _ _ _); (k_here; (with_reducible show wpAny _ _ (call (Value.builtin "len") [Value.ref _]) _ _ _); k_dflt (refine' len_kl ?zzj1 ?zzj2 ?zzj3 ?_; (case zzj1 => k_asm); (case zzj2 => k_mem); (case zzj3 => assumption)); k_whole)) | ((with_reducible show wpAny _ _ (call (Value.type _) _) _ _ _); (k_here; (with_reducible show wpAny _ _ (call (Value.type _) [Value.ref _]) _ _ _); k_dflt (refine' kde_tupleOf ?zzk1 ?zzk2 ?zzk3 ?zzk4 ?zzk5 ?_; (case zzk1 => k_asm); (case zzk2 => k_asm); (case zzk3 => exact News.isList (by k_asm) (by k_mem)); (case zzk4 => (rw [List.size_toArray, List.length_map]; exact Nat.le_trans (by assumption : _ ≤ 3) (by decide))); (case zzk5 => exact List.toList_toArray ..); k_whole); intro D' h' F' N' l1; (try k_lt l1); (try k_sweep))) | ((with_reducible show wpAny _ _ (call (Value.ref _) _) _ _ _); (k_here; (k_dflt (refine' gdef_use ?zzk1 ?zzk2 ?zzk3 ?zzk4 ?zzk5 ?zzk6 ?zzk14 ?zzk15 ?_; (case zzk1 => k_asm); (case zzk2 => k_asm); (case zzk3 => k_asm); (case zzk4 => k_asm); (case zzk5 => k_asm); (case zzk6 => first | exact rfl | assumption); (case zzk14 => ktr_room); (case zzk15 => ktr_units); k_whole)); intro x9 dx9 d9 a1 a2 a3 a4 o9 t1 t2 t3 t4 t5 h9 tk9 F9 N9 lo9 lx9 ld9 ds9 i9; (try dsimp only); (try k_fold); (try k_sweep))) | ((with_reducible show wpAny _ _ (compareOp .NotEq (Value.ref _) (Value.ref _)) _ _ _); (k_here; first | (k_dflt (refine' ne_words ?zzN ?zza ?zzb ?zzsa ?zzsb ?zzp0 ?zzp1 ?zzp2 ?zzp3 ?zzhu ?_; (case zzN => k_asm); (case zza => k_mem); (case zzb => k_mem); (case zzsa => assumption); (case zzsb => assumption); (case zzp0 => assumption); (case zzp1 => assumption); (case zzp2 => assumption); (case zzp3 => assumption); (case zzhu => ktr_units)); (try dsimp only); (try k_fold)) | (k_dflt (refine' ne_pair ?zzN ?zza ?zzb ?zze1 ?zze2 ?zzhu ?_; (case zzN => k_asm); (case zza => k_mem); (case zzb => k_mem); (case zze1 => (first | exact pair_a (by assumption) (by assumption) | exact pair_b (by assumption) (by assumption) | exact pair_c (by assumption) (by assumption) (by assumption) | exact pair_d (by assumption) (by assumption) (by assumption))); (case zze2 => (first | exact pair_a (by assumption) (by assumption) | exact pair_b (by assumption) (by assumption) | exact pair_c (by assumption) (by assumption) (by assumption) | exact pair_d (by assumption) (by assumption) (by assumption))); (case zzhu => ktr_units)); (try dsimp only); (try k_fold)))) | ((with_reducible show wpAny _ _ (call (Value.type _) _) _ _ _); (k_here; (with_reducible show wpAny _ _ (call (Value.type _) [Value.ref _]) _ _ _); k_dflt (refine' kup_listOfT ?zzF ?zzN ?zzb ?zze ?_ ?zzz; (case zzF => k_asm); (case zzN => k_asm); (case zzb => k_mem); (case zze => exact List.toList_toArray ..); (case zzz => exact strs_size (by assumption))); intro D' c' h' F' N' l1; (try k_lt l1); (try k_sweep))) | ((with_reducible show wpAny _ _ (call (Value.ref _) _) _ _ _); (k_here; first | (k_dflt (refine' draw_use ?zzk1 ?zzk2 ?zzk3 ?zzk4 ?zzk5 ?zzk6 ?zzkD ?zzkc ?zzk7 ?zzk8 ?zzk9 ?zzk10 ?zzk11 ?zzk12 ?zzk13 ?zzk14 ?zzk15 ?_; (case zzk1 => k_asm); (case zzk2 => k_asm); (case zzk3 => k_asm); (case zzk4 => k_asm); (case zzk5 => k_asm); (case zzk6 => first | exact rfl | assumption); (case zzkD => (first | exact Del.head (by repeat' (first | exact List.forall_mem_nil _ | exact OwnOff.ne (by assumption) (by simp) | refine List.forall_mem_cons.mpr ⟨by k_ne, ?_⟩)) | exact Del.tail (by k_ne) (by first | exact Del.head (by repeat' (first | exact List.forall_mem_nil _ | exact OwnOff.ne (by assumption) (by simp) | refine List.forall_mem_cons.mpr ⟨by k_ne, ?_⟩)) | exact Del.tail (by k_ne) (by first | exact Del.head (by repeat' (first | exact List.forall_mem_nil _ | exact OwnOff.ne (by assumption) (by simp) | refine List.forall_mem_cons.mpr ⟨by k_ne, ?_⟩)) | exact Del.tail (by k_ne) (by first | exact Del.head (by repeat' (first | exact List.forall_mem_nil _ | exact OwnOff.ne (by assumption) (by simp) | refine List.forall_mem_cons.mpr ⟨by k_ne, ?_⟩)) | exact Del.tail (by k_ne) (by first | exact Del.head (by repeat' (first | exact List.forall_mem_nil _ | exact OwnOff.ne (by assumption) (by simp) | refine List.forall_mem_cons.mpr ⟨by k_ne, ?_⟩)) | exact Del.tail (by k_ne) (by first | exact Del.head (by repeat' (first | exact List.forall_mem_nil _ | exact OwnOff.ne (by assumption) (by simp) | refine List.forall_mem_cons.mpr ⟨by k_ne, ?_⟩)) | exact Del.tail (by k_ne) (by first | exact Del.head (by repeat' (first | exact List.forall_mem_nil _ | exact OwnOff.ne (by assumption) (by simp) | refine List.forall_mem_cons.mpr ⟨by k_ne, ?_⟩)) | exact Del.tail (by k_ne) (by first | exact Del.head (by repeat' (first | exact List.forall_mem_nil _ | exact OwnOff.ne (by assumption) (by simp) | refine List.forall_mem_cons.mpr ⟨by k_ne, ?_⟩)) | exact Del.tail (by k_ne) (by first | exact Del.head (by repeat' (first | exact List.forall_mem_nil _ | exact OwnOff.ne (by assumption) (by simp) | refine List.forall_mem_cons.mpr ⟨by k_ne, ?_⟩)) | exact Del.tail (by k_ne) (by exact Del.head (by repeat' (first | exact List.forall_mem_nil _ | exact OwnOff.ne (by assumption) (by simp) | refine List.forall_mem_cons.mpr ⟨by k_ne, ?_⟩))))))))))))); (case zzkc => k_mem); (case zzk7 => omega); (case zzk8 => assumption); (case zzk9 => assumption); (case zzk10 => assumption); (case zzk11 => omega); (case zzk12 => omega); (case zzk13 => decide); (case zzk14 => ktr_room); (case zzk15 => ktr_units); k_whole); intro r9 t9 t8 h9 tk9 n9 r0 r1 F9 N9; (try dsimp only); (try k_fold); (try k_sweep)) | (k_dflt (refine' words_use ?zzk1 ?zzk2 ?zzk3 ?zzk4 ?zzk5 ?zzk6 ?zzk7 ?zzk8 ?zzk9 ?zzk10 ?zzk14 ?zzk15 ?_; (case zzk1 => k_asm); (case zzk2 => k_asm); (case zzk3 => k_asm); (case zzk4 => k_asm); (case zzk5 => k_asm); (case zzk6 => first | exact rfl | assumption); (case zzk7 => assumption); (case zzk8 => assumption); (case zzk9 => assumption); (case zzk10 => assumption); (case zzk14 => ktr_room); (case zzk15 => ktr_units); k_whole); intro vs9 h9 tk9 n9 D9 S9 F9 N9 lo9; (try k_lt lo9); (try dsimp only); (try k_fold); (try k_sweep)) | (k_dflt (refine' lw_use ?zzk1 ?zzk2 ?zzk3 ?zzk4 ?zzk5 ?zzk6 ?zzk7 ?zzk8 ?zzk9 ?zzk10 ?zzk14 ?zzk15 ?_; (case zzk1 => k_asm); (case zzk2 => k_asm); (case zzk3 => k_asm); (case zzk4 => k_asm); (case zzk5 => k_asm); (case zzk6 => first | exact rfl | assumption); (case zzk7 => assumption); (case zzk8 => assumption); (case zzk9 => assumption); (case zzk10 => assumption); (case zzk14 => ktr_room); (case zzk15 => ktr_units); k_whole); intro vs9 h9 tk9 n9 D9 S9 F9 N9 lo9; (try k_lt lo9); (try dsimp only); (try k_fold); (try k_sweep)) | (k_dflt (refine' flag_use ?zzk1 ?zzk2 ?zzk3 ?zzk4 ?zzk5 ?zzk6 ?zzkl ?zzkO ?zzkS ?zzkh ?zzk14 ?zzk15 ?_; (case zzk1 => k_asm); (case zzk2 => k_asm); (case zzk3 => k_asm); (case zzk4 => k_asm); (case zzk5 => k_asm); (case zzk6 => first | exact rfl | assumption); (case zzkl => k_mem); (case zzkO => (first | exact ⟨_, .inl rfl⟩ | exact ⟨_, .inr rfl⟩)); (case zzkS => first | assumption | exact strs_rev (by assumption)); (case zzkh => first | assumption | exact ok_of_txt (by assumption)); (case zzk14 => ktr_room); (case zzk15 => ktr_units); k_whole); intro v1 v2 t9 t8 h9 tk9 n9 D9 e9 F9 N9 lo9; (try k_lt lo9); (try dsimp only); (try k_fold); (try k_sweep)) | (k_dflt (refine' read_use ?zzk1 ?zzk2 ?zzk3 ?zzk4 ?zzk5 ?zzk6 ?zzkl ?zzkh ?zzk14 ?zzk15 ?_; (case zzk1 => k_asm); (case zzk2 => k_asm); (case zzk3 => k_asm); (case zzk4 => k_asm); (case zzk5 => k_asm); (case zzk6 => first | exact rfl | assumption); (case zzkl => k_mem); (case zzkh => assumption); (case zzk14 => ktr_room); (case zzk15 => ktr_units); k_whole); intro v1 v2 t9 t8 h9 tk9 n9 D9 e9 F9 N9 lo9; (try k_lt lo9); (try dsimp only); (try k_fold); (try k_sweep)))) | walk1 | (dsimp only; walk1) | (leave1; (try dsimp only)) | fail "no step")
    exact hQ9 _ _ ⟨rfl, at_intro ⟨_, _, _, _, _⟩ (by assumption) (by assumption) (by intro p hp; kst_mem) (by kst_all) ⟨by assumption, by (dsimp only; omega), by (dsimp only; omega)⟩⟩
  rintro ⟨t5, n5, oW, wd, twd⟩ u5 h5 tk5 F5 N5 ⟨dW, hw0, hw1⟩
  clear lF3 lN3
  dsimp only at *
  refine cutN (σ := Addr) F5 N5 (fun c => [(c, listOf #[] 0)]) (fun c => [(Str.ofString "carets", Value.ref c)]) (fun c => @LT.lt Nat _ tape c) ?_ ?_
  · intro E9
    refine gen_Q fun Q9 hQ9 => ?_
    repeat' (first | (k_unfold; (try dsimp only)) | ((with_reducible show wpAny _ _ (call (Value.builtin "len") _) _ _ _); (k_here; (with_reducible show wpAny _ _ (call (Value.builtin "len") [Value.ref _]) _ _ _); k_dflt (refine' len_kl ?zzj1 ?zzj2 ?zzj3 ?_; (case zzj1 => k_asm); (case zzj2 => k_mem); (case zzj3 => assumption)); k_whole)) | ((with_reducible show wpAny _ _ (call (Value.type _) _) _ _ _); (k_here; (with_reducible show wpAny _ _ (call (Value.type _) [Value.ref _]) _ _ _); k_dflt (refine' kde_tupleOf ?zzk1 ?zzk2 ?zzk3 ?zzk4 ?zzk5 ?_; (case zzk1 => k_asm); (case zzk2 => k_asm); (case zzk3 => exact News.isList (by k_asm) (by k_mem)); (case zzk4 => (rw [List.size_toArray, List.length_map]; exact Nat.le_trans (by assumption : _ ≤ 3) (by decide))); (case zzk5 => exact List.toList_toArray ..); k_whole); intro D' h' F' N' l1; (try k_lt l1); (try k_sweep))) | ((with_reducible show wpAny _ _ (call (Value.ref _) _) _ _ _); (k_here; (k_dflt (refine' gdef_use ?zzk1 ?zzk2 ?zzk3 ?zzk4 ?zzk5 ?zzk6 ?zzk14 ?zzk15 ?_; (case zzk1 => k_asm); (case zzk2 => k_asm); (case zzk3 => k_asm); (case zzk4 => k_asm); (case zzk5 => k_asm); (case zzk6 => first | exact rfl | assumption); (case zzk14 => ktr_room); (case zzk15 => ktr_units); k_whole)); intro x9 dx9 d9 a1 a2 a3 a4 o9 t1 t2 t3 t4 t5 h9 tk9 F9 N9 lo9 lx9 ld9 ds9 i9; (try dsimp only); (try k_fold); (try k_sweep))) | ((with_reducible show wpAny _ _ (compareOp .NotEq (Value.ref _) (Value.ref _)) _ _ _); (k_here; first | (k_dflt (refine' ne_words ?zzN ?zza ?zzb ?zzsa ?zzsb ?zzp0 ?zzp1 ?zzp2 ?zzp3 ?zzhu ?_; (case zzN => k_asm); (case zza => k_mem); (case zzb => k_mem); (case zzsa => assumption); (case zzsb => assumption); (case zzp0 => assumption); (case zzp1 => assumption); (case zzp2 => assumption); (case zzp3 => assumption); (case zzhu => ktr_units)); (try dsimp only); (try k_fold)) | (k_dflt (refine' ne_pair ?zzN ?zza ?zzb ?zze1 ?zze2 ?zzhu ?_; (case zzN => k_asm); (case zza => k_mem); (case zzb => k_mem); (case zze1 => (first | exact pair_a (by assumption) (by assumption) | exact pair_b (by assumption) (by assumption) | exact pair_c (by assumption) (by assumption) (by assumption) | exact pair_d (by assumption) (by assumption) (by assumption))); (case zze2 => (first | exact pair_a (by assumption) (by assumption) | exact pair_b (by assumption) (by assumption) | exact pair_c (by assumption) (by assumption) (by assumption) | exact pair_d (by assumption) (by assumption) (by assumption))); (case zzhu => ktr_units)); (try dsimp only); (try k_fold)))) | ((with_reducible show wpAny _ _ (call (Value.type _) _) _ _ _); (k_here; (with_reducible show wpAny _ _ (call (Value.type _) [Value.ref _]) _ _ _); k_dflt (refine' kup_listOfT ?zzF ?zzN ?zzb ?zze ?_ ?zzz; (case zzF => k_asm); (case zzN => k_asm); (case zzb => k_mem); (case zze => exact List.toList_toArray ..); (case zzz => exact strs_size (by assumption))); intro D' c' h' F' N' l1; (try k_lt l1); (try k_sweep))) | ((with_reducible show wpAny _ _ (call (Value.ref _) _) _ _ _); (k_here; first | (k_dflt (refine' draw_use ?zzk1 ?zzk2 ?zzk3 ?zzk4 ?zzk5 ?zzk6 ?zzkD ?zzkc ?zzk7 ?zzk8 ?zzk9 ?zzk10 ?zzk11 ?zzk12 ?zzk13 ?zzk14 ?zzk15 ?_; (case zzk1 => k_asm); (case zzk2 => k_asm); (case zzk3 => k_asm); (case zzk4 => k_asm); (case zzk5 => k_asm); (case zzk6 => first | exact rfl | assumption); (case zzkD => (first | exact Del.head (by repeat' (first | exact List.forall_mem_nil _ | exact OwnOff.ne (by assumption) (by simp) | refine List.forall_mem_cons.mpr ⟨by k_ne, ?_⟩)) | exact Del.tail (by k_ne) (by first | exact Del.head (by repeat' (first | exact List.forall_mem_nil _ | exact OwnOff.ne (by assumption) (by simp) | refine List.forall_mem_cons.mpr ⟨by k_ne, ?_⟩)) | exact Del.tail (by k_ne) (by first | exact Del.head (by repeat' (first | exact List.forall_mem_nil _ | exact OwnOff.ne (by assumption) (by simp) | refine List.forall_mem_cons.mpr ⟨by k_ne, ?_⟩)) | exact Del.tail (by k_ne) (by first | exact Del.head (by repeat' (first | exact List.forall_mem_nil _ | exact OwnOff.ne (by assumption) (by simp) | refine List.forall_mem_cons.mpr ⟨by k_ne, ?_⟩)) | exact Del.tail (by k_ne) (by first | exact Del.head (by repeat' (first | exact List.forall_mem_nil _ | exact OwnOff.ne (by assumption) (by simp) | refine List.forall_mem_cons.mpr ⟨by k_ne, ?_⟩)) | exact Del.tail (by k_ne) (by first | exact Del.head (by repeat' (first | exact List.forall_mem_nil _ | exact OwnOff.ne (by assumption) (by simp) | refine List.forall_mem_cons.mpr ⟨by k_ne, ?_⟩)) | exact Del.tail (by k_ne) (by first | exact Del.head (by repeat' (first | exact List.forall_mem_nil _ | exact OwnOff.ne (by assumption) (by simp) | refine List.forall_mem_cons.mpr ⟨by k_ne, ?_⟩)) | exact Del.tail (by k_ne) (by first | exact Del.head (by repeat' (first | exact List.forall_mem_nil _ | exact OwnOff.ne (by assumption) (by simp) | refine List.forall_mem_cons.mpr ⟨by k_ne, ?_⟩)) | exact Del.tail (by k_ne) (by first | exact Del.head (by repeat' (first | exact List.forall_mem_nil _ | exact OwnOff.ne (by assumption) (by simp) | refine List.forall_mem_cons.mpr ⟨by k_ne, ?_⟩)) | exact Del.tail (by k_ne) (by exact Del.head (by repeat' (first | exact List.forall_mem_nil _ | exact OwnOff.ne (by assumption) (by simp) | refine List.forall_mem_cons.mpr ⟨by k_ne, ?_⟩))))))))))))); (case zzkc => k_mem); (case zzk7 => omega); (case zzk8 => assumption); (case zzk9 => assumption); (case zzk10 => assumption); (case zzk11 => omega); (case zzk12 => omega); (case zzk13 => decide); (case zzk14 => ktr_room); (case zzk15 => ktr_units); k_whole); intro r9 t9 t8 h9 tk9 n9 r0 r1 F9 N9; (try dsimp only); (try k_fold); (try k_sweep)) | (k_dflt (refine' words_use ?zzk1 ?zzk2 ?zzk3 ?zzk4 ?zzk5 ?zzk6 ?zzk7 ?zzk8 ?zzk9 ?zzk10 ?zzk14 ?zzk15 ?_; (case zzk1 => k_asm); (case zzk2 => k_asm); (case zzk3 => k_asm); (case zzk4 => k_asm); (case zzk5 => k_asm); (case zzk6 => first | exact rfl | assumption); (case zzk7 => assumption); (case zzk8 => assumption); (case zzk9 => assumption); (case zzk10 => assumption); (case zzk14 => ktr_room); (case zzk15 => ktr_units); k_whole); intro vs9 h9 tk9 n9 D9 S9 F9 N9 lo9; (try k_lt lo9); (try dsimp only); (try k_fold); (try k_sweep)) | (k_dflt (refine' lw_use ?zzk1 ?zzk2 ?zzk3 ?zzk4 ?zzk5 ?zzk6 ?zzk7 ?zzk8 ?zzk9 ?zzk10 ?zzk14 ?zzk15 ?_; (case zzk1 => k_asm); (case zzk2 => k_asm); (case zzk3 => k_asm); (case zzk4 => k_asm); (case zzk5 => k_asm); (case zzk6 => first | exact rfl | assumption); (case zzk7 => assumption); (case zzk8 => assumption); (case zzk9 => assumption); (case zzk10 => assumption); (case zzk14 => ktr_room); (case zzk15 => ktr_units); k_whole); intro vs9 h9 tk9 n9 D9 S9 F9 N9 lo9; (try k_lt lo9); (try dsimp only); (try k_fold); (try k_sweep)) | (k_dflt (refine' flag_use ?zzk1 ?zzk2 ?zzk3 ?zzk4 ?zzk5 ?zzk6 ?zzkl ?zzkO ?zzkS ?zzkh ?zzk14 ?zzk15 ?_; (case zzk1 => k_asm); (case zzk2 => k_asm); (case zzk3 => k_asm); (case zzk4 => k_asm); (case zzk5 => k_asm); (case zzk6 => first | exact rfl | assumption); (case zzkl => k_mem); (case zzkO => (first | exact ⟨_, .inl rfl⟩ | exact ⟨_, .inr rfl⟩)); (case zzkS => first | assumption | exact strs_rev (by assumption)); (case zzkh => first | assumption | exact ok_of_txt (by assumption)); (case zzk14 => ktr_room); (case zzk15 => ktr_units); k_whole); intro v1 v2 t9 t8 h9 tk9 n9 D9 e9 F9 N9 lo9; (try k_lt lo9); (try dsimp only); (try k_fold); (try k_sweep)) | (k_dflt (refine' read_use ?zzk1 ?zzk2 ?zzk3 ?zzk4 ?zzk5 ?zzk6 ?zzkl ?zzkh ?zzk14 ?zzk15 ?_; (case zzk1 => k_asm); (case zzk2 => k_asm); (case zzk3 => k_asm); (case zzk4 => k_asm); (case zzk5 => k_asm); (case zzk6 => first | exact rfl | assumption); (case zzkl => k_mem); (case zzkh => assumption); (case zzk14 => ktr_room); (case zzk15 => ktr_units); k_whole); intro v1 v2 t9 t8 h9 tk9 n9 D9 e9 F9 N9 lo9; (try k_lt lo9); (try dsimp only); (try k_fold); (try k_sweep)))) | walk1 | (dsimp only; walk1) | (leave1; (try dsimp only)) | fail "no step")
    exact hQ9 _ _ ⟨rfl, at_intro _ (by assumption) (by assumption) (by intro p hp; kst_mem) (by kst_all) (by ((try dsimp only); ((first | assumption | exact cj0 (by assumption) | exact cj1 (by assumption) | exact cj2 (by assumption) | exact cj3 (by assumption) | exact cj4 (by assumption) | exact cj5 (by assumption) | exact cj6 (by assumption) | exact cj7 (by assumption) | exact cj8 (by assumption) | exact cj9 (by assumption) | exact cj10 (by assumption) | exact ck2 (by assumption)))))⟩
  rintro l u5 h5 tk5 lF lN hl
  clear F5 N5
  have hll0 : @LT.lt Nat _ cells l := Nat.lt_trans hlt hl
  have hll1 : @LT.lt Nat _ (s1.heap.objs.size + 1) l := Nat.lt_trans ht1 hl
  have hll2 : @LT.lt Nat _ (s1.heap.objs.size + 1 + 1) l := Nat.lt_trans ht2 hl
  have hll3 : @LT.lt Nat _ (s1.heap.objs.size + 1 + 1 + 1) l := Nat.lt_trans ht3 hl
  dsimp only [List.cons_append, List.nil_append] at *
  repeat' (first | (k_unfold; (try dsimp only)) | ((with_reducible show wpAny _ _ (call (Value.builtin "len") _) _ _ _); (k_here; (with_reducible show wpAny _ _ (call (Value.builtin "len") [Value.ref _]) _ _ _); k_dflt (refine' len_kl ?zzj1 ?zzj2 ?zzj3 ?_; (case zzj1 => k_asm); (case zzj2 => k_mem); (case zzj3 => assumption)); k_whole)) | ((with_reducible show wpAny _ _ (call (Value.type _) _) _ _ _); (k_here; (with_reducible show wpAny _ _ (call (Value.type _) [Value.ref _]) _ _ _); k_dflt (refine' kde_tupleOf ?zzk1 ?zzk2 ?zzk3 ?zzk4 ?zzk5 ?_; (case zzk1 => k_asm); (case zzk2 => k_asm); (case zzk3 => exact News.isList (by k_asm) (by k_mem)); (case zzk4 => (rw [List.size_toArray, List.length_map]; exact Nat.le_trans (by assumption : _ ≤ 3) (by decide))); (case zzk5 => exact List.toList_toArray ..); k_whole); intro D' h' F' N' l1; (try k_lt l1); (try k_sweep))) | ((with_reducible show wpAny _ _ (call (Value.ref _) _) _ _ _); (k_here; (k_dflt (refine' gdef_use ?zzk1 ?zzk2 ?zzk3 ?zzk4 ?zzk5 ?zzk6 ?zzk14 ?zzk15 ?_; (case zzk1 => k_asm); (case zzk2 => k_asm); (case zzk3 => k_asm); (case zzk4 => k_asm); (case zzk5 => k_asm); (case zzk6 => first | exact rfl | assumption); (case zzk14 => ktr_room); (case zzk15 => ktr_units); k_whole)); intro x9 dx9 d9 a1 a2 a3 a4 o9 t1 t2 t3 t4 t5 h9 tk9 F9 N9 lo9 lx9 ld9 ds9 i9; (try dsimp only); (try k_fold); (try k_sweep))) | ((with_reducible show wpAny _ _ (compareOp .NotEq (Value.ref _) (Value.ref _)) _ _ _); (k_here; first | (k_dflt (refine' ne_words ?zzN ?zza ?zzb ?zzsa ?zzsb ?zzp0 ?zzp1 ?zzp2 ?zzp3 ?zzhu ?_; (case zzN => k_asm); (case zza => k_mem); (case zzb => k_mem); (case zzsa => assumption); (case zzsb => assumption); (case zzp0 => assumption); (case zzp1 => assumption); (case zzp2 => assumption); (case zzp3 => assumption); (case zzhu => ktr_units)); (try dsimp only); (try k_fold)) | (k_dflt (refine' ne_pair ?zzN ?zza ?zzb ?zze1 ?zze2 ?zzhu ?_; (case zzN => k_asm); (case zza => k_mem); (case zzb => k_mem); (case zze1 => (first | exact pair_a (by assumption) (by assumption) | exact pair_b (by assumption) (by assumption) | exact pair_c (by assumption) (by assumption) (by assumption) | exact pair_d (by assumption) (by assumption) (by assumption))); (case zze2 => (first | exact pair_a (by assumption) (by assumption) | exact pair_b (by assumption) (by assumption) | exact pair_c (by assumption) (by assumption) (by assumption) | exact pair_d (by assumption) (by assumption) (by assumption))); (case zzhu => ktr_units)); (try dsimp only); (try k_fold)))) | ((with_reducible show wpAny _ _ (call (Value.type _) _) _ _ _); (k_here; (with_reducible show wpAny _ _ (call (Value.type _) [Value.ref _]) _ _ _); k_dflt (refine' kup_listOfT ?zzF ?zzN ?zzb ?zze ?_ ?zzz; (case zzF => k_asm); (case zzN => k_asm); (case zzb => k_mem); (case zze => exact List.toList_toArray ..); (case zzz => exact strs_size (by assumption))); intro D' c' h' F' N' l1; (try k_lt l1); (try k_sweep))) | ((with_reducible show wpAny _ _ (call (Value.ref _) _) _ _ _); (k_here; first | (k_dflt (refine' draw_use ?zzk1 ?zzk2 ?zzk3 ?zzk4 ?zzk5 ?zzk6 ?zzkD ?zzkc ?zzk7 ?zzk8 ?zzk9 ?zzk10 ?zzk11 ?zzk12 ?zzk13 ?zzk14 ?zzk15 ?_; (case zzk1 => k_asm); (case zzk2 => k_asm); (case zzk3 => k_asm); (case zzk4 => k_asm); (case zzk5 => k_asm); (case zzk6 => first | exact rfl | assumption); (case zzkD => (first | exact Del.head (by repeat' (first | exact List.forall_mem_nil _ | exact OwnOff.ne (by assumption) (by simp) | refine List.forall_mem_cons.mpr ⟨by k_ne, ?_⟩)) | exact Del.tail (by k_ne) (by first | exact Del.head (by repeat' (first | exact List.forall_mem_nil _ | exact OwnOff.ne (by assumption) (by simp) | refine List.forall_mem_cons.mpr ⟨by k_ne, ?_⟩)) | exact Del.tail (by k_ne) (by first | exact Del.head (by repeat' (first | exact List.forall_mem_nil _ | exact OwnOff.ne (by assumption) (by simp) | refine List.forall_mem_cons.mpr ⟨by k_ne, ?_⟩)) | exact Del.tail (by k_ne) (by first | exact Del.head (by repeat' (first | exact List.forall_mem_nil _ | exact OwnOff.ne (by assumption) (by simp) | refine List.forall_mem_cons.mpr ⟨by k_ne, ?_⟩)) | exact Del.tail (by k_ne) (by first | exact Del.head (by repeat' (first | exact List.forall_mem_nil _ | exact OwnOff.ne (by assumption) (by simp) | refine List.forall_mem_cons.mpr ⟨by k_ne, ?_⟩)) | exact Del.tail (by k_ne) (by first | exact Del.head (by repeat' (first | exact List.forall_mem_nil _ | exact OwnOff.ne (by assumption) (by simp) | refine List.forall_mem_cons.mpr ⟨by k_ne, ?_⟩)) | exact Del.tail (by k_ne) (by first | exact Del.head (by repeat' (first | exact List.forall_mem_nil _ | exact OwnOff.ne (by assumption) (by simp) | refine List.forall_mem_cons.mpr ⟨by k_ne, ?_⟩)) | exact Del.tail (by k_ne) (by first | exact Del.head (by repeat' (first | exact List.forall_mem_nil _ | exact OwnOff.ne (by assumption) (by simp) | refine List.forall_mem_cons.mpr ⟨by k_ne, ?_⟩)) | exact Del.tail (by k_ne) (by first | exact Del.head (by repeat' (first | exact List.forall_mem_nil _ | exact OwnOff.ne (by assumption) (by simp) | refine List.forall_mem_cons.mpr ⟨by k_ne, ?_⟩)) | exact Del.tail (by k_ne) (by exact Del.head (by repeat' (first | exact List.forall_mem_nil _ | exact OwnOff.ne (by assumption) (by simp) | refine List.forall_mem_cons.mpr ⟨by k_ne, ?_⟩))))))))))))); (case zzkc => k_mem); (case zzk7 => omega); (case zzk8 => assumption); (case zzk9 => assumption); (case zzk10 => assumption); (case zzk11 => omega); (case zzk12 => omega); (case zzk13 => decide); (case zzk14 => ktr_room); (case zzk15 => ktr_units); k_whole); intro r9 t9 t8 h9 tk9 n9 r0 r1 F9 N9; (try dsimp only); (try k_fold); (try k_sweep)) | (k_dflt (refine' words_use ?zzk1 ?zzk2 ?zzk3 ?zzk4 ?zzk5 ?zzk6 ?zzk7 ?zzk8 ?zzk9 ?zzk10 ?zzk14 ?zzk15 ?_; (case zzk1 => k_asm); (case zzk2 => k_asm); (case zzk3 => k_asm); (case zzk4 => k_asm); (case zzk5 => k_asm); (case zzk6 => first | exact rfl | assumption); (case zzk7 => assumption); (case zzk8 => assumption); (case zzk9 => assumption); (case zzk10 => assumption); (case zzk14 => ktr_room); (case zzk15 => ktr_units); k_whole); intro vs9 h9 tk9 n9 D9 S9 F9 N9 lo9; (try k_lt lo9); (try dsimp only); (try k_fold); (try k_sweep)) | (k_dflt (refine' lw_use ?zzk1 ?zzk2 ?zzk3 ?zzk4 ?zzk5 ?zzk6 ?zzk7 ?zzk8 ?zzk9 ?zzk10 ?zzk14 ?zzk15 ?_; (case zzk1 => k_asm); (case zzk2 => k_asm); (case zzk3 => k_asm); (case zzk4 => k_asm); (case zzk5 => k_asm); (case zzk6 => first | exact rfl | assumption); (case zzk7 => assumption); (case zzk8 => assumption); (case zzk9 => assumption); (case zzk10 => assumption); (case zzk14 => ktr_room); (case zzk15 => ktr_units); k_whole); intro vs9 h9 tk9 n9 D9 S9 F9 N9 lo9; (try k_lt lo9); (try dsimp only); (try k_fold); (try k_sweep)) | (k_dflt (refine' flag_use ?zzk1 ?zzk2 ?zzk3 ?zzk4 ?zzk5 ?zzk6 ?zzkl ?zzkO ?zzkS ?zzkh ?zzk14 ?zzk15 ?_; (case zzk1 => k_asm); (case zzk2 => k_asm); (case zzk3 => k_asm); (case zzk4 => k_asm); (case zzk5 => k_asm); (case zzk6 => first | exact rfl | assumption); (case zzkl => k_mem); (case zzkO => (first | exact ⟨_, .inl rfl⟩ | exact ⟨_, .inr rfl⟩)); (case zzkS => first | assumption | exact strs_rev (by assumption)); (case zzkh => first | assumption | exact ok_of_txt (by assumption)); (case zzk14 => ktr_room); (case zzk15 => ktr_units); k_whole); intro v1 v2 t9 t8 h9 tk9 n9 D9 e9 F9 N9 lo9; (try k_lt lo9); (try dsimp only); (try k_fold); (try k_sweep)) | (k_dflt (refine' read_use ?zzk1 ?zzk2 ?zzk3 ?zzk4 ?zzk5 ?zzk6 ?zzkl ?zzkh ?zzk14 ?zzk15 ?_; (case zzk1 => k_asm); (case zzk2 => k_asm); (case zzk3 => k_asm); (case zzk4 => k_asm); (case zzk5 => k_asm); (case zzk6 => first | exact rfl | assumption); (case zzkl => k_mem); (case zzkh => assumption); (case zzk14 => ktr_room); (case zzk15 => ktr_units); k_whole); intro v1 v2 t9 t8 h9 tk9 n9 D9 e9 F9 N9 lo9; (try k_lt lo9); (try dsimp only); (try k_fold); (try k_sweep)))) | ((fail_if_success (with_reducible show wpAny _ _ (exec (Stmt.For _ _ _ _ _) _) _ _ _)); (first | walk1 | (dsimp only; walk1) | (leave1; (try dsimp only)))) | fail "no step")
  with_unfolding_all refine' For_invVF lF ?k1 ?k2 ?_
  case k1 => exact rfl
  case k2 => exact rfl
  repeat' (first | (k_unfold; (try dsimp only)) | ((with_reducible show wpAny _ _ (call (Value.builtin "len") _) _ _ _); (k_here; (with_reducible show wpAny _ _ (call (Value.builtin "len") [Value.ref _]) _ _ _); k_dflt (refine' len_kl ?zzj1 ?zzj2 ?zzj3 ?_; (case zzj1 => k_asm); (case zzj2 => k_mem); (case zzj3 => assumption)); k_whole)) | ((with_reducible show wpAny _ _ (call (Value.type _) _) _ _ _); (k_here; (with_reducible show wpAny _ _ (call (Value.type _) [Value.ref _]) _ _ _); k_dflt (refine' kde_tupleOf ?zzk1 ?zzk2 ?zzk3 ?zzk4 ?zzk5 ?_; (case zzk1 => k_asm); (case zzk2 => k_asm); (case zzk3 => exact News.isList (by k_asm) (by k_mem)); (case zzk4 => (rw [List.size_toArray, List.length_map]; exact Nat.le_trans (by assumption : _ ≤ 3) (by decide))); (case zzk5 => exact List.toList_toArray ..); k_whole); intro D' h' F' N' l1; (try k_lt l1); (try k_sweep))) | ((with_reducible show wpAny _ _ (call (Value.ref _) _) _ _ _); (k_here; (k_dflt (refine' gdef_use ?zzk1 ?zzk2 ?zzk3 ?zzk4 ?zzk5 ?zzk6 ?zzk14 ?zzk15 ?_; (case zzk1 => k_asm); (case zzk2 => k_asm); (case zzk3 => k_asm); (case zzk4 => k_asm); (case zzk5 => k_asm); (case zzk6 => first | exact rfl | assumption); (case zzk14 => ktr_room); (case zzk15 => ktr_units); k_whole)); intro x9 dx9 d9 a1 a2 a3 a4 o9 t1 t2 t3 t4 t5 h9 tk9 F9 N9 lo9 lx9 ld9 ds9 i9; (try dsimp only); (try k_fold); (try k_sweep))) | ((with_reducible show wpAny _ _ (compareOp .NotEq (Value.ref _) (Value.ref _)) _ _ _); (k_here; first | (k_dflt (refine' ne_words ?zzN ?zza ?zzb ?zzsa ?zzsb ?zzp0 ?zzp1 ?zzp2 ?zzp3 ?zzhu ?_; (case zzN => k_asm); (case zza => k_mem); (case zzb => k_mem); (case zzsa => assumption); (case zzsb => assumption); (case zzp0 => assumption); (case zzp1 => assumption); (case zzp2 => assumption); (case zzp3 => assumption); (case zzhu => ktr_units)); (try dsimp only); (try k_fold)) | (k_dflt (refine' ne_pair ?zzN ?zza ?zzb ?zze1 ?zze2 ?zzhu ?_; (case zzN => k_asm); (case zza => k_mem); (case zzb => k_mem); (case zze1 => (first | exact pair_a (by assumption) (by assumption) | exact pair_b (by assumption) (by assumption) | exact pair_c (by assumption) (by assumption) (by assumption) | exact pair_d (by assumption) (by assumption) (by assumption))); (case zze2 => (first | exact pair_a (by assumption) (by assumption) | exact pair_b (by assumption) (by assumption) | exact pair_c (by assumption) (by assumption) (by assumption) | exact pair_d (by assumption) (by assumption) (by assumption))); (case zzhu => ktr_units)); (try dsimp only); (try k_fold)))) | ((with_reducible show wpAny _ _ (call (Value.type _) _) _ _ _); (k_here; (with_reducible show wpAny _ _ (call (Value.type _) [Value.ref _]) _ _ _); k_dflt (refine' kup_listOfT ?zzF ?zzN ?zzb ?zze ?_ ?zzz; (case zzF => k_asm); (case zzN => k_asm); (case zzb => k_mem); (case zze => exact List.toList_toArray ..); (case zzz => exact strs_size (by assumption))); intro D' c' h' F' N' l1; (try k_lt l1); (try k_sweep))) | ((with_reducible show wpAny _ _ (call (Value.ref _) _) _ _ _); (k_here; first | (k_dflt (refine' draw_use ?zzk1 ?zzk2 ?zzk3 ?zzk4 ?zzk5 ?zzk6 ?zzkD ?zzkc ?zzk7 ?zzk8 ?zzk9 ?zzk10 ?zzk11 ?zzk12 ?zzk13 ?zzk14 ?zzk15 ?_; (case zzk1 => k_asm); (case zzk2 => k_asm); (case zzk3 => k_asm); (case zzk4 => k_asm); (case zzk5 => k_asm); (case zzk6 => first | exact rfl | assumption); (case zzkD => (first | exact Del.head (by repeat' (first | exact List.forall_mem_nil _ | exact OwnOff.ne (by assumption) (by simp) | refine List.forall_mem_cons.mpr ⟨by k_ne, ?_⟩)) | exact Del.tail (by k_ne) (by first | exact Del.head (by repeat' (first | exact List.forall_mem_nil _ | exact OwnOff.ne (by assumption) (by simp) | refine List.forall_mem_cons.mpr ⟨by k_ne, ?_⟩)) | exact Del.tail (by k_ne) (by first | exact Del.head (by repeat' (first | exact List.forall_mem_nil _ | exact OwnOff.ne (by assumption) (by simp) | refine List.forall_mem_cons.mpr ⟨by k_ne, ?_⟩)) | exact Del.tail (by k_ne) (by first | exact Del.head (by repeat' (first | exact List.forall_mem_nil _ | exact OwnOff.ne (by assumption) (by simp) | refine List.forall_mem_cons.mpr ⟨by k_ne, ?_⟩)) | exact Del.tail (by k_ne) (by first | exact Del.head (by repeat' (first | exact List.forall_mem_nil _ | exact OwnOff.ne (by assumption) (by simp) | refine List.forall_mem_cons.mpr ⟨by k_ne, ?_⟩)) | exact Del.tail (by k_ne) (by first | exact Del.head (by repeat' (first | exact List.forall_mem_nil _ | exact OwnOff.ne (by assumption) (by simp) | refine List.forall_mem_cons.mpr ⟨by k_ne, ?_⟩)) | exact Del.tail (by k_ne) (by first | exact Del.head (by repeat' (first | exact List.forall_mem_nil _ | exact OwnOff.ne (by assumption) (by simp) | refine List.forall_mem_cons.mpr ⟨by k_ne, ?_⟩)) | exact Del.tail (by k_ne) (by first | exact Del.head (by repeat' (first | exact List.forall_mem_nil _ | exact OwnOff.ne (by assumption) (by simp) | refine List.forall_mem_cons.mpr ⟨by k_ne, ?_⟩)) | exact Del.tail (by k_ne) (by first | exact Del.head (by repeat' (first | exact List.forall_mem_nil _ | exact OwnOff.ne (by assumption) (by simp) | refine List.forall_mem_cons.mpr ⟨by k_ne, ?_⟩)) | exact Del.tail (by k_ne) (by exact Del.head (by repeat' (first | exact List.forall_mem_nil _ | exact OwnOff.ne (by assumption) (by simp) | refine List.forall_mem_cons.mpr ⟨by k_ne, ?_⟩))))))))))))); (case zzkc => k_mem); (case zzk7 => omega); (case zzk8 => assumption); (case zzk9 => assumption); (case zzk10 => assumption); (case zzk11 => omega); (case zzk12 => omega); (case zzk13 => decide); (case zzk14 => ktr_room); (case zzk15 => ktr_units); k_whole); intro r9 t9 t8 h9 tk9 n9 r0 r1 F9 N9; (try dsimp only); (try k_fold); (try k_sweep)) | (k_dflt (refine' words_use ?zzk1 ?zzk2 ?zzk3 ?zzk4 ?zzk5 ?zzk6 ?zzk7 ?zzk8 ?zzk9 ?zzk10 ?zzk14 ?zzk15 ?_; (case zzk1 => k_asm); (case zzk2 => k_asm); (case zzk3 => k_asm); (case zzk4 => k_asm); (case zzk5 => k_asm); (case zzk6 => first | exact rfl | assumption); (case zzk7 => assumption); (case zzk8 => assumption); (case zzk9 => assumption); (case zzk10 => assumption); (case zzk14 => ktr_room); (case zzk15 => ktr_units); k_whole); intro vs9 h9 tk9 n9 D9 S9 F9 N9 lo9; (try k_lt lo9); (try dsimp only); (try k_fold); (try k_sweep)) | (k_dflt (refine' lw_use ?zzk1 ?zzk2 ?zzk3 ?zzk4 ?zzk5 ?zzk6 ?zzk7 ?zzk8 ?zzk9 ?zzk10 ?zzk14 ?zzk15 ?_; (case zzk1 => k_asm); (case zzk2 => k_asm); (case zzk3 => k_asm); (case zzk4 => k_asm); (case zzk5 => k_asm); (case zzk6 => first | exact rfl | assumption); (case zzk7 => assumption); (case zzk8 => assumption); (case zzk9 => assumption); (case zzk10 => assumption); (case zzk14 => ktr_room); (case zzk15 => ktr_units); k_whole); intro vs9 h9 tk9 n9 D9 S9 F9 N9 lo9; (try k_lt lo9); (try dsimp only); (try k_fold); (try k_sweep)) | (k_dflt (refine' flag_use ?zzk1 ?zzk2 ?zzk3 ?zzk4 ?zzk5 ?zzk6 ?zzkl ?zzkO ?zzkS ?zzkh ?zzk14 ?zzk15 ?_; (case zzk1 => k_asm); (case zzk2 => k_asm); (case zzk3 => k_asm); (case zzk4 => k_asm); (case zzk5 => k_asm); (case zzk6 => first | exact rfl | assumption); (case zzkl => k_mem); (case zzkO => (first | exact ⟨_, .inl rfl⟩ | exact ⟨_, .inr rfl⟩)); (case zzkS => first | assumption | exact strs_rev (by assumption)); (case zzkh => first | assumption | exact ok_of_txt (by assumption)); (case zzk14 => ktr_room); (case zzk15 => ktr_units); k_whole); intro v1 v2 t9 t8 h9 tk9 n9 D9 e9 F9 N9 lo9; (try k_lt lo9); (try dsimp only); (try k_fold); (try k_sweep)) | (k_dflt (refine' read_use ?zzk1 ?zzk2 ?zzk3 ?zzk4 ?zzk5 ?zzk6 ?zzkl ?zzkh ?zzk14 ?zzk15 ?_; (case zzk1 => k_asm); (case zzk2 => k_asm); (case zzk3 => k_asm); (case zzk4 => k_asm); (case zzk5 => k_asm); (case zzk6 => first | exact rfl | assumption); (case zzkl => k_mem); (case zzkh => assumption); (case zzk14 => ktr_room); (case zzk15 => ktr_units); k_whole); intro v1 v2 t9 t8 h9 tk9 n9 D9 e9 F9 N9 lo9; (try k_lt lo9); (try dsimp only); (try k_fold); (try k_sweep)))) | ((fail_if_success (with_reducible show wpAny _ _ (call (Value.type "range") [Value.int _ _]) _ _ _)); (first | walk1 | (dsimp only; walk1) | (leave1; (try dsimp only)))) | fail "no step")
  (try clear lF)
  (try clear lN)
  rename Int => nC
  have hnC := int3 (by assumption) (show nC < 4 by assumption)
  rename Fr _ _ _ _ => lF
  rename News _ _ _ _ => lN
  with_unfolding_all refine range1_rows lF lN ?_
  clear lF lN
  intro h' tk t₁ u₁ v₁ lR lF lN _
  with_unfolding_all refine' grow_range (σ := CS) (n := nC.toNat) (fun c => (tape, listOf #[.ref cells, .int c.pl c.t] c.n) :: (l, listOf (c.cs.map CE.ref).toArray c.nl) :: (cells, listOf vs.toArray nc) :: (s1.heap.objs.size + 1, oT) :: (s1.heap.objs.size + 1 + 1, oW) :: (s1.heap.objs.size + 1 + 1 + 1, o3) :: c.cs.map CE.ent) (fun c => [(Str.ofString "carets", Value.ref l)]) (CS.Ok l) ⟨[], _, _, _, _⟩ (by rfl) lR ?hs ?hn lF lN ?hk ?hp ?_ ?_
  case hs => rcases hnC with rfl | rfl | rfl | rfl <;> decide
  case hn => rcases hnC with rfl | rfl | rfl | rfl <;> decide
  case hk => kst_all
  case hp => exact ⟨rfl, by dsimp only; omega, by dsimp only; omega, fun e he => absurd he List.not_mem_nil, fun e he => absurd he List.not_mem_nil⟩
  · rintro ⟨cs, t6, n6, nl, p6⟩ i kk kt u h tk ow hi hkk ⟨hcl, hp6, hp7, hcs, hlo⟩ hoff kF kN
    clear lF lN lR
    dsimp only at kF kN hoff hcl hp6 hp7 hcs hlo
    simp only [List.cons_append] at kN
    have hin : (i : Int) < 3 := under3 (show nC < 4 by assumption) hi
    have hcs3 : cs.length ≤ 3 := eq3 hcl hin
    clear hnC
    have hoR : OwnOff (cs.map CE.ent ++ ow) [tape, l, cells, s1.heap.objs.size + 1, s1.heap.objs.size + 1 + 1, s1.heap.objs.size + 1 + 1 + 1] := by
      intro p hp b hb
      rcases List.mem_append.mp hp with hp | hp
      · obtain ⟨e, he, rfl⟩ := List.mem_map.mp hp
        have h1 : @LT.lt Nat _ l e.addr := hlo e he
        simp only [List.mem_cons, List.not_mem_nil, or_false] at hb
        intro q
        have q : @Eq Nat e.addr b := q
        rcases hb with hb | hb | hb | hb | hb | hb <;> (rw [hb] at q; exact off_gt (by first | exact Nat.le_refl _ | exact Nat.le_of_lt (by assumption)) h1 q)
      · refine hoff p hp b ?_
        simp only [List.map_cons, List.mem_cons] at hb ⊢
        simp only [List.not_mem_nil, or_false] at hb
        rcases hb with hb | hb | hb | hb | hb | hb <;> simp only [hb, true_or, or_true]
    have hcm : ∀ e ∈ cs, e.ent ∈ cs.map CE.ent ++ ow := fun e he => List.mem_append.mpr (.inl (List.mem_map.mpr ⟨e, he, rfl⟩))
    have how : ∀ p ∈ ow, p ∈ cs.map CE.ent ++ ow := fun p hp => List.mem_append.mpr (.inr hp)
    clear hi hkk
    revert hoR hcm how kN
    generalize cs.map CE.ent ++ ow = rest
    intro kN hoR hcm how
    try k_fold
    repeat' (first | (k_unfold; (try dsimp only)) | ((with_reducible show wpAny _ _ (call (Value.builtin "len") _) _ _ _); (k_here; (with_reducible show wpAny _ _ (call (Value.builtin "len") [Value.ref _]) _ _ _); k_dflt (refine' len_kl ?zzj1 ?zzj2 ?zzj3 ?_; (case zzj1 => k_asm); (case zzj2 => k_mem); (case zzj3 => assumption)); k_whole)) | ((with_reducible show wpAny _ _ (call (Value.type _) _) _ _ _); (k_here; (with_reducible show wpAny _ _ (call (Value.type _) [Value.ref _]) _ _ _); k_dflt (refine' kde_tupleOf ?zzk1 ?zzk2 ?zzk3 ?zzk4 ?zzk5 ?_; (case zzk1 => k_asm); (case zzk2 => k_asm); (case zzk3 => exact News.isList (by k_asm) (by k_mem)); (case zzk4 => (rw [List.size_toArray, List.length_map]; exact Nat.le_trans (by assumption : _ ≤ 3) (by decide))); (case zzk5 => exact List.toList_toArray ..); k_whole); intro D' h' F' N' l1; (try k_lt l1); (try k_sweep))) | ((with_reducible show wpAny _ _ (call (Value.ref _) _) _ _ _); (k_here; (k_dflt (refine' gdef_use ?zzk1 ?zzk2 ?zzk3 ?zzk4 ?zzk5 ?zzk6 ?zzk14 ?zzk15 ?_; (case zzk1 => k_asm); (case zzk2 => k_asm); (case zzk3 => k_asm); (case zzk4 => k_asm); (case zzk5 => k_asm); (case zzk6 => first | exact rfl | assumption); (case zzk14 => ktr_room); (case zzk15 => ktr_units); k_whole)); intro x9 dx9 d9 a1 a2 a3 a4 o9 t1 t2 t3 t4 t5 h9 tk9 F9 N9 lo9 lx9 ld9 ds9 i9; (try dsimp only); (try k_fold); (try k_sweep))) | ((with_reducible show wpAny _ _ (compareOp .NotEq (Value.ref _) (Value.ref _)) _ _ _); (k_here; first | (k_dflt (refine' ne_words ?zzN ?zza ?zzb ?zzsa ?zzsb ?zzp0 ?zzp1 ?zzp2 ?zzp3 ?zzhu ?_; (case zzN => k_asm); (case zza => k_mem); (case zzb => k_mem); (case zzsa => assumption); (case zzsb => assumption); (case zzp0 => assumption); (case zzp1 => assumption); (case zzp2 => assumption); (case zzp3 => assumption); (case zzhu => ktr_units)); (try dsimp only); (try k_fold)) | (k_dflt (refine' ne_pair ?zzN ?zza ?zzb ?zze1 ?zze2 ?zzhu ?_; (case zzN => k_asm); (case zza => k_mem); (case zzb => k_mem); (case zze1 => (first | exact pair_a (by assumption) (by assumption) | exact pair_b (by assumption) (by assumption) | exact pair_c (by assumption) (by assumption) (by assumption) | exact pair_d (by assumption) (by assumption) (by assumption))); (case zze2 => (first | exact pair_a (by assumption) (by assumption) | exact pair_b (by assumption) (by assumption) | exact pair_c (by assumption) (by assumption) (by assumption) | exact pair_d (by assumption) (by assumption) (by assumption))); (case zzhu => ktr_units)); (try dsimp only); (try k_fold)))) | ((with_reducible show wpAny _ _ (call (Value.type _) _) _ _ _); (k_here; (with_reducible show wpAny _ _ (call (Value.type _) [Value.ref _]) _ _ _); k_dflt (refine' kup_listOfT ?zzF ?zzN ?zzb ?zze ?_ ?zzz; (case zzF => k_asm); (case zzN => k_asm); (case zzb => k_mem); (case zze => exact List.toList_toArray ..); (case zzz => exact strs_size (by assumption))); intro D' c' h' F' N' l1; (try k_lt l1); (try k_sweep))) | ((with_reducible show wpAny _ _ (call (Value.ref _) _) _ _ _); (k_here; first | (k_dflt (refine' draw_use ?zzk1 ?zzk2 ?zzk3 ?zzk4 ?zzk5 ?zzk6 ?zzkD ?zzkc ?zzk7 ?zzk8 ?zzk9 ?zzk10 ?zzk11 ?zzk12 ?zzk13 ?zzk14 ?zzk15 ?_; (case zzk1 => k_asm); (case zzk2 => k_asm); (case zzk3 => k_asm); (case zzk4 => k_asm); (case zzk5 => k_asm); (case zzk6 => first | exact rfl | assumption); (case zzkD => (first | exact Del.head (by repeat' (first | exact List.forall_mem_nil _ | exact OwnOff.ne (by assumption) (by simp) | refine List.forall_mem_cons.mpr ⟨by k_ne, ?_⟩)) | exact Del.tail (by k_ne) (by first | exact Del.head (by repeat' (first | exact List.forall_mem_nil _ | exact OwnOff.ne (by assumption) (by simp) | refine List.forall_mem_cons.mpr ⟨by k_ne, ?_⟩)) | exact Del.tail (by k_ne) (by first | exact Del.head (by repeat' (first | exact List.forall_mem_nil _ | exact OwnOff.ne (by assumption) (by simp) | refine List.forall_mem_cons.mpr ⟨by k_ne, ?_⟩)) | exact Del.tail (by k_ne) (by first | exact Del.head (by repeat' (first | exact List.forall_mem_nil _ | exact OwnOff.ne (by assumption) (by simp) | refine List.forall_mem_cons.mpr ⟨by k_ne, ?_⟩)) | exact Del.tail (by k_ne) (by first | exact Del.head (by repeat' (first | exact List.forall_mem_nil _ | exact OwnOff.ne (by assumption) (by simp) | refine List.forall_mem_cons.mpr ⟨by k_ne, ?_⟩)) | exact Del.tail (by k_ne) (by first | exact Del.head (by repeat' (first | exact List.forall_mem_nil _ | exact OwnOff.ne (by assumption) (by simp) | refine List.forall_mem_cons.mpr ⟨by k_ne, ?_⟩)) | exact Del.tail (by k_ne) (by first | exact Del.head (by repeat' (first | exact List.forall_mem_nil _ | exact OwnOff.ne (by assumption) (by simp) | refine List.forall_mem_cons.mpr ⟨by k_ne, ?_⟩)) | exact Del.tail (by k_ne) (by first | exact Del.head (by repeat' (first | exact List.forall_mem_nil _ | exact OwnOff.ne (by assumption) (by simp) | refine List.forall_mem_cons.mpr ⟨by k_ne, ?_⟩)) | exact Del.tail (by k_ne) (by first | exact Del.head (by repeat' (first | exact List.forall_mem_nil _ | exact OwnOff.ne (by assumption) (by simp) | refine List.forall_mem_cons.mpr ⟨by k_ne, ?_⟩)) | exact Del.tail (by k_ne) (by exact Del.head (by repeat' (first | exact List.forall_mem_nil _ | exact OwnOff.ne (by assumption) (by simp) | refine List.forall_mem_cons.mpr ⟨by k_ne, ?_⟩))))))))))))); (case zzkc => k_mem); (case zzk7 => omega); (case zzk8 => assumption); (case zzk9 => assumption); (case zzk10 => assumption); (case zzk11 => omega); (case zzk12 => omega); (case zzk13 => decide); (case zzk14 => ktr_room); (case zzk15 => ktr_units); k_whole); intro r9 t9 t8 h9 tk9 n9 r0 r1 F9 N9; (try dsimp only); (try k_fold); (try k_sweep)) | (k_dflt (refine' words_use ?zzk1 ?zzk2 ?zzk3 ?zzk4 ?zzk5 ?zzk6 ?zzk7 ?zzk8 ?zzk9 ?zzk10 ?zzk14 ?zzk15 ?_; (case zzk1 => k_asm); (case zzk2 => k_asm); (case zzk3 => k_asm); (case zzk4 => k_asm); (case zzk5 => k_asm); (case zzk6 => first | exact rfl | assumption); (case zzk7 => assumption); (case zzk8 => assumption); (case zzk9 => assumption); (case zzk10 => assumption); (case zzk14 => ktr_room); (case zzk15 => ktr_units); k_whole); intro vs9 h9 tk9 n9 D9 S9 F9 N9 lo9; (try k_lt lo9); (try dsimp only); (try k_fold); (try k_sweep)) | (k_dflt (refine' lw_use ?zzk1 ?zzk2 ?zzk3 ?zzk4 ?zzk5 ?zzk6 ?zzk7 ?zzk8 ?zzk9 ?zzk10 ?zzk14 ?zzk15 ?_; (case zzk1 => k_asm); (case zzk2 => k_asm); (case zzk3 => k_asm); (case zzk4 => k_asm); (case zzk5 => k_asm); (case zzk6 => first | exact rfl | assumption); (case zzk7 => assumption); (case zzk8 => assumption); (case zzk9 => assumption); (case zzk10 => assumption); (case zzk14 => ktr_room); (case zzk15 => ktr_units); k_whole); intro vs9 h9 tk9 n9 D9 S9 F9 N9 lo9; (try k_lt lo9); (try dsimp only); (try k_fold); (try k_sweep)) | (k_dflt (refine' flag_use ?zzk1 ?zzk2 ?zzk3 ?zzk4 ?zzk5 ?zzk6 ?zzkl ?zzkO ?zzkS ?zzkh ?zzk14 ?zzk15 ?_; (case zzk1 => k_asm); (case zzk2 => k_asm); (case zzk3 => k_asm); (case zzk4 => k_asm); (case zzk5 => k_asm); (case zzk6 => first | exact rfl | assumption); (case zzkl => k_mem); (case zzkO => (first | exact ⟨_, .inl rfl⟩ | exact ⟨_, .inr rfl⟩)); (case zzkS => first | assumption | exact strs_rev (by assumption)); (case zzkh => first | assumption | exact ok_of_txt (by assumption)); (case zzk14 => ktr_room); (case zzk15 => ktr_units); k_whole); intro v1 v2 t9 t8 h9 tk9 n9 D9 e9 F9 N9 lo9; (try k_lt lo9); (try dsimp only); (try k_fold); (try k_sweep)) | (k_dflt (refine' read_use ?zzk1 ?zzk2 ?zzk3 ?zzk4 ?zzk5 ?zzk6 ?zzkl ?zzkh ?zzk14 ?zzk15 ?_; (case zzk1 => k_asm); (case zzk2 => k_asm); (case zzk3 => k_asm); (case zzk4 => k_asm); (case zzk5 => k_asm); (case zzk6 => first | exact rfl | assumption); (case zzkl => k_mem); (case zzkh => assumption); (case zzk14 => ktr_room); (case zzk15 => ktr_units); k_whole); intro v1 v2 t9 t8 h9 tk9 n9 D9 e9 F9 N9 lo9; (try k_lt lo9); (try dsimp only); (try k_fold); (try k_sweep)))) | ((fail_if_success (with_reducible show wpAny _ _ (subscriptTail _ _ _ _) _ _ _)); (first | walk1 | (dsimp only; walk1) | (leave1; (try dsimp only)))) | fail "no step")
    k_dflt (refine' pick3 ?j1 ?j2 ?j3 ?j4 ?_ ?j5; (case j1 => k_asm); (case j2 => k_mem); (case j3 => assumption); (case j4 => assumption); (case j5 => with_unfolding_all rfl))
    intro kd tkd hkd
    repeat' (first | (k_unfold; (try dsimp only)) | ((with_reducible show wpAny _ _ (call (Value.builtin "len") _) _ _ _); (k_here; (with_reducible show wpAny _ _ (call (Value.builtin "len") [Value.ref _]) _ _ _); k_dflt (refine' len_kl ?zzj1 ?zzj2 ?zzj3 ?_; (case zzj1 => k_asm); (case zzj2 => k_mem); (case zzj3 => assumption)); k_whole)) | ((with_reducible show wpAny _ _ (call (Value.type _) _) _ _ _); (k_here; (with_reducible show wpAny _ _ (call (Value.type _) [Value.ref _]) _ _ _); k_dflt (refine' kde_tupleOf ?zzk1 ?zzk2 ?zzk3 ?zzk4 ?zzk5 ?_; (case zzk1 => k_asm); (case zzk2 => k_asm); (case zzk3 => exact News.isList (by k_asm) (by k_mem)); (case zzk4 => (rw [List.size_toArray, List.length_map]; exact Nat.le_trans (by assumption : _ ≤ 3) (by decide))); (case zzk5 => exact List.toList_toArray ..); k_whole); intro D' h' F' N' l1; (try k_lt l1); (try k_sweep))) | ((with_reducible show wpAny _ _ (call (Value.ref _) _) _ _ _); (k_here; (k_dflt (refine' gdef_use ?zzk1 ?zzk2 ?zzk3 ?zzk4 ?zzk5 ?zzk6 ?zzk14 ?zzk15 ?_; (case zzk1 => k_asm); (case zzk2 => k_asm); (case zzk3 => k_asm); (case zzk4 => k_asm); (case zzk5 => k_asm); (case zzk6 => first | exact rfl | assumption); (case zzk14 => ktr_room); (case zzk15 => ktr_units); k_whole)); intro x9 dx9 d9 a1 a2 a3 a4 o9 t1 t2 t3 t4 t5 h9 tk9 F9 N9 lo9 lx9 ld9 ds9 i9; (try dsimp only); (try k_fold); (try k_sweep))) | ((with_reducible show wpAny _ _ (compareOp .NotEq (Value.ref _) (Value.ref _)) _ _ _); (k_here; first | (k_dflt (refine' ne_words ?zzN ?zza ?zzb ?zzsa ?zzsb ?zzp0 ?zzp1 ?zzp2 ?zzp3 ?zzhu ?_; (case zzN => k_asm); (case zza => k_mem); (case zzb => k_mem); (case zzsa => assumption); (case zzsb => assumption); (case zzp0 => assumption); (case zzp1 => assumption); (case zzp2 => assumption); (case zzp3 => assumption); (case zzhu => ktr_units)); (try dsimp only); (try k_fold)) | (k_dflt (refine' ne_pair ?zzN ?zza ?zzb ?zze1 ?zze2 ?zzhu ?_; (case zzN => k_asm); (case zza => k_mem); (case zzb => k_mem); (case zze1 => (first | exact pair_a (by assumption) (by assumption) | exact pair_b (by assumption) (by assumption) | exact pair_c (by assumption) (by assumption) (by assumption) | exact pair_d (by assumption) (by assumption) (by assumption))); (case zze2 => (first | exact pair_a (by assumption) (by assumption) | exact pair_b (by assumption) (by assumption) | exact pair_c (by assumption) (by assumption) (by assumption) | exact pair_d (by assumption) (by assumption) (by assumption))); (case zzhu => ktr_units)); (try dsimp only); (try k_fold)))) | ((with_reducible show wpAny _ _ (call (Value.type _) _) _ _ _); (k_here; (with_reducible show wpAny _ _ (call (Value.type _) [Value.ref _]) _ _ _); k_dflt (refine' kup_listOfT ?zzF ?zzN ?zzb ?zze ?_ ?zzz; (case zzF => k_asm); (case zzN => k_asm); (case zzb => k_mem); (case zze => exact List.toList_toArray ..); (case zzz => exact strs_size (by assumption))); intro D' c' h' F' N' l1; (try k_lt l1); (try k_sweep))) | ((with_reducible show wpAny _ _ (call (Value.ref _) _) _ _ _); (k_here; first | (k_dflt (refine' draw_use ?zzk1 ?zzk2 ?zzk3 ?zzk4 ?zzk5 ?zzk6 ?zzkD ?zzkc ?zzk7 ?zzk8 ?zzk9 ?zzk10 ?zzk11 ?zzk12 ?zzk13 ?zzk14 ?zzk15 ?_; (case zzk1 => k_asm); (case zzk2 => k_asm); (case zzk3 => k_asm); (case zzk4 => k_asm); (case zzk5 => k_asm); (case zzk6 => first | exact rfl | assumption); (case zzkD => (first | exact Del.head (by repeat' (first | exact List.forall_mem_nil _ | exact OwnOff.ne (by assumption) (by simp) | refine List.forall_mem_cons.mpr ⟨by k_ne, ?_⟩)) | exact Del.tail (by k_ne) (by first | exact Del.head (by repeat' (first | exact List.forall_mem_nil _ | exact OwnOff.ne (by assumption) (by simp) | refine List.forall_mem_cons.mpr ⟨by k_ne, ?_⟩)) | exact Del.tail (by k_ne) (by first | exact Del.head (by repeat' (first | exact List.forall_mem_nil _ | exact OwnOff.ne (by assumption) (by simp) | refine List.forall_mem_cons.mpr ⟨by k_ne, ?_⟩)) | exact Del.tail (by k_ne) (by first | exact Del.head (by repeat' (first | exact List.forall_mem_nil _ | exact OwnOff.ne (by assumption) (by simp) | refine List.forall_mem_cons.mpr ⟨by k_ne, ?_⟩)) | exact Del.tail (by k_ne) (by first | exact Del.head (by repeat' (first | exact List.forall_mem_nil _ | exact OwnOff.ne (by assumption) (by simp) | refine List.forall_mem_cons.mpr ⟨by k_ne, ?_⟩)) | exact Del.tail (by k_ne) (by first | exact Del.head (by repeat' (first | exact List.forall_mem_nil _ | exact OwnOff.ne (by assumption) (by simp) | refine List.forall_mem_cons.mpr ⟨by k_ne, ?_⟩)) | exact Del.tail (by k_ne) (by first | exact Del.head (by repeat' (first | exact List.forall_mem_nil _ | exact OwnOff.ne (by assumption) (by simp) | refine List.forall_mem_cons.mpr ⟨by k_ne, ?_⟩)) | exact Del.tail (by k_ne) (by first | exact Del.head (by repeat' (first | exact List.forall_mem_nil _ | exact OwnOff.ne (by assumption) (by simp) | refine List.forall_mem_cons.mpr ⟨by k_ne, ?_⟩)) | exact Del.tail (by k_ne) (by first | exact Del.head (by repeat' (first | exact List.forall_mem_nil _ | exact OwnOff.ne (by assumption) (by simp) | refine List.forall_mem_cons.mpr ⟨by k_ne, ?_⟩)) | exact Del.tail (by k_ne) (by exact Del.head (by repeat' (first | exact List.forall_mem_nil _ | exact OwnOff.ne (by assumption) (by simp) | refine List.forall_mem_cons.mpr ⟨by k_ne, ?_⟩))))))))))))); (case zzkc => k_mem); (case zzk7 => omega); (case zzk8 => assumption); (case zzk9 => assumption); (case zzk10 => assumption); (case zzk11 => omega); (case zzk12 => omega); (case zzk13 => decide); (case zzk14 => ktr_room); (case zzk15 => ktr_units); k_whole); intro r9 t9 t8 h9 tk9 n9 r0 r1 F9 N9; (try dsimp only); (try k_fold); (try k_sweep)) | (k_dflt (refine' words_use ?zzk1 ?zzk2 ?zzk3 ?zzk4 ?zzk5 ?zzk6 ?zzk7 ?zzk8 ?zzk9 ?zzk10 ?zzk14 ?zzk15 ?_; (case zzk1 => k_asm); (case zzk2 => k_asm); (case zzk3 => k_asm); (case zzk4 => k_asm); (case zzk5 => k_asm); (case zzk6 => first | exact rfl | assumption); (case zzk7 => assumption); (case zzk8 => assumption); (case zzk9 => assumption); (case zzk10 => assumption); (case zzk14 => ktr_room); (case zzk15 => ktr_units); k_whole); intro vs9 h9 tk9 n9 D9 S9 F9 N9 lo9; (try k_lt lo9); (try dsimp only); (try k_fold); (try k_sweep)) | (k_dflt (refine' lw_use ?zzk1 ?zzk2 ?zzk3 ?zzk4 ?zzk5 ?zzk6 ?zzk7 ?zzk8 ?zzk9 ?zzk10 ?zzk14 ?zzk15 ?_; (case zzk1 => k_asm); (case zzk2 => k_asm); (case zzk3 => k_asm); (case zzk4 => k_asm); (case zzk5 => k_asm); (case zzk6 => first | exact rfl | assumption); (case zzk7 => assumption); (case zzk8 => assumption); (case zzk9 => assumption); (case zzk10 => assumption); (case zzk14 => ktr_room); (case zzk15 => ktr_units); k_whole); intro vs9 h9 tk9 n9 D9 S9 F9 N9 lo9; (try k_lt lo9); (try dsimp only); (try k_fold); (try k_sweep)) | (k_dflt (refine' flag_use ?zzk1 ?zzk2 ?zzk3 ?zzk4 ?zzk5 ?zzk6 ?zzkl ?zzkO ?zzkS ?zzkh ?zzk14 ?zzk15 ?_; (case zzk1 => k_asm); (case zzk2 => k_asm); (case zzk3 => k_asm); (case zzk4 => k_asm); (case zzk5 => k_asm); (case zzk6 => first | exact rfl | assumption); (case zzkl => k_mem); (case zzkO => (first | exact ⟨_, .inl rfl⟩ | exact ⟨_, .inr rfl⟩)); (case zzkS => first | assumption | exact strs_rev (by assumption)); (case zzkh => first | assumption | exact ok_of_txt (by assumption)); (case zzk14 => ktr_room); (case zzk15 => ktr_units); k_whole); intro v1 v2 t9 t8 h9 tk9 n9 D9 e9 F9 N9 lo9; (try k_lt lo9); (try dsimp only); (try k_fold); (try k_sweep)) | (k_dflt (refine' read_use ?zzk1 ?zzk2 ?zzk3 ?zzk4 ?zzk5 ?zzk6 ?zzkl ?zzkh ?zzk14 ?zzk15 ?_; (case zzk1 => k_asm); (case zzk2 => k_asm); (case zzk3 => k_asm); (case zzk4 => k_asm); (case zzk5 => k_asm); (case zzk6 => first | exact rfl | assumption); (case zzkl => k_mem); (case zzkh => assumption); (case zzk14 => ktr_room); (case zzk15 => ktr_units); k_whole); intro v1 v2 t9 t8 h9 tk9 n9 D9 e9 F9 N9 lo9; (try k_lt lo9); (try dsimp only); (try k_fold); (try k_sweep)))) | ((fail_if_success (with_reducible show wpAny _ _ (call (Value.builtin "list.append") _) _ _ _)); (first | walk1 | (dsimp only; walk1) | (leave1; (try dsimp only)))) | fail "no step")
    k_dflt (refine' append_K ?j1 ?j2 ?j3 ?_ ?j4; (case j1 => k_asm); (case j2 => k_asm); (case j3 => (first | exact Upd.head (by repeat' (first | exact List.forall_mem_nil _ | exact OwnOff.ne (by assumption) (by simp) | refine List.forall_mem_cons.mpr ⟨by k_ne, ?_⟩)) | exact Upd.tail (by k_ne) (by first | exact Upd.head (by repeat' (first | exact List.forall_mem_nil _ | exact OwnOff.ne (by assumption) (by simp) | refine List.forall_mem_cons.mpr ⟨by k_ne, ?_⟩)) | exact Upd.tail (by k_ne) (by first | exact Upd.head (by repeat' (first | exact List.forall_mem_nil _ | exact OwnOff.ne (by assumption) (by simp) | refine List.forall_mem_cons.mpr ⟨by k_ne, ?_⟩)) | exact Upd.tail (by k_ne) (by first | exact Upd.head (by repeat' (first | exact List.forall_mem_nil _ | exact OwnOff.ne (by assumption) (by simp) | refine List.forall_mem_cons.mpr ⟨by k_ne, ?_⟩)) | exact Upd.tail (by k_ne) (by first | exact Upd.head (by repeat' (first | exact List.forall_mem_nil _ | exact OwnOff.ne (by assumption) (by simp) | refine List.forall_mem_cons.mpr ⟨by k_ne, ?_⟩)) | exact Upd.tail (by k_ne) (by first | exact Upd.head (by repeat' (first | exact List.forall_mem_nil _ | exact OwnOff.ne (by assumption) (by simp) | refine List.forall_mem_cons.mpr ⟨by k_ne, ?_⟩)) | exact Upd.tail (by k_ne) (by first | exact Upd.head (by repeat' (first | exact List.forall_mem_nil _ | exact OwnOff.ne (by assumption) (by simp) | refine List.forall_mem_cons.mpr ⟨by k_ne, ?_⟩)) | exact Upd.tail (by k_ne) (by first | exact Upd.head (by repeat' (first | exact List.forall_mem_nil _ | exact OwnOff.ne (by assumption) (by simp) | refine List.forall_mem_cons.mpr ⟨by k_ne, ?_⟩)) | exact Upd.tail (by k_ne) (by first | exact Upd.head (by repeat' (first | exact List.forall_mem_nil _ | exact OwnOff.ne (by assumption) (by simp) | refine List.forall_mem_cons.mpr ⟨by k_ne, ?_⟩)) | exact Upd.tail (by k_ne) (by exact Upd.head (by repeat' (first | exact List.forall_mem_nil _ | exact OwnOff.ne (by assumption) (by simp) | refine List.forall_mem_cons.mpr ⟨by k_ne, ?_⟩))))))))))))); (case j4 => (simp only [List.size_toArray, List.length_map]; first | exact le3_size hcs3 | exact Nat.le_trans (by omega : _ ≤ 10) (by decide))))
    intro h8 F8 N8
    try k_sweep
    repeat' (first | (k_unfold; (try dsimp only)) | ((with_reducible show wpAny _ _ (call (Value.builtin "len") _) _ _ _); (k_here; (with_reducible show wpAny _ _ (call (Value.builtin "len") [Value.ref _]) _ _ _); k_dflt (refine' len_kl ?zzj1 ?zzj2 ?zzj3 ?_; (case zzj1 => k_asm); (case zzj2 => k_mem); (case zzj3 => assumption)); k_whole)) | ((with_reducible show wpAny _ _ (call (Value.type _) _) _ _ _); (k_here; (with_reducible show wpAny _ _ (call (Value.type _) [Value.ref _]) _ _ _); k_dflt (refine' kde_tupleOf ?zzk1 ?zzk2 ?zzk3 ?zzk4 ?zzk5 ?_; (case zzk1 => k_asm); (case zzk2 => k_asm); (case zzk3 => exact News.isList (by k_asm) (by k_mem)); (case zzk4 => (rw [List.size_toArray, List.length_map]; exact Nat.le_trans (by assumption : _ ≤ 3) (by decide))); (case zzk5 => exact List.toList_toArray ..); k_whole); intro D' h' F' N' l1; (try k_lt l1); (try k_sweep))) | ((with_reducible show wpAny _ _ (call (Value.ref _) _) _ _ _); (k_here; (k_dflt (refine' gdef_use ?zzk1 ?zzk2 ?zzk3 ?zzk4 ?zzk5 ?zzk6 ?zzk14 ?zzk15 ?_; (case zzk1 => k_asm); (case zzk2 => k_asm); (case zzk3 => k_asm); (case zzk4 => k_asm); (case zzk5 => k_asm); (case zzk6 => first | exact rfl | assumption); (case zzk14 => ktr_room); (case zzk15 => ktr_units); k_whole)); intro x9 dx9 d9 a1 a2 a3 a4 o9 t1 t2 t3 t4 t5 h9 tk9 F9 N9 lo9 lx9 ld9 ds9 i9; (try dsimp only); (try k_fold); (try k_sweep))) | ((with_reducible show wpAny _ _ (compareOp .NotEq (Value.ref _) (Value.ref _)) _ _ _); (k_here; first | (k_dflt (refine' ne_words ?zzN ?zza ?zzb ?zzsa ?zzsb ?zzp0 ?zzp1 ?zzp2 ?zzp3 ?zzhu ?_; (case zzN => k_asm); (case zza => k_mem); (case zzb => k_mem); (case zzsa => assumption); (case zzsb => assumption); (case zzp0 => assumption); (case zzp1 => assumption); (case zzp2 => assumption); (case zzp3 => assumption); (case zzhu => ktr_units)); (try dsimp only); (try k_fold)) | (k_dflt (refine' ne_pair ?zzN ?zza ?zzb ?zze1 ?zze2 ?zzhu ?_; (case zzN => k_asm); (case zza => k_mem); (case zzb => k_mem); (case zze1 => (first | exact pair_a (by assumption) (by assumption) | exact pair_b (by assumption) (by assumption) | exact pair_c (by assumption) (by assumption) (by assumption) | exact pair_d (by assumption) (by assumption) (by assumption))); (case zze2 => (first | exact pair_a (by assumption) (by assumption) | exact pair_b (by assumption) (by assumption) | exact pair_c (by assumption) (by assumption) (by assumption) | exact pair_d (by assumption) (by assumption) (by assumption))); (case zzhu => ktr_units)); (try dsimp only); (try k_fold)))) | ((with_reducible show wpAny _ _ (call (Value.type _) _) _ _ _); (k_here; (with_reducible show wpAny _ _ (call (Value.type _) [Value.ref _]) _ _ _); k_dflt (refine' kup_listOfT ?zzF ?zzN ?zzb ?zze ?_ ?zzz; (case zzF => k_asm); (case zzN => k_asm); (case zzb => k_mem); (case zze => exact List.toList_toArray ..); (case zzz => exact strs_size (by assumption))); intro D' c' h' F' N' l1; (try k_lt l1); (try k_sweep))) | ((with_reducible show wpAny _ _ (call (Value.ref _) _) _ _ _); (k_here; first | (k_dflt (refine' draw_use ?zzk1 ?zzk2 ?zzk3 ?zzk4 ?zzk5 ?zzk6 ?zzkD ?zzkc ?zzk7 ?zzk8 ?zzk9 ?zzk10 ?zzk11 ?zzk12 ?zzk13 ?zzk14 ?zzk15 ?_; (case zzk1 => k_asm); (case zzk2 => k_asm); (case zzk3 => k_asm); (case zzk4 => k_asm); (case zzk5 => k_asm); (case zzk6 => first | exact rfl | assumption); (case zzkD => (first | exact Del.head (by repeat' (first | exact List.forall_mem_nil _ | exact OwnOff.ne (by assumption) (by simp) | refine List.forall_mem_cons.mpr ⟨by k_ne, ?_⟩)) | exact Del.tail (by k_ne) (by first | exact Del.head (by repeat' (first | exact List.forall_mem_nil _ | exact OwnOff.ne (by assumption) (by simp) | refine List.forall_mem_cons.mpr ⟨by k_ne, ?_⟩)) | exact Del.tail (by k_ne) (by first | exact Del.head (by repeat' (first | exact List.forall_mem_nil _ | exact OwnOff.ne (by assumption) (by simp) | refine List.forall_mem_cons.mpr ⟨by k_ne, ?_⟩)) | exact Del.tail (by k_ne) (by first | exact Del.head (by repeat' (first | exact List.forall_mem_nil _ | exact OwnOff.ne (by assumption) (by simp) | refine List.forall_mem_cons.mpr ⟨by k_ne, ?_⟩)) | exact Del.tail (by k_ne) (by first | exact Del.head (by repeat' (first | exact List.forall_mem_nil _ | exact OwnOff.ne (by assumption) (by simp) | refine List.forall_mem_cons.mpr ⟨by k_ne, ?_⟩)) | exact Del.tail (by k_ne) (by first | exact Del.head (by repeat' (first | exact List.forall_mem_nil _ | exact OwnOff.ne (by assumption) (by simp) | refine List.forall_mem_cons.mpr ⟨by k_ne, ?_⟩)) | exact Del.tail (by k_ne) (by first | exact Del.head (by repeat' (first | exact List.forall_mem_nil _ | exact OwnOff.ne (by assumption) (by simp) | refine List.forall_mem_cons.mpr ⟨by k_ne, ?_⟩)) | exact Del.tail (by k_ne) (by first | exact Del.head (by repeat' (first | exact List.forall_mem_nil _ | exact OwnOff.ne (by assumption) (by simp) | refine List.forall_mem_cons.mpr ⟨by k_ne, ?_⟩)) | exact Del.tail (by k_ne) (by first | exact Del.head (by repeat' (first | exact List.forall_mem_nil _ | exact OwnOff.ne (by assumption) (by simp) | refine List.forall_mem_cons.mpr ⟨by k_ne, ?_⟩)) | exact Del.tail (by k_ne) (by exact Del.head (by repeat' (first | exact List.forall_mem_nil _ | exact OwnOff.ne (by assumption) (by simp) | refine List.forall_mem_cons.mpr ⟨by k_ne, ?_⟩))))))))))))); (case zzkc => k_mem); (case zzk7 => omega); (case zzk8 => assumption); (case zzk9 => assumption); (case zzk10 => assumption); (case zzk11 => omega); (case zzk12 => omega); (case zzk13 => decide); (case zzk14 => ktr_room); (case zzk15 => ktr_units); k_whole); intro r9 t9 t8 h9 tk9 n9 r0 r1 F9 N9; (try dsimp only); (try k_fold); (try k_sweep)) | (k_dflt (refine' words_use ?zzk1 ?zzk2 ?zzk3 ?zzk4 ?zzk5 ?zzk6 ?zzk7 ?zzk8 ?zzk9 ?zzk10 ?zzk14 ?zzk15 ?_; (case zzk1 => k_asm); (case zzk2 => k_asm); (case zzk3 => k_asm); (case zzk4 => k_asm); (case zzk5 => k_asm); (case zzk6 => first | exact rfl | assumption); (case zzk7 => assumption); (case zzk8 => assumption); (case zzk9 => assumption); (case zzk10 => assumption); (case zzk14 => ktr_room); (case zzk15 => ktr_units); k_whole); intro vs9 h9 tk9 n9 D9 S9 F9 N9 lo9; (try k_lt lo9); (try dsimp only); (try k_fold); (try k_sweep)) | (k_dflt (refine' lw_use ?zzk1 ?zzk2 ?zzk3 ?zzk4 ?zzk5 ?zzk6 ?zzk7 ?zzk8 ?zzk9 ?zzk10 ?zzk14 ?zzk15 ?_; (case zzk1 => k_asm); (case zzk2 => k_asm); (case zzk3 => k_asm); (case zzk4 => k_asm); (case zzk5 => k_asm); (case zzk6 => first | exact rfl | assumption); (case zzk7 => assumption); (case zzk8 => assumption); (case zzk9 => assumption); (case zzk10 => assumption); (case zzk14 => ktr_room); (case zzk15 => ktr_units); k_whole); intro vs9 h9 tk9 n9 D9 S9 F9 N9 lo9; (try k_lt lo9); (try dsimp only); (try k_fold); (try k_sweep)) | (k_dflt (refine' flag_use ?zzk1 ?zzk2 ?zzk3 ?zzk4 ?zzk5 ?zzk6 ?zzkl ?zzkO ?zzkS ?zzkh ?zzk14 ?zzk15 ?_; (case zzk1 => k_asm); (case zzk2 => k_asm); (case zzk3 => k_asm); (case zzk4 => k_asm); (case zzk5 => k_asm); (case zzk6 => first | exact rfl | assumption); (case zzkl => k_mem); (case zzkO => (first | exact ⟨_, .inl rfl⟩ | exact ⟨_, .inr rfl⟩)); (case zzkS => first | assumption | exact strs_rev (by assumption)); (case zzkh => first | assumption | exact ok_of_txt (by assumption)); (case zzk14 => ktr_room); (case zzk15 => ktr_units); k_whole); intro v1 v2 t9 t8 h9 tk9 n9 D9 e9 F9 N9 lo9; (try k_lt lo9); (try dsimp only); (try k_fold); (try k_sweep)) | (k_dflt (refine' read_use ?zzk1 ?zzk2 ?zzk3 ?zzk4 ?zzk5 ?zzk6 ?zzkl ?zzkh ?zzk14 ?zzk15 ?_; (case zzk1 => k_asm); (case zzk2 => k_asm); (case zzk3 => k_asm); (case zzk4 => k_asm); (case zzk5 => k_asm); (case zzk6 => first | exact rfl | assumption); (case zzkl => k_mem); (case zzkh => assumption); (case zzk14 => ktr_room); (case zzk15 => ktr_units); k_whole); intro v1 v2 t9 t8 h9 tk9 n9 D9 e9 F9 N9 lo9; (try k_lt lo9); (try dsimp only); (try k_fold); (try k_sweep)))) | walk1 | (dsimp only; walk1) | (leave1; (try dsimp only)) | fail "no step")
    rename News _ _ _ _ => nE
    exact caret_end (by assumption) nE hcm how (by (first | assumption | exact And.right (by assumption) | exact And.right (And.right (by assumption)) | exact And.right (And.right (And.right (by assumption))) | exact And.right (And.right (And.right (And.right (by assumption)))) | exact And.right (And.right (And.right (And.right (And.right (by assumption))))) | exact And.right (And.right (And.right (And.right (And.right (And.right (by assumption)))))) | exact And.right (And.right (And.right (And.right (And.right (And.right (And.right (by assumption))))))) | exact And.right (And.right (And.right (And.right (And.right (And.right (And.right (And.right (by assumption)))))))) | exact And.right (And.right (And.right (And.right (And.right (And.right (And.right (And.right (And.right (by assumption))))))))) | exact And.right (And.right (And.right (And.right (And.right (And.right (And.right (And.right (And.right (And.right (by assumption)))))))))) | exact And.right (And.right (And.right (And.right (And.right (And.right (And.right (And.right (And.right (And.right (And.right (by assumption))))))))))))) (by omega) (by rfl) hoR hoff hcl (by omega) (by omega) hcs hlo hkd
  rintro ⟨cs, t6, n6, nl, p6⟩ u6 h6 tk6 ⟨hcl, hp6, hp7, hcs, hlo⟩ F6 N6
  clear lF lN lR
  dsimp only at F6 N6 hcl hp6 hp7 hcs hlo
  have hc3 : cs.length ≤ 3 := nat3 (show nC < 4 by assumption) hcl
  clear hnC
  have hp8 : p6 ≤ 10 := by omega
  clear hcl
  have hoR : OwnOff (cs.map CE.ent) [tape, l, cells, s1.heap.objs.size + 1, s1.heap.objs.size + 1 + 1, s1.heap.objs.size + 1 + 1 + 1] := by
    intro p hp b hb
    obtain ⟨e, he, rfl⟩ := List.mem_map.mp hp
    have h1 : @LT.lt Nat _ l e.addr := hlo e he
    simp only [List.mem_cons, List.not_mem_nil, or_false] at hb
    intro q
    have q : @Eq Nat e.addr b := q
    rcases hb with hb | hb | hb | hb | hb | hb <;> (rw [hb] at q; exact off_gt (by first | exact Nat.le_refl _ | exact Nat.le_of_lt (by assumption)) h1 q)
  have hcm : ∀ e ∈ cs, e.ent ∈ cs.map CE.ent := fun e he => List.mem_map.mpr ⟨e, he, rfl⟩
  revert hoR hcm N6
  generalize cs.map CE.ent = rest
  intro N6 hoR hcm
  dsimp only
  refine cut (σ := Tok × Nat × Int × Int × Obj × Tok) F6 (fun c => (tape, listOf #[.ref cells, .int c.2.2.1 c.1] c.2.1) :: (l, listOf (cs.map CE.ref).toArray nl) :: (cells, listOf vs.toArray nc) :: (s1.heap.objs.size + 1, oT) :: (s1.heap.objs.size + 1 + 1, oW) :: (s1.heap.objs.size + 1 + 1 + 1, c.2.2.2.2.1) :: rest) (fun _ => [(Str.ofString "carets", Value.ref l)]) (fun c => 0 ≤ c.2.2.1 ∧ c.2.2.1 ≤ 11 ∧ 1 ≤ c.2.2.2.1 ∧ c.2.2.2.1 ≤ 4 ∧ c.2.2.2.2.1.data = .cell (some (.int c.2.2.2.1 c.2.2.2.2.2))) ?_ ?_
  · intro E9
    refine gen_Q fun Q9 hQ9 => ?_
    repeat' (first | (k_unfold; (try dsimp only)) | ((with_reducible show wpAny _ _ (call (Value.builtin "len") _) _ _ _); (k_here; (with_reducible show wpAny _ _ (call (Value.builtin "len") [Value.ref _]) _ _ _); k_dflt (refine' len_kl ?zzj1 ?zzj2 ?zzj3 ?_; (case zzj1 => k_asm); (case zzj2 => k_mem); (case zzj3 => assumption)); k_whole)) | ((with_reducible show wpAny _ _ (call (Value.type _) _) _ _ _); (k_here; (with_reducible show wpAny _ _ (call (Value.type _) [Value.ref _]) _ _ _); k_dflt (refine' kde_tupleOf ?zzk1 ?zzk2 ?zzk3 ?zzk4 ?zzk5 ?_; (case zzk1 => k_asm); (case zzk2 => k_asm); (case zzk3 => exact News.isList (by k_asm) (by k_mem)); (case zzk4 => (rw [List.size_toArray, List.length_map]; exact Nat.le_trans (by assumption : _ ≤ 3) (by decide))); (case zzk5 => exact List.toList_toArray ..); k_whole); intro D' h' F' N' l1; (try k_lt l1); (try k_sweep))) | ((with_reducible show wpAny _ _ (call (Value.ref _) _) _ _ _); (k_here; (k_dflt (refine' gdef_use ?zzk1 ?zzk2 ?zzk3 ?zzk4 ?zzk5 ?zzk6 ?zzk14 ?zzk15 ?_; (case zzk1 => k_asm); (case zzk2 => k_asm); (case zzk3 => k_asm); (case zzk4 => k_asm); (case zzk5 => k_asm); (case zzk6 => first | exact rfl | assumption); (case zzk14 => ktr_room); (case zzk15 => ktr_units); k_whole)); intro x9 dx9 d9 a1 a2 a3 a4 o9 t1 t2 t3 t4 t5 h9 tk9 F9 N9 lo9 lx9 ld9 ds9 i9; (try dsimp only); (try k_fold); (try k_sweep))) | ((with_reducible show wpAny _ _ (compareOp .NotEq (Value.ref _) (Value.ref _)) _ _ _); (k_here; first | (k_dflt (refine' ne_words ?zzN ?zza ?zzb ?zzsa ?zzsb ?zzp0 ?zzp1 ?zzp2 ?zzp3 ?zzhu ?_; (case zzN => k_asm); (case zza => k_mem); (case zzb => k_mem); (case zzsa => assumption); (case zzsb => assumption); (case zzp0 => assumption); (case zzp1 => assumption); (case zzp2 => assumption); (case zzp3 => assumption); (case zzhu => ktr_units)); (try dsimp only); (try k_fold)) | (k_dflt (refine' ne_pair ?zzN ?zza ?zzb ?zze1 ?zze2 ?zzhu ?_; (case zzN => k_asm); (case zza => k_mem); (case zzb => k_mem); (case zze1 => (first | exact pair_a (by assumption) (by assumption) | exact pair_b (by assumption) (by assumption) | exact pair_c (by assumption) (by assumption) (by assumption) | exact pair_d (by assumption) (by assumption) (by assumption))); (case zze2 => (first | exact pair_a (by assumption) (by assumption) | exact pair_b (by assumption) (by assumption) | exact pair_c (by assumption) (by assumption) (by assumption) | exact pair_d (by assumption) (by assumption) (by assumption))); (case zzhu => ktr_units)); (try dsimp only); (try k_fold)))) | ((with_reducible show wpAny _ _ (call (Value.type _) _) _ _ _); (k_here; (with_reducible show wpAny _ _ (call (Value.type _) [Value.ref _]) _ _ _); k_dflt (refine' kup_listOfT ?zzF ?zzN ?zzb ?zze ?_ ?zzz; (case zzF => k_asm); (case zzN => k_asm); (case zzb => k_mem); (case zze => exact List.toList_toArray ..); (case zzz => exact strs_size (by assumption))); intro D' c' h' F' N' l1; (try k_lt l1); (try k_sweep))) | ((with_reducible show wpAny _ _ (call (Value.ref _) _) _ _ _); (k_here; first | (k_dflt (refine' draw_use ?zzk1 ?zzk2 ?zzk3 ?zzk4 ?zzk5 ?zzk6 ?zzkD ?zzkc ?zzk7 ?zzk8 ?zzk9 ?zzk10 ?zzk11 ?zzk12 ?zzk13 ?zzk14 ?zzk15 ?_; (case zzk1 => k_asm); (case zzk2 => k_asm); (case zzk3 => k_asm); (case zzk4 => k_asm); (case zzk5 => k_asm); (case zzk6 => first | exact rfl | assumption); (case zzkD => (first | exact Del.head (by repeat' (first | exact List.forall_mem_nil _ | exact OwnOff.ne (by assumption) (by simp) | refine List.forall_mem_cons.mpr ⟨by k_ne, ?_⟩)) | exact Del.tail (by k_ne) (by first | exact Del.head (by repeat' (first | exact List.forall_mem_nil _ | exact OwnOff.ne (by assumption) (by simp) | refine List.forall_mem_cons.mpr ⟨by k_ne, ?_⟩)) | exact Del.tail (by k_ne) (by first | exact Del.head (by repeat' (first | exact List.forall_mem_nil _ | exact OwnOff.ne (by assumption) (by simp) | refine List.forall_mem_cons.mpr ⟨by k_ne, ?_⟩)) | exact Del.tail (by k_ne) (by first | exact Del.head (by repeat' (first | exact List.forall_mem_nil _ | exact OwnOff.ne (by assumption) (by simp) | refine List.forall_mem_cons.mpr ⟨by k_ne, ?_⟩)) | exact Del.tail (by k_ne) (by first | exact Del.head (by repeat' (first | exact List.forall_mem_nil _ | exact OwnOff.ne (by assumption) (by simp) | refine List.forall_mem_cons.mpr ⟨by k_ne, ?_⟩)) | exact Del.tail (by k_ne) (by first | exact Del.head (by repeat' (first | exact List.forall_mem_nil _ | exact OwnOff.ne (by assumption) (by simp) | refine List.forall_mem_cons.mpr ⟨by k_ne, ?_⟩)) | exact Del.tail (by k_ne) (by first | exact Del.head (by repeat' (first | exact List.forall_mem_nil _ | exact OwnOff.ne (by assumption) (by simp) | refine List.forall_mem_cons.mpr ⟨by k_ne, ?_⟩)) | exact Del.tail (by k_ne) (by first | exact Del.head (by repeat' (first | exact List.forall_mem_nil _ | exact OwnOff.ne (by assumption) (by simp) | refine List.forall_mem_cons.mpr ⟨by k_ne, ?_⟩)) | exact Del.tail (by k_ne) (by first | exact Del.head (by repeat' (first | exact List.forall_mem_nil _ | exact OwnOff.ne (by assumption) (by simp) | refine List.forall_mem_cons.mpr ⟨by k_ne, ?_⟩)) | exact Del.tail (by k_ne) (by exact Del.head (by repeat' (first | exact List.forall_mem_nil _ | exact OwnOff.ne (by assumption) (by simp) | refine List.forall_mem_cons.mpr ⟨by k_ne, ?_⟩))))))))))))); (case zzkc => k_mem); (case zzk7 => omega); (case zzk8 => assumption); (case zzk9 => assumption); (case zzk10 => assumption); (case zzk11 => omega); (case zzk12 => omega); (case zzk13 => decide); (case zzk14 => ktr_room); (case zzk15 => ktr_units); k_whole); intro r9 t9 t8 h9 tk9 n9 r0 r1 F9 N9; (try dsimp only); (try k_fold); (try k_sweep)) | (k_dflt (refine' words_use ?zzk1 ?zzk2 ?zzk3 ?zzk4 ?zzk5 ?zzk6 ?zzk7 ?zzk8 ?zzk9 ?zzk10 ?zzk14 ?zzk15 ?_; (case zzk1 => k_asm); (case zzk2 => k_asm); (case zzk3 => k_asm); (case zzk4 => k_asm); (case zzk5 => k_asm); (case zzk6 => first | exact rfl | assumption); (case zzk7 => assumption); (case zzk8 => assumption); (case zzk9 => assumption); (case zzk10 => assumption); (case zzk14 => ktr_room); (case zzk15 => ktr_units); k_whole); intro vs9 h9 tk9 n9 D9 S9 F9 N9 lo9; (try k_lt lo9); (try dsimp only); (try k_fold); (try k_sweep)) | (k_dflt (refine' lw_use ?zzk1 ?zzk2 ?zzk3 ?zzk4 ?zzk5 ?zzk6 ?zzk7 ?zzk8 ?zzk9 ?zzk10 ?zzk14 ?zzk15 ?_; (case zzk1 => k_asm); (case zzk2 => k_asm); (case zzk3 => k_asm); (case zzk4 => k_asm); (case zzk5 => k_asm); (case zzk6 => first | exact rfl | assumption); (case zzk7 => assumption); (case zzk8 => assumption); (case zzk9 => assumption); (case zzk10 => assumption); (case zzk14 => ktr_room); (case zzk15 => ktr_units); k_whole); intro vs9 h9 tk9 n9 D9 S9 F9 N9 lo9; (try k_lt lo9); (try dsimp only); (try k_fold); (try k_sweep)) | (k_dflt (refine' flag_use ?zzk1 ?zzk2 ?zzk3 ?zzk4 ?zzk5 ?zzk6 ?zzkl ?zzkO ?zzkS ?zzkh ?zzk14 ?zzk15 ?_; (case zzk1 => k_asm); (case zzk2 => k_asm); (case zzk3 => k_asm); (case zzk4 => k_asm); (case zzk5 => k_asm); (case zzk6 => first | exact rfl | assumption); (case zzkl => k_mem); (case zzkO => (first | exact ⟨_, .inl rfl⟩ | exact ⟨_, .inr rfl⟩)); (case zzkS => first | assumption | exact strs_rev (by assumption)); (case zzkh => first | assumption | exact ok_of_txt (by assumption)); (case zzk14 => ktr_room); (case zzk15 => ktr_units); k_whole); intro v1 v2 t9 t8 h9 tk9 n9 D9 e9 F9 N9 lo9; (try k_lt lo9); (try dsimp only); (try k_fold); (try k_sweep)) | (k_dflt (refine' read_use ?zzk1 ?zzk2 ?zzk3 ?zzk4 ?zzk5 ?zzk6 ?zzkl ?zzkh ?zzk14 ?zzk15 ?_; (case zzk1 => k_asm); (case zzk2 => k_asm); (case zzk3 => k_asm); (case zzk4 => k_asm); (case zzk5 => k_asm); (case zzk6 => first | exact rfl | assumption); (case zzkl => k_mem); (case zzkh => assumption); (case zzk14 => ktr_room); (case zzk15 => ktr_units); k_whole); intro v1 v2 t9 t8 h9 tk9 n9 D9 e9 F9 N9 lo9; (try k_lt lo9); (try dsimp only); (try k_fold); (try k_sweep)))) | walk1 | (dsimp only; walk1) | (leave1; (try dsimp only)) | fail "no step")
    exact hQ9 _ _ ⟨rfl, at_intro ⟨_, _, _, _, _, _⟩ (by assumption) (by assumption) (by kst_inAny) (by kst_all) (by refine ⟨?a1, ?a2, ?a3, ?a4, ?a5⟩; (case a5 => assumption); all_goals (dsimp only; omega))⟩
  rintro ⟨t7, n7, p7, pt, oP, tpt⟩ u7 h7 tk7 F7 N7 ⟨hq0, hq1, hpt0, hpt1, dP⟩
  clear F6 N6
  dsimp only at *
  repeat' (first | (k_unfold; (try dsimp only)) | ((with_reducible show wpAny _ _ (call (Value.builtin "len") _) _ _ _); (k_here; (with_reducible show wpAny _ _ (call (Value.builtin "len") [Value.ref _]) _ _ _); k_dflt (refine' len_kl ?zzj1 ?zzj2 ?zzj3 ?_; (case zzj1 => k_asm); (case zzj2 => k_mem); (case zzj3 => assumption)); k_whole)) | ((with_reducible show wpAny _ _ (call (Value.type _) _) _ _ _); (k_here; (with_reducible show wpAny _ _ (call (Value.type _) [Value.ref _]) _ _ _); k_dflt (refine' kde_tupleOf ?zzk1 ?zzk2 ?zzk3 ?zzk4 ?zzk5 ?_; (case zzk1 => k_asm); (case zzk2 => k_asm); (case zzk3 => exact News.isList (by k_asm) (by k_mem)); (case zzk4 => (rw [List.size_toArray, List.length_map]; exact Nat.le_trans (by assumption : _ ≤ 3) (by decide))); (case zzk5 => exact List.toList_toArray ..); k_whole); intro D' h' F' N' l1; (try k_lt l1); (try k_sweep))) | ((with_reducible show wpAny _ _ (call (Value.ref _) _) _ _ _); (k_here; (k_dflt (refine' gdef_use ?zzk1 ?zzk2 ?zzk3 ?zzk4 ?zzk5 ?zzk6 ?zzk14 ?zzk15 ?_; (case zzk1 => k_asm); (case zzk2 => k_asm); (case zzk3 => k_asm); (case zzk4 => k_asm); (case zzk5 => k_asm); (case zzk6 => first | exact rfl | assumption); (case zzk14 => ktr_room); (case zzk15 => ktr_units); k_whole)); intro x9 dx9 d9 a1 a2 a3 a4 o9 t1 t2 t3 t4 t5 h9 tk9 F9 N9 lo9 lx9 ld9 ds9 i9; (try dsimp only); (try k_fold); (try k_sweep))) | ((with_reducible show wpAny _ _ (compareOp .NotEq (Value.ref _) (Value.ref _)) _ _ _); (k_here; first | (k_dflt (refine' ne_words ?zzN ?zza ?zzb ?zzsa ?zzsb ?zzp0 ?zzp1 ?zzp2 ?zzp3 ?zzhu ?_; (case zzN => k_asm); (case zza => k_mem); (case zzb => k_mem); (case zzsa => assumption); (case zzsb => assumption); (case zzp0 => assumption); (case zzp1 => assumption); (case zzp2 => assumption); (case zzp3 => assumption); (case zzhu => ktr_units)); (try dsimp only); (try k_fold)) | (k_dflt (refine' ne_pair ?zzN ?zza ?zzb ?zze1 ?zze2 ?zzhu ?_; (case zzN => k_asm); (case zza => k_mem); (case zzb => k_mem); (case zze1 => (first | exact pair_a (by assumption) (by assumption) | exact pair_b (by assumption) (by assumption) | exact pair_c (by assumption) (by assumption) (by assumption) | exact pair_d (by assumption) (by assumption) (by assumption))); (case zze2 => (first | exact pair_a (by assumption) (by assumption) | exact pair_b (by assumption) (by assumption) | exact pair_c (by assumption) (by assumption) (by assumption) | exact pair_d (by assumption) (by assumption) (by assumption))); (case zzhu => ktr_units)); (try dsimp only); (try k_fold)))) | ((with_reducible show wpAny _ _ (call (Value.type _) _) _ _ _); (k_here; (with_reducible show wpAny _ _ (call (Value.type _) [Value.ref _]) _ _ _); k_dflt (refine' kup_listOfT ?zzF ?zzN ?zzb ?zze ?_ ?zzz; (case zzF => k_asm); (case zzN => k_asm); (case zzb => k_mem); (case zze => exact List.toList_toArray ..); (case zzz => exact strs_size (by assumption))); intro D' c' h' F' N' l1; (try k_lt l1); (try k_sweep))) | ((with_reducible show wpAny _ _ (call (Value.ref _) _) _ _ _); (k_here; first | (k_dflt (refine' draw_use ?zzk1 ?zzk2 ?zzk3 ?zzk4 ?zzk5 ?zzk6 ?zzkD ?zzkc ?zzk7 ?zzk8 ?zzk9 ?zzk10 ?zzk11 ?zzk12 ?zzk13 ?zzk14 ?zzk15 ?_; (case zzk1 => k_asm); (case zzk2 => k_asm); (case zzk3 => k_asm); (case zzk4 => k_asm); (case zzk5 => k_asm); (case zzk6 => first | exact rfl | assumption); (case zzkD => (first | exact Del.head (by repeat' (first | exact List.forall_mem_nil _ | exact OwnOff.ne (by assumption) (by simp) | refine List.forall_mem_cons.mpr ⟨by k_ne, ?_⟩)) | exact Del.tail (by k_ne) (by first | exact Del.head (by repeat' (first | exact List.forall_mem_nil _ | exact OwnOff.ne (by assumption) (by simp) | refine List.forall_mem_cons.mpr ⟨by k_ne, ?_⟩)) | exact Del.tail (by k_ne) (by first | exact Del.head (by repeat' (first | exact List.forall_mem_nil _ | exact OwnOff.ne (by assumption) (by simp) | refine List.forall_mem_cons.mpr ⟨by k_ne, ?_⟩)) | exact Del.tail (by k_ne) (by first | exact Del.head (by repeat' (first | exact List.forall_mem_nil _ | exact OwnOff.ne (by assumption) (by simp) | refine List.forall_mem_cons.mpr ⟨by k_ne, ?_⟩)) | exact Del.tail (by k_ne) (by first | exact Del.head (by repeat' (first | exact List.forall_mem_nil _ | exact OwnOff.ne (by assumption) (by simp) | refine List.forall_mem_cons.mpr ⟨by k_ne, ?_⟩)) | exact Del.tail (by k_ne) (by first | exact Del.head (by repeat' (first | exact List.forall_mem_nil _ | exact OwnOff.ne (by assumption) (by simp) | refine List.forall_mem_cons.mpr ⟨by k_ne, ?_⟩)) | exact Del.tail (by k_ne) (by first | exact Del.head (by repeat' (first | exact List.forall_mem_nil _ | exact OwnOff.ne (by assumption) (by simp) | refine List.forall_mem_cons.mpr ⟨by k_ne, ?_⟩)) | exact Del.tail (by k_ne) (by first | exact Del.head (by repeat' (first | exact List.forall_mem_nil _ | exact OwnOff.ne (by assumption) (by simp) | refine List.forall_mem_cons.mpr ⟨by k_ne, ?_⟩)) | exact Del.tail (by k_ne) (by first | exact Del.head (by repeat' (first | exact List.forall_mem_nil _ | exact OwnOff.ne (by assumption) (by simp) | refine List.forall_mem_cons.mpr ⟨by k_ne, ?_⟩)) | exact Del.tail (by k_ne) (by exact Del.head (by repeat' (first | exact List.forall_mem_nil _ | exact OwnOff.ne (by assumption) (by simp) | refine List.forall_mem_cons.mpr ⟨by k_ne, ?_⟩))))))))))))); (case zzkc => k_mem); (case zzk7 => omega); (case zzk8 => assumption); (case zzk9 => assumption); (case zzk10 => assumption); (case zzk11 => omega); (case zzk12 => omega); (case zzk13 => decide); (case zzk14 => ktr_room); (case zzk15 => ktr_units); k_whole); intro r9 t9 t8 h9 tk9 n9 r0 r1 F9 N9; (try dsimp only); (try k_fold); (try k_sweep)) | (k_dflt (refine' words_use ?zzk1 ?zzk2 ?zzk3 ?zzk4 ?zzk5 ?zzk6 ?zzk7 ?zzk8 ?zzk9 ?zzk10 ?zzk14 ?zzk15 ?_; (case zzk1 => k_asm); (case zzk2 => k_asm); (case zzk3 => k_asm); (case zzk4 => k_asm); (case zzk5 => k_asm); (case zzk6 => first | exact rfl | assumption); (case zzk7 => assumption); (case zzk8 => assumption); (case zzk9 => assumption); (case zzk10 => assumption); (case zzk14 => ktr_room); (case zzk15 => ktr_units); k_whole); intro vs9 h9 tk9 n9 D9 S9 F9 N9 lo9; (try k_lt lo9); (try dsimp only); (try k_fold); (try k_sweep)) | (k_dflt (refine' lw_use ?zzk1 ?zzk2 ?zzk3 ?zzk4 ?zzk5 ?zzk6 ?zzk7 ?zzk8 ?zzk9 ?zzk10 ?zzk14 ?zzk15 ?_; (case zzk1 => k_asm); (case zzk2 => k_asm); (case zzk3 => k_asm); (case zzk4 => k_asm); (case zzk5 => k_asm); (case zzk6 => first | exact rfl | assumption); (case zzk7 => assumption); (case zzk8 => assumption); (case zzk9 => assumption); (case zzk10 => assumption); (case zzk14 => ktr_room); (case zzk15 => ktr_units); k_whole); intro vs9 h9 tk9 n9 D9 S9 F9 N9 lo9; (try k_lt lo9); (try dsimp only); (try k_fold); (try k_sweep)) | (k_dflt (refine' flag_use ?zzk1 ?zzk2 ?zzk3 ?zzk4 ?zzk5 ?zzk6 ?zzkl ?zzkO ?zzkS ?zzkh ?zzk14 ?zzk15 ?_; (case zzk1 => k_asm); (case zzk2 => k_asm); (case zzk3 => k_asm); (case zzk4 => k_asm); (case zzk5 => k_asm); (case zzk6 => first | exact rfl | assumption); (case zzkl => k_mem); (case zzkO => (first | exact ⟨_, .inl rfl⟩ | exact ⟨_, .inr rfl⟩)); (case zzkS => first | assumption | exact strs_rev (by assumption)); (case zzkh => first | assumption | exact ok_of_txt (by assumption)); (case zzk14 => ktr_room); (case zzk15 => ktr_units); k_whole); intro v1 v2 t9 t8 h9 tk9 n9 D9 e9 F9 N9 lo9; (try k_lt lo9); (try dsimp only); (try k_fold); (try k_sweep)) | (k_dflt (refine' read_use ?zzk1 ?zzk2 ?zzk3 ?zzk4 ?zzk5 ?zzk6 ?zzkl ?zzkh ?zzk14 ?zzk15 ?_; (case zzk1 => k_asm); (case zzk2 => k_asm); (case zzk3 => k_asm); (case zzk4 => k_asm); (case zzk5 => k_asm); (case zzk6 => first | exact rfl | assumption); (case zzkl => k_mem); (case zzkh => assumption); (case zzk14 => ktr_room); (case zzk15 => ktr_units); k_whole); intro v1 v2 t9 t8 h9 tk9 n9 D9 e9 F9 N9 lo9; (try k_lt lo9); (try dsimp only); (try k_fold); (try k_sweep)))) | ((fail_if_success (with_reducible show wpAny _ _ (call (Value.type "range") [Value.int _ _]) _ _ _)); (first | walk1 | (dsimp only; walk1) | (leave1; (try dsimp only)))) | fail "no step")
  clear F7 N7
  rename Int => nR
  have hnR := int4 (by assumption) (show nR < 5 by assumption)
  rename Fr _ _ _ _ => lF
  rename News _ _ _ _ => lN
  with_unfolding_all refine range1_rows lF lN ?_
  clear lF lN
  intro h' tk t₁ u₁ v₁ lR lF lN _
  with_unfolding_all refine LCg.CompSrc.range (n := nR.toNat) (by rfl) lF lN lR ?_ ?_ ?_ ?_
  · rcases hnR with rfl | rfl | rfl | rfl | rfl <;> decide
  · rcases hnR with rfl | rfl | rfl | rfl | rfl <;> decide
  · rcases hnR with rfl | rfl | rfl | rfl | rfl <;> decide
  intro g
  clear hnR
  clear lR lN lF
  with_unfolding_all refine rest_st (σ := RwS) (fun c => (tape, listOf #[.ref cells, .int c.pl c.t] c.n) :: (l, listOf (cs.map CE.ref).toArray nl) :: (cells, listOf vs.toArray nc) :: (s1.heap.objs.size + 1, oT) :: (s1.heap.objs.size + 1 + 1, oW) :: (s1.heap.objs.size + 1 + 1 + 1, oP) :: rest) (fun c => c.js.map rowRef) (RwS.Ok (p7 + 1)) nR.toNat ?turn ?fin nR.toNat 0 ⟨[], _, _, _⟩ (Nat.zero_add _) ⟨rfl, by dsimp only; omega, by dsimp only; omega, fun j hj => absurd hj List.not_mem_nil⟩
  case turn =>
    rintro i ⟨js, t8, n8, p8⟩ v I oI C oC D m₂ h tk E' hi - ⟨hjl, hz0, hz1, hjs⟩ hC hx F N off hne
    dsimp only at F N off hjl hz0 hz1 hjs
    have hin : (i : Int) < 4 := under4 (show nR < 5 by assumption) hi
    simp only [LCg.Off3] at off
    obtain ⟨of1, of2, of3, of4, of5, of6, ofr⟩ := off
    have hoffR := off_any ofr
    refine gen_Q fun Q8 hQ8 => ?_
    repeat' (first | (k_unfold; (try dsimp only)) | ((with_reducible show wpAny _ _ (call (Value.builtin "len") _) _ _ _); (k_here; (with_reducible show wpAny _ _ (call (Value.builtin "len") [Value.ref _]) _ _ _); k_dflt (refine' len_kl ?zzj1 ?zzj2 ?zzj3 ?_; (case zzj1 => k_asm); (case zzj2 => k_mem); (case zzj3 => assumption)); k_whole)) | ((with_reducible show wpAny _ _ (call (Value.type _) _) _ _ _); (k_here; (with_reducible show wpAny _ _ (call (Value.type _) [Value.ref _]) _ _ _); k_dflt (refine' kde_tupleOf ?zzk1 ?zzk2 ?zzk3 ?zzk4 ?zzk5 ?_; (case zzk1 => k_asm); (case zzk2 => k_asm); (case zzk3 => exact News.isList (by k_asm) (by k_mem)); (case zzk4 => (rw [List.size_toArray, List.length_map]; exact Nat.le_trans (by assumption : _ ≤ 3) (by decide))); (case zzk5 => exact List.toList_toArray ..); k_whole); intro D' h' F' N' l1; (try k_lt l1); (try k_sweep))) | ((with_reducible show wpAny _ _ (call (Value.ref _) _) _ _ _); (k_here; (k_dflt (refine' gdef_use ?zzk1 ?zzk2 ?zzk3 ?zzk4 ?zzk5 ?zzk6 ?zzk14 ?zzk15 ?_; (case zzk1 => k_asm); (case zzk2 => k_asm); (case zzk3 => k_asm); (case zzk4 => k_asm); (case zzk5 => k_asm); (case zzk6 => first | exact rfl | assumption); (case zzk14 => ktr_room); (case zzk15 => ktr_units); k_whole)); intro x9 dx9 d9 a1 a2 a3 a4 o9 t1 t2 t3 t4 t5 h9 tk9 F9 N9 lo9 lx9 ld9 ds9 i9; (try dsimp only); (try k_fold); (try k_sweep))) | ((with_reducible show wpAny _ _ (compareOp .NotEq (Value.ref _) (Value.ref _)) _ _ _); (k_here; first | (k_dflt (refine' ne_words ?zzN ?zza ?zzb ?zzsa ?zzsb ?zzp0 ?zzp1 ?zzp2 ?zzp3 ?zzhu ?_; (case zzN => k_asm); (case zza => k_mem); (case zzb => k_mem); (case zzsa => assumption); (case zzsb => assumption); (case zzp0 => assumption); (case zzp1 => assumption); (case zzp2 => assumption); (case zzp3 => assumption); (case zzhu => ktr_units)); (try dsimp only); (try k_fold)) | (k_dflt (refine' ne_pair ?zzN ?zza ?zzb ?zze1 ?zze2 ?zzhu ?_; (case zzN => k_asm); (case zza => k_mem); (case zzb => k_mem); (case zze1 => (first | exact pair_a (by assumption) (by assumption) | exact pair_b (by assumption) (by assumption) | exact pair_c (by assumption) (by assumption) (by assumption) | exact pair_d (by assumption) (by assumption) (by assumption))); (case zze2 => (first | exact pair_a (by assumption) (by assumption) | exact pair_b (by assumption) (by assumption) | exact pair_c (by assumption) (by assumption) (by assumption) | exact pair_d (by assumption) (by assumption) (by assumption))); (case zzhu => ktr_units)); (try dsimp only); (try k_fold)))) | ((with_reducible show wpAny _ _ (call (Value.type _) _) _ _ _); (k_here; (with_reducible show wpAny _ _ (call (Value.type _) [Value.ref _]) _ _ _); k_dflt (refine' kup_listOfT ?zzF ?zzN ?zzb ?zze ?_ ?zzz; (case zzF => k_asm); (case zzN => k_asm); (case zzb => k_mem); (case zze => exact List.toList_toArray ..); (case zzz => exact strs_size (by assumption))); intro D' c' h' F' N' l1; (try k_lt l1); (try k_sweep))) | ((with_reducible show wpAny _ _ (call (Value.ref _) _) _ _ _); (k_here; first | (k_dflt (refine' draw_use ?zzk1 ?zzk2 ?zzk3 ?zzk4 ?zzk5 ?zzk6 ?zzkD ?zzkc ?zzk7 ?zzk8 ?zzk9 ?zzk10 ?zzk11 ?zzk12 ?zzk13 ?zzk14 ?zzk15 ?_; (case zzk1 => k_asm); (case zzk2 => k_asm); (case zzk3 => k_asm); (case zzk4 => k_asm); (case zzk5 => k_asm); (case zzk6 => first | exact rfl | assumption); (case zzkD => (first | exact Del.head (by repeat' (first | exact List.forall_mem_nil _ | exact OwnOff.ne (by assumption) (by simp) | refine List.forall_mem_cons.mpr ⟨by k_ne, ?_⟩)) | exact Del.tail (by k_ne) (by first | exact Del.head (by repeat' (first | exact List.forall_mem_nil _ | exact OwnOff.ne (by assumption) (by simp) | refine List.forall_mem_cons.mpr ⟨by k_ne, ?_⟩)) | exact Del.tail (by k_ne) (by first | exact Del.head (by repeat' (first | exact List.forall_mem_nil _ | exact OwnOff.ne (by assumption) (by simp) | refine List.forall_mem_cons.mpr ⟨by k_ne, ?_⟩)) | exact Del.tail (by k_ne) (by first | exact Del.head (by repeat' (first | exact List.forall_mem_nil _ | exact OwnOff.ne (by assumption) (by simp) | refine List.forall_mem_cons.mpr ⟨by k_ne, ?_⟩)) | exact Del.tail (by k_ne) (by first | exact Del.head (by repeat' (first | exact List.forall_mem_nil _ | exact OwnOff.ne (by assumption) (by simp) | refine List.forall_mem_cons.mpr ⟨by k_ne, ?_⟩)) | exact Del.tail (by k_ne) (by first | exact Del.head (by repeat' (first | exact List.forall_mem_nil _ | exact OwnOff.ne (by assumption) (by simp) | refine List.forall_mem_cons.mpr ⟨by k_ne, ?_⟩)) | exact Del.tail (by k_ne) (by first | exact Del.head (by repeat' (first | exact List.forall_mem_nil _ | exact OwnOff.ne (by assumption) (by simp) | refine List.forall_mem_cons.mpr ⟨by k_ne, ?_⟩)) | exact Del.tail (by k_ne) (by first | exact Del.head (by repeat' (first | exact List.forall_mem_nil _ | exact OwnOff.ne (by assumption) (by simp) | refine List.forall_mem_cons.mpr ⟨by k_ne, ?_⟩)) | exact Del.tail (by k_ne) (by first | exact Del.head (by repeat' (first | exact List.forall_mem_nil _ | exact OwnOff.ne (by assumption) (by simp) | refine List.forall_mem_cons.mpr ⟨by k_ne, ?_⟩)) | exact Del.tail (by k_ne) (by exact Del.head (by repeat' (first | exact List.forall_mem_nil _ | exact OwnOff.ne (by assumption) (by simp) | refine List.forall_mem_cons.mpr ⟨by k_ne, ?_⟩))))))))))))); (case zzkc => k_mem); (case zzk7 => omega); (case zzk8 => assumption); (case zzk9 => assumption); (case zzk10 => assumption); (case zzk11 => omega); (case zzk12 => omega); (case zzk13 => decide); (case zzk14 => ktr_room); (case zzk15 => ktr_units); k_whole); intro r9 t9 t8 h9 tk9 n9 r0 r1 F9 N9; (try dsimp only); (try k_fold); (try k_sweep)) | (k_dflt (refine' words_use ?zzk1 ?zzk2 ?zzk3 ?zzk4 ?zzk5 ?zzk6 ?zzk7 ?zzk8 ?zzk9 ?zzk10 ?zzk14 ?zzk15 ?_; (case zzk1 => k_asm); (case zzk2 => k_asm); (case zzk3 => k_asm); (case zzk4 => k_asm); (case zzk5 => k_asm); (case zzk6 => first | exact rfl | assumption); (case zzk7 => assumption); (case zzk8 => assumption); (case zzk9 => assumption); (case zzk10 => assumption); (case zzk14 => ktr_room); (case zzk15 => ktr_units); k_whole); intro vs9 h9 tk9 n9 D9 S9 F9 N9 lo9; (try k_lt lo9); (try dsimp only); (try k_fold); (try k_sweep)) | (k_dflt (refine' lw_use ?zzk1 ?zzk2 ?zzk3 ?zzk4 ?zzk5 ?zzk6 ?zzk7 ?zzk8 ?zzk9 ?zzk10 ?zzk14 ?zzk15 ?_; (case zzk1 => k_asm); (case zzk2 => k_asm); (case zzk3 => k_asm); (case zzk4 => k_asm); (case zzk5 => k_asm); (case zzk6 => first | exact rfl | assumption); (case zzk7 => assumption); (case zzk8 => assumption); (case zzk9 => assumption); (case zzk10 => assumption); (case zzk14 => ktr_room); (case zzk15 => ktr_units); k_whole); intro vs9 h9 tk9 n9 D9 S9 F9 N9 lo9; (try k_lt lo9); (try dsimp only); (try k_fold); (try k_sweep)) | (k_dflt (refine' flag_use ?zzk1 ?zzk2 ?zzk3 ?zzk4 ?zzk5 ?zzk6 ?zzkl ?zzkO ?zzkS ?zzkh ?zzk14 ?zzk15 ?_; (case zzk1 => k_asm); (case zzk2 => k_asm); (case zzk3 => k_asm); (case zzk4 => k_asm); (case zzk5 => k_asm); (case zzk6 => first | exact rfl | assumption); (case zzkl => k_mem); (case zzkO => (first | exact ⟨_, .inl rfl⟩ | exact ⟨_, .inr rfl⟩)); (case zzkS => first | assumption | exact strs_rev (by assumption)); (case zzkh => first | assumption | exact ok_of_txt (by assumption)); (case zzk14 => ktr_room); (case zzk15 => ktr_units); k_whole); intro v1 v2 t9 t8 h9 tk9 n9 D9 e9 F9 N9 lo9; (try k_lt lo9); (try dsimp only); (try k_fold); (try k_sweep)) | (k_dflt (refine' read_use ?zzk1 ?zzk2 ?zzk3 ?zzk4 ?zzk5 ?zzk6 ?zzkl ?zzkh ?zzk14 ?zzk15 ?_; (case zzk1 => k_asm); (case zzk2 => k_asm); (case zzk3 => k_asm); (case zzk4 => k_asm); (case zzk5 => k_asm); (case zzk6 => first | exact rfl | assumption); (case zzkl => k_mem); (case zzkh => assumption); (case zzk14 => ktr_room); (case zzk15 => ktr_units); k_whole); intro v1 v2 t9 t8 h9 tk9 n9 D9 e9 F9 N9 lo9; (try k_lt lo9); (try dsimp only); (try k_fold); (try k_sweep)))) | ((fail_if_success (with_reducible show wpAny _ _ (subscriptTail _ _ _ _) _ _ _)); (first | walk1 | (dsimp only; walk1) | (leave1; (try dsimp only)))) | fail "no step")
    k_dflt (refine' pick_row ?j1 ?j2 ?j3 ?j4 ?_ ?j5; (case j1 => k_asm); (case j2 => k_asm); (case j3 => assumption); (case j4 => assumption); (case j5 => with_unfolding_all rfl))
    repeat (first | k_unfold | fail_if_success skip)
    rename Int => rr
    have hr21 : rr.toNat < 21 := by omega
    refine hQ8 _ _ (elt_end ⟨js ++ [_], ?ta, ?na, ?pa⟩ (by assumption) (by assumption) ?sub ?off trivial (by exact List.map_append ..) ?ok)
    case sub => (try dsimp only); kst_inAny
    case off => exact ⟨of1, of2, of3, of4, of5, of6, ofr⟩
    case ok =>
      refine ⟨by simp [hjl], by dsimp only; omega, by dsimp only; omega, fun j hj => ?_⟩
      rcases List.mem_append.mp hj with hj | hj
      · exact hjs j hj
      · rw [List.mem_singleton.mp hj]; omega
  case fin =>
    rintro ⟨js, t8, n8, p8⟩ ⟨hjl, hz0, hz1, hjs⟩
    dsimp only at hjl hz0 hz1 hjs
    unfold LCg.FinA
    intro D8 h8 tk8 F8 N8 o8
    dsimp only at F8 N8 o8 ⊢
    have N8' : News s1.heap s1.heap.objs.size h8 ((D8, listOf (js.map rowRef).toArray (js.map rowRef).length) :: (l, listOf (cs.map CE.ref).toArray nl) :: (s1.heap.objs.size + 1 + 1, oW) :: (s1.heap.objs.size + 1 + 1 + 1, oP) :: rest) := news_small _ N8 (by kst_inAny)
    obtain ⟨u8, F8'⟩ := fr_small [(Str.ofString "carets", Value.ref l), (Str.ofString "rows", Value.ref D8)] F8 (by kst_all)
    clear N8 F8
    have hRT := rows_text hjs
    have hRS := rows_same js hjs
    refine cut (σ := Unit) F8' (fun _ => (l, listOf (cs.map CE.ref).toArray nl) :: (s1.heap.objs.size + 1 + 1, oW) :: (s1.heap.objs.size + 1 + 1 + 1, oP) :: rest) (fun _ => [(Str.ofString "carets", Value.ref l)]) (fun _ => True) ?_ ?_
    · intro E9
      refine gen_Q fun Q9 hQ9 => ?_
      repeat' (first | (k_unfold; (try dsimp only)) | ((with_reducible show wpAny _ _ (call (Value.builtin "len") _) _ _ _); (k_here; (with_reducible show wpAny _ _ (call (Value.builtin "len") [Value.ref _]) _ _ _); k_dflt (refine' len_kl ?zzj1 ?zzj2 ?zzj3 ?_; (case zzj1 => k_asm); (case zzj2 => k_mem); (case zzj3 => assumption)); k_whole)) | ((with_reducible show wpAny _ _ (call (Value.type _) _) _ _ _); (k_here; (with_reducible show wpAny _ _ (call (Value.type _) [Value.ref _]) _ _ _); k_dflt (refine' kde_tupleOf ?zzk1 ?zzk2 ?zzk3 ?zzk4 ?zzk5 ?_; (case zzk1 => k_asm); (case zzk2 => k_asm); (case zzk3 => exact News.isList (by k_asm) (by k_mem)); (case zzk4 => (rw [List.size_toArray, List.length_map]; exact Nat.le_trans (by assumption : _ ≤ 3) (by decide))); (case zzk5 => exact List.toList_toArray ..); k_whole); intro D' h' F' N' l1; (try k_lt l1); (try k_sweep))) | ((with_reducible show wpAny _ _ (call (Value.ref _) _) _ _ _); (k_here; (k_dflt (refine' gdef_use ?zzk1 ?zzk2 ?zzk3 ?zzk4 ?zzk5 ?zzk6 ?zzk14 ?zzk15 ?_; (case zzk1 => k_asm); (case zzk2 => k_asm); (case zzk3 => k_asm); (case zzk4 => k_asm); (case zzk5 => k_asm); (case zzk6 => first | exact rfl | assumption); (case zzk14 => ktr_room); (case zzk15 => ktr_units); k_whole)); intro x9 dx9 d9 a1 a2 a3 a4 o9 t1 t2 t3 t4 t5 h9 tk9 F9 N9 lo9 lx9 ld9 ds9 i9; (try dsimp only); (try k_fold); (try k_sweep))) | ((with_reducible show wpAny _ _ (compareOp .NotEq (Value.ref _) (Value.ref _)) _ _ _); (k_here; first | (k_dflt (refine' ne_words ?zzN ?zza ?zzb ?zzsa ?zzsb ?zzp0 ?zzp1 ?zzp2 ?zzp3 ?zzhu ?_; (case zzN => k_asm); (case zza => k_mem); (case zzb => k_mem); (case zzsa => assumption); (case zzsb => assumption); (case zzp0 => assumption); (case zzp1 => assumption); (case zzp2 => assumption); (case zzp3 => assumption); (case zzhu => ktr_units)); (try dsimp only); (try k_fold)) | (k_dflt (refine' ne_pair ?zzN ?zza ?zzb ?zze1 ?zze2 ?zzhu ?_; (case zzN => k_asm); (case zza => k_mem); (case zzb => k_mem); (case zze1 => (first | exact pair_a (by assumption) (by assumption) | exact pair_b (by assumption) (by assumption) | exact pair_c (by assumption) (by assumption) (by assumption) | exact pair_d (by assumption) (by assumption) (by assumption))); (case zze2 => (first | exact pair_a (by assumption) (by assumption) | exact pair_b (by assumption) (by assumption) | exact pair_c (by assumption) (by assumption) (by assumption) | exact pair_d (by assumption) (by assumption) (by assumption))); (case zzhu => ktr_units)); (try dsimp only); (try k_fold)))) | ((with_reducible show wpAny _ _ (call (Value.type _) _) _ _ _); (k_here; (with_reducible show wpAny _ _ (call (Value.type _) [Value.ref _]) _ _ _); k_dflt (refine' kup_listOfT ?zzF ?zzN ?zzb ?zze ?_ ?zzz; (case zzF => k_asm); (case zzN => k_asm); (case zzb => k_mem); (case zze => exact List.toList_toArray ..); (case zzz => exact strs_size (by assumption))); intro D' c' h' F' N' l1; (try k_lt l1); (try k_sweep))) | ((with_reducible show wpAny _ _ (call (Value.ref _) _) _ _ _); (k_here; first | (k_dflt (refine' draw_use ?zzk1 ?zzk2 ?zzk3 ?zzk4 ?zzk5 ?zzk6 ?zzkD ?zzkc ?zzk7 ?zzk8 ?zzk9 ?zzk10 ?zzk11 ?zzk12 ?zzk13 ?zzk14 ?zzk15 ?_; (case zzk1 => k_asm); (case zzk2 => k_asm); (case zzk3 => k_asm); (case zzk4 => k_asm); (case zzk5 => k_asm); (case zzk6 => first | exact rfl | assumption); (case zzkD => (first | exact Del.head (by repeat' (first | exact List.forall_mem_nil _ | exact OwnOff.ne (by assumption) (by simp) | refine List.forall_mem_cons.mpr ⟨by k_ne, ?_⟩)) | exact Del.tail (by k_ne) (by first | exact Del.head (by repeat' (first | exact List.forall_mem_nil _ | exact OwnOff.ne (by assumption) (by simp) | refine List.forall_mem_cons.mpr ⟨by k_ne, ?_⟩)) | exact Del.tail (by k_ne) (by first | exact Del.head (by repeat' (first | exact List.forall_mem_nil _ | exact OwnOff.ne (by assumption) (by simp) | refine List.forall_mem_cons.mpr ⟨by k_ne, ?_⟩)) | exact Del.tail (by k_ne) (by first | exact Del.head (by repeat' (first | exact List.forall_mem_nil _ | exact OwnOff.ne (by assumption) (by simp) | refine List.forall_mem_cons.mpr ⟨by k_ne, ?_⟩)) | exact Del.tail (by k_ne) (by first | exact Del.head (by repeat' (first | exact List.forall_mem_nil _ | exact OwnOff.ne (by assumption) (by simp) | refine List.forall_mem_cons.mpr ⟨by k_ne, ?_⟩)) | exact Del.tail (by k_ne) (by first | exact Del.head (by repeat' (first | exact List.forall_mem_nil _ | exact OwnOff.ne (by assumption) (by simp) | refine List.forall_mem_cons.mpr ⟨by k_ne, ?_⟩)) | exact Del.tail (by k_ne) (by first | exact Del.head (by repeat' (first | exact List.forall_mem_nil _ | exact OwnOff.ne (by assumption) (by simp) | refine List.forall_mem_cons.mpr ⟨by k_ne, ?_⟩)) | exact Del.tail (by k_ne) (by first | exact Del.head (by repeat' (first | exact List.forall_mem_nil _ | exact OwnOff.ne (by assumption) (by simp) | refine List.forall_mem_cons.mpr ⟨by k_ne, ?_⟩)) | exact Del.tail (by k_ne) (by first | exact Del.head (by repeat' (first | exact List.forall_mem_nil _ | exact OwnOff.ne (by assumption) (by simp) | refine List.forall_mem_cons.mpr ⟨by k_ne, ?_⟩)) | exact Del.tail (by k_ne) (by exact Del.head (by repeat' (first | exact List.forall_mem_nil _ | exact OwnOff.ne (by assumption) (by simp) | refine List.forall_mem_cons.mpr ⟨by k_ne, ?_⟩))))))))))))); (case zzkc => k_mem); (case zzk7 => omega); (case zzk8 => assumption); (case zzk9 => assumption); (case zzk10 => assumption); (case zzk11 => omega); (case zzk12 => omega); (case zzk13 => decide); (case zzk14 => ktr_room); (case zzk15 => ktr_units); k_whole); intro r9 t9 t8 h9 tk9 n9 r0 r1 F9 N9; (try dsimp only); (try k_fold); (try k_sweep)) | (k_dflt (refine' words_use ?zzk1 ?zzk2 ?zzk3 ?zzk4 ?zzk5 ?zzk6 ?zzk7 ?zzk8 ?zzk9 ?zzk10 ?zzk14 ?zzk15 ?_; (case zzk1 => k_asm); (case zzk2 => k_asm); (case zzk3 => k_asm); (case zzk4 => k_asm); (case zzk5 => k_asm); (case zzk6 => first | exact rfl | assumption); (case zzk7 => assumption); (case zzk8 => assumption); (case zzk9 => assumption); (case zzk10 => assumption); (case zzk14 => ktr_room); (case zzk15 => ktr_units); k_whole); intro vs9 h9 tk9 n9 D9 S9 F9 N9 lo9; (try k_lt lo9); (try dsimp only); (try k_fold); (try k_sweep)) | (k_dflt (refine' lw_use ?zzk1 ?zzk2 ?zzk3 ?zzk4 ?zzk5 ?zzk6 ?zzk7 ?zzk8 ?zzk9 ?zzk10 ?zzk14 ?zzk15 ?_; (case zzk1 => k_asm); (case zzk2 => k_asm); (case zzk3 => k_asm); (case zzk4 => k_asm); (case zzk5 => k_asm); (case zzk6 => first | exact rfl | assumption); (case zzk7 => assumption); (case zzk8 => assumption); (case zzk9 => assumption); (case zzk10 => assumption); (case zzk14 => ktr_room); (case zzk15 => ktr_units); k_whole); intro vs9 h9 tk9 n9 D9 S9 F9 N9 lo9; (try k_lt lo9); (try dsimp only); (try k_fold); (try k_sweep)) | (k_dflt (refine' flag_use ?zzk1 ?zzk2 ?zzk3 ?zzk4 ?zzk5 ?zzk6 ?zzkl ?zzkO ?zzkS ?zzkh ?zzk14 ?zzk15 ?_; (case zzk1 => k_asm); (case zzk2 => k_asm); (case zzk3 => k_asm); (case zzk4 => k_asm); (case zzk5 => k_asm); (case zzk6 => first | exact rfl | assumption); (case zzkl => k_mem); (case zzkO => (first | exact ⟨_, .inl rfl⟩ | exact ⟨_, .inr rfl⟩)); (case zzkS => first | assumption | exact strs_rev (by assumption)); (case zzkh => first | assumption | exact ok_of_txt (by assumption)); (case zzk14 => ktr_room); (case zzk15 => ktr_units); k_whole); intro v1 v2 t9 t8 h9 tk9 n9 D9 e9 F9 N9 lo9; (try k_lt lo9); (try dsimp only); (try k_fold); (try k_sweep)) | (k_dflt (refine' read_use ?zzk1 ?zzk2 ?zzk3 ?zzk4 ?zzk5 ?zzk6 ?zzkl ?zzkh ?zzk14 ?zzk15 ?_; (case zzk1 => k_asm); (case zzk2 => k_asm); (case zzk3 => k_asm); (case zzk4 => k_asm); (case zzk5 => k_asm); (case zzk6 => first | exact rfl | assumption); (case zzkl => k_mem); (case zzkh => assumption); (case zzk14 => ktr_room); (case zzk15 => ktr_units); k_whole); intro v1 v2 t9 t8 h9 tk9 n9 D9 e9 F9 N9 lo9; (try k_lt lo9); (try dsimp only); (try k_fold); (try k_sweep)))) | ((fail_if_success (with_reducible show wpAny _ _ (eval (PySem.Expr.ListComp _ _ _ _) _) _ _ _)); (first | walk1 | (dsimp only; walk1) | (leave1; (try dsimp only)))) | fail "no step")
      k_dflt (refine LCg.ListComp_U (F₀ := by k_asm) (by rfl) (by decide) (by rfl) (by decide) (by rfl) ?_)
      repeat' (first | (k_unfold; (try dsimp only)) | ((with_reducible show wpAny _ _ (call (Value.builtin "len") _) _ _ _); (k_here; (with_reducible show wpAny _ _ (call (Value.builtin "len") [Value.ref _]) _ _ _); k_dflt (refine' len_kl ?zzj1 ?zzj2 ?zzj3 ?_; (case zzj1 => k_asm); (case zzj2 => k_mem); (case zzj3 => assumption)); k_whole)) | ((with_reducible show wpAny _ _ (call (Value.type _) _) _ _ _); (k_here; (with_reducible show wpAny _ _ (call (Value.type _) [Value.ref _]) _ _ _); k_dflt (refine' kde_tupleOf ?zzk1 ?zzk2 ?zzk3 ?zzk4 ?zzk5 ?_; (case zzk1 => k_asm); (case zzk2 => k_asm); (case zzk3 => exact News.isList (by k_asm) (by k_mem)); (case zzk4 => (rw [List.size_toArray, List.length_map]; exact Nat.le_trans (by assumption : _ ≤ 3) (by decide))); (case zzk5 => exact List.toList_toArray ..); k_whole); intro D' h' F' N' l1; (try k_lt l1); (try k_sweep))) | ((with_reducible show wpAny _ _ (call (Value.ref _) _) _ _ _); (k_here; (k_dflt (refine' gdef_use ?zzk1 ?zzk2 ?zzk3 ?zzk4 ?zzk5 ?zzk6 ?zzk14 ?zzk15 ?_; (case zzk1 => k_asm); (case zzk2 => k_asm); (case zzk3 => k_asm); (case zzk4 => k_asm); (case zzk5 => k_asm); (case zzk6 => first | exact rfl | assumption); (case zzk14 => ktr_room); (case zzk15 => ktr_units); k_whole)); intro x9 dx9 d9 a1 a2 a3 a4 o9 t1 t2 t3 t4 t5 h9 tk9 F9 N9 lo9 lx9 ld9 ds9 i9; (try dsimp only); (try k_fold); (try k_sweep))) | ((with_reducible show wpAny _ _ (compareOp .NotEq (Value.ref _) (Value.ref _)) _ _ _); (k_here; first | (k_dflt (refine' ne_words ?zzN ?zza ?zzb ?zzsa ?zzsb ?zzp0 ?zzp1 ?zzp2 ?zzp3 ?zzhu ?_; (case zzN => k_asm); (case zza => k_mem); (case zzb => k_mem); (case zzsa => assumption); (case zzsb => assumption); (case zzp0 => assumption); (case zzp1 => assumption); (case zzp2 => assumption); (case zzp3 => assumption); (case zzhu => ktr_units)); (try dsimp only); (try k_fold)) | (k_dflt (refine' ne_pair ?zzN ?zza ?zzb ?zze1 ?zze2 ?zzhu ?_; (case zzN => k_asm); (case zza => k_mem); (case zzb => k_mem); (case zze1 => (first | exact pair_a (by assumption) (by assumption) | exact pair_b (by assumption) (by assumption) | exact pair_c (by assumption) (by assumption) (by assumption) | exact pair_d (by assumption) (by assumption) (by assumption))); (case zze2 => (first | exact pair_a (by assumption) (by assumption) | exact pair_b (by assumption) (by assumption) | exact pair_c (by assumption) (by assumption) (by assumption) | exact pair_d (by assumption) (by assumption) (by assumption))); (case zzhu => ktr_units)); (try dsimp only); (try k_fold)))) | ((with_reducible show wpAny _ _ (call (Value.type _) _) _ _ _); (k_here; (with_reducible show wpAny _ _ (call (Value.type _) [Value.ref _]) _ _ _); k_dflt (refine' kup_listOfT ?zzF ?zzN ?zzb ?zze ?_ ?zzz; (case zzF => k_asm); (case zzN => k_asm); (case zzb => k_mem); (case zze => exact List.toList_toArray ..); (case zzz => exact strs_size (by assumption))); intro D' c' h' F' N' l1; (try k_lt l1); (try k_sweep))) | ((with_reducible show wpAny _ _ (call (Value.ref _) _) _ _ _); (k_here; first | (k_dflt (refine' draw_use ?zzk1 ?zzk2 ?zzk3 ?zzk4 ?zzk5 ?zzk6 ?zzkD ?zzkc ?zzk7 ?zzk8 ?zzk9 ?zzk10 ?zzk11 ?zzk12 ?zzk13 ?zzk14 ?zzk15 ?_; (case zzk1 => k_asm); (case zzk2 => k_asm); (case zzk3 => k_asm); (case zzk4 => k_asm); (case zzk5 => k_asm); (case zzk6 => first | exact rfl | assumption); (case zzkD => (first | exact Del.head (by repeat' (first | exact List.forall_mem_nil _ | exact OwnOff.ne (by assumption) (by simp) | refine List.forall_mem_cons.mpr ⟨by k_ne, ?_⟩)) | exact Del.tail (by k_ne) (by first | exact Del.head (by repeat' (first | exact List.forall_mem_nil _ | exact OwnOff.ne (by assumption) (by simp) | refine List.forall_mem_cons.mpr ⟨by k_ne, ?_⟩)) | exact Del.tail (by k_ne) (by first | exact Del.head (by repeat' (first | exact List.forall_mem_nil _ | exact OwnOff.ne (by assumption) (by simp) | refine List.forall_mem_cons.mpr ⟨by k_ne, ?_⟩)) | exact Del.tail (by k_ne) (by first | exact Del.head (by repeat' (first | exact List.forall_mem_nil _ | exact OwnOff.ne (by assumption) (by simp) | refine List.forall_mem_cons.mpr ⟨by k_ne, ?_⟩)) | exact Del.tail (by k_ne) (by first | exact Del.head (by repeat' (first | exact List.forall_mem_nil _ | exact OwnOff.ne (by assumption) (by simp) | refine List.forall_mem_cons.mpr ⟨by k_ne, ?_⟩)) | exact Del.tail (by k_ne) (by first | exact Del.head (by repeat' (first | exact List.forall_mem_nil _ | exact OwnOff.ne (by assumption) (by simp) | refine List.forall_mem_cons.mpr ⟨by k_ne, ?_⟩)) | exact Del.tail (by k_ne) (by first | exact Del.head (by repeat' (first | exact List.forall_mem_nil _ | exact OwnOff.ne (by assumption) (by simp) | refine List.forall_mem_cons.mpr ⟨by k_ne, ?_⟩)) | exact Del.tail (by k_ne) (by first | exact Del.head (by repeat' (first | exact List.forall_mem_nil _ | exact OwnOff.ne (by assumption) (by simp) | refine List.forall_mem_cons.mpr ⟨by k_ne, ?_⟩)) | exact Del.tail (by k_ne) (by first | exact Del.head (by repeat' (first | exact List.forall_mem_nil _ | exact OwnOff.ne (by assumption) (by simp) | refine List.forall_mem_cons.mpr ⟨by k_ne, ?_⟩)) | exact Del.tail (by k_ne) (by exact Del.head (by repeat' (first | exact List.forall_mem_nil _ | exact OwnOff.ne (by assumption) (by simp) | refine List.forall_mem_cons.mpr ⟨by k_ne, ?_⟩))))))))))))); (case zzkc => k_mem); (case zzk7 => omega); (case zzk8 => assumption); (case zzk9 => assumption); (case zzk10 => assumption); (case zzk11 => omega); (case zzk12 => omega); (case zzk13 => decide); (case zzk14 => ktr_room); (case zzk15 => ktr_units); k_whole); intro r9 t9 t8 h9 tk9 n9 r0 r1 F9 N9; (try dsimp only); (try k_fold); (try k_sweep)) | (k_dflt (refine' words_use ?zzk1 ?zzk2 ?zzk3 ?zzk4 ?zzk5 ?zzk6 ?zzk7 ?zzk8 ?zzk9 ?zzk10 ?zzk14 ?zzk15 ?_; (case zzk1 => k_asm); (case zzk2 => k_asm); (case zzk3 => k_asm); (case zzk4 => k_asm); (case zzk5 => k_asm); (case zzk6 => first | exact rfl | assumption); (case zzk7 => assumption); (case zzk8 => assumption); (case zzk9 => assumption); (case zzk10 => assumption); (case zzk14 => ktr_room); (case zzk15 => ktr_units); k_whole); intro vs9 h9 tk9 n9 D9 S9 F9 N9 lo9; (try k_lt lo9); (try dsimp only); (try k_fold); (try k_sweep)) | (k_dflt (refine' lw_use ?zzk1 ?zzk2 ?zzk3 ?zzk4 ?zzk5 ?zzk6 ?zzk7 ?zzk8 ?zzk9 ?zzk10 ?zzk14 ?zzk15 ?_; (case zzk1 => k_asm); (case zzk2 => k_asm); (case zzk3 => k_asm); (case zzk4 => k_asm); (case zzk5 => k_asm); (case zzk6 => first | exact rfl | assumption); (case zzk7 => assumption); (case zzk8 => assumption); (case zzk9 => assumption); (case zzk10 => assumption); (case zzk14 => ktr_room); (case zzk15 => ktr_units); k_whole); intro vs9 h9 tk9 n9 D9 S9 F9 N9 lo9; (try k_lt lo9); (try dsimp only); (try k_fold); (try k_sweep)) | (k_dflt (refine' flag_use ?zzk1 ?zzk2 ?zzk3 ?zzk4 ?zzk5 ?zzk6 ?zzkl ?zzkO ?zzkS ?zzkh ?zzk14 ?zzk15 ?_; (case zzk1 => k_asm); (case zzk2 => k_asm); (case zzk3 => k_asm); (case zzk4 => k_asm); (case zzk5 => k_asm); (case zzk6 => first | exact rfl | assumption); (case zzkl => k_mem); (case zzkO => (first | exact ⟨_, .inl rfl⟩ | exact ⟨_, .inr rfl⟩)); (case zzkS => first | assumption | exact strs_rev (by assumption)); (case zzkh => first | assumption | exact ok_of_txt (by assumption)); (case zzk14 => ktr_room); (case zzk15 => ktr_units); k_whole); intro v1 v2 t9 t8 h9 tk9 n9 D9 e9 F9 N9 lo9; (try k_lt lo9); (try dsimp only); (try k_fold); (try k_sweep)) | (k_dflt (refine' read_use ?zzk1 ?zzk2 ?zzk3 ?zzk4 ?zzk5 ?zzk6 ?zzkl ?zzkh ?zzk14 ?zzk15 ?_; (case zzk1 => k_asm); (case zzk2 => k_asm); (case zzk3 => k_asm); (case zzk4 => k_asm); (case zzk5 => k_asm); (case zzk6 => first | exact rfl | assumption); (case zzkl => k_mem); (case zzkh => assumption); (case zzk14 => ktr_room); (case zzk15 => ktr_units); k_whole); intro v1 v2 t9 t8 h9 tk9 n9 D9 e9 F9 N9 lo9; (try k_lt lo9); (try dsimp only); (try k_fold); (try k_sweep)))) | ((fail_if_success (with_reducible show LCg.CompSrc _ _ _ _ _ _ _ _ _ _ _ _ _ _)); (first | walk1 | (dsimp only; walk1) | (leave1; (try dsimp only)))) | fail "no step")
      with_unfolding_all refine LCg.CompSrc.ledger (its := (js.map rowRef).toArray) (k := (js.map rowRef).length) (by rfl) (by assumption) N8' (List.mem_cons_self ..) (rows_len hjl (le4_10 (show nR < 5 by assumption))) ?_
      intro g
      with_unfolding_all refine rest_st (σ := List Value) (fun _ => (D8, listOf (js.map rowRef).toArray (js.map rowRef).length) :: (l, listOf (cs.map CE.ref).toArray nl) :: (s1.heap.objs.size + 1 + 1, oW) :: (s1.heap.objs.size + 1 + 1 + 1, oP) :: rest) (fun c => c) (fun i c => StrsAre c ((js.take i).map rowText)) (js.map rowRef).toArray.size ?turn ?fin (js.map rowRef).toArray.size 0 [] (Nat.zero_add _) .nil
      case turn =>
        rintro i ys v I oI C oC D m₂ h tk E' hi hv hok hC hx F N off hne
        (try dsimp only at F N off hok hv hi)
        obtain ⟨j, hj, rfl, hjm⟩ := row_get hv
        have hj21 := hjs j hjm
        have off' := off
        simp only [LCg.Off3] at off'
        obtain ⟨of1, of2, of3, of4, ofr⟩ := off'
        have hoffR := off_any ofr
        clear hv
        refine gen_Q fun Q8 hQ8 => ?_
        repeat' (first | (k_unfold; (try dsimp only)) | ((with_reducible show wpAny _ _ (call (Value.builtin "len") _) _ _ _); (k_here; (with_reducible show wpAny _ _ (call (Value.builtin "len") [Value.ref _]) _ _ _); k_dflt (refine' len_kl ?zzj1 ?zzj2 ?zzj3 ?_; (case zzj1 => k_asm); (case zzj2 => k_mem); (case zzj3 => assumption)); k_whole)) | ((with_reducible show wpAny _ _ (call (Value.type _) _) _ _ _); (k_here; (with_reducible show wpAny _ _ (call (Value.type _) [Value.ref _]) _ _ _); k_dflt (refine' kde_tupleOf ?zzk1 ?zzk2 ?zzk3 ?zzk4 ?zzk5 ?_; (case zzk1 => k_asm); (case zzk2 => k_asm); (case zzk3 => exact News.isList (by k_asm) (by k_mem)); (case zzk4 => (rw [List.size_toArray, List.length_map]; exact Nat.le_trans (by assumption : _ ≤ 3) (by decide))); (case zzk5 => exact List.toList_toArray ..); k_whole); intro D' h' F' N' l1; (try k_lt l1); (try k_sweep))) | ((with_reducible show wpAny _ _ (call (Value.ref _) _) _ _ _); (k_here; (k_dflt (refine' gdef_use ?zzk1 ?zzk2 ?zzk3 ?zzk4 ?zzk5 ?zzk6 ?zzk14 ?zzk15 ?_; (case zzk1 => k_asm); (case zzk2 => k_asm); (case zzk3 => k_asm); (case zzk4 => k_asm); (case zzk5 => k_asm); (case zzk6 => first | exact rfl | assumption); (case zzk14 => ktr_room); (case zzk15 => ktr_units); k_whole)); intro x9 dx9 d9 a1 a2 a3 a4 o9 t1 t2 t3 t4 t5 h9 tk9 F9 N9 lo9 lx9 ld9 ds9 i9; (try dsimp only); (try k_fold); (try k_sweep))) | ((with_reducible show wpAny _ _ (compareOp .NotEq (Value.ref _) (Value.ref _)) _ _ _); (k_here; first | (k_dflt (refine' ne_words ?zzN ?zza ?zzb ?zzsa ?zzsb ?zzp0 ?zzp1 ?zzp2 ?zzp3 ?zzhu ?_; (case zzN => k_asm); (case zza => k_mem); (case zzb => k_mem); (case zzsa => assumption); (case zzsb => assumption); (case zzp0 => assumption); (case zzp1 => assumption); (case zzp2 => assumption); (case zzp3 => assumption); (case zzhu => ktr_units)); (try dsimp only); (try k_fold)) | (k_dflt (refine' ne_pair ?zzN ?zza ?zzb ?zze1 ?zze2 ?zzhu ?_; (case zzN => k_asm); (case zza => k_mem); (case zzb => k_mem); (case zze1 => (first | exact pair_a (by assumption) (by assumption) | exact pair_b (by assumption) (by assumption) | exact pair_c (by assumption) (by assumption) (by assumption) | exact pair_d (by assumption) (by assumption) (by assumption))); (case zze2 => (first | exact pair_a (by assumption) (by assumption) | exact pair_b (by assumption) (by assumption) | exact pair_c (by assumption) (by assumption) (by assumption) | exact pair_d (by assumption) (by assumption) (by assumption))); (case zzhu => ktr_units)); (try dsimp only); (try k_fold)))) | ((with_reducible show wpAny _ _ (call (Value.type _) _) _ _ _); (k_here; (with_reducible show wpAny _ _ (call (Value.type _) [Value.ref _]) _ _ _); k_dflt (refine' kup_listOfT ?zzF ?zzN ?zzb ?zze ?_ ?zzz; (case zzF => k_asm); (case zzN => k_asm); (case zzb => k_mem); (case zze => exact List.toList_toArray ..); (case zzz => exact strs_size (by assumption))); intro D' c' h' F' N' l1; (try k_lt l1); (try k_sweep))) | ((with_reducible show wpAny _ _ (call (Value.ref _) _) _ _ _); (k_here; first | (k_dflt (refine' draw_use ?zzk1 ?zzk2 ?zzk3 ?zzk4 ?zzk5 ?zzk6 ?zzkD ?zzkc ?zzk7 ?zzk8 ?zzk9 ?zzk10 ?zzk11 ?zzk12 ?zzk13 ?zzk14 ?zzk15 ?_; (case zzk1 => k_asm); (case zzk2 => k_asm); (case zzk3 => k_asm); (case zzk4 => k_asm); (case zzk5 => k_asm); (case zzk6 => first | exact rfl | assumption); (case zzkD => (first | exact Del.head (by repeat' (first | exact List.forall_mem_nil _ | exact OwnOff.ne (by assumption) (by simp) | refine List.forall_mem_cons.mpr ⟨by k_ne, ?_⟩)) | exact Del.tail (by k_ne) (by first | exact Del.head (by repeat' (first | exact List.forall_mem_nil _ | exact OwnOff.ne (by assumption) (by simp) | refine List.forall_mem_cons.mpr ⟨by k_ne, ?_⟩)) | exact Del.tail (by k_ne) (by first | exact Del.head (by repeat' (first | exact List.forall_mem_nil _ | exact OwnOff.ne (by assumption) (by simp) | refine List.forall_mem_cons.mpr ⟨by k_ne, ?_⟩)) | exact Del.tail (by k_ne) (by first | exact Del.head (by repeat' (first | exact List.forall_mem_nil _ | exact OwnOff.ne (by assumption) (by simp) | refine List.forall_mem_cons.mpr ⟨by k_ne, ?_⟩)) | exact Del.tail (by k_ne) (by first | exact Del.head (by repeat' (first | exact List.forall_mem_nil _ | exact OwnOff.ne (by assumption) (by simp) | refine List.forall_mem_cons.mpr ⟨by k_ne, ?_⟩)) | exact Del.tail (by k_ne) (by first | exact Del.head (by repeat' (first | exact List.forall_mem_nil _ | exact OwnOff.ne (by assumption) (by simp) | refine List.forall_mem_cons.mpr ⟨by k_ne, ?_⟩)) | exact Del.tail (by k_ne) (by first | exact Del.head (by repeat' (first | exact List.forall_mem_nil _ | exact OwnOff.ne (by assumption) (by simp) | refine List.forall_mem_cons.mpr ⟨by k_ne, ?_⟩)) | exact Del.tail (by k_ne) (by first | exact Del.head (by repeat' (first | exact List.forall_mem_nil _ | exact OwnOff.ne (by assumption) (by simp) | refine List.forall_mem_cons.mpr ⟨by k_ne, ?_⟩)) | exact Del.tail (by k_ne) (by first | exact Del.head (by repeat' (first | exact List.forall_mem_nil _ | exact OwnOff.ne (by assumption) (by simp) | refine List.forall_mem_cons.mpr ⟨by k_ne, ?_⟩)) | exact Del.tail (by k_ne) (by exact Del.head (by repeat' (first | exact List.forall_mem_nil _ | exact OwnOff.ne (by assumption) (by simp) | refine List.forall_mem_cons.mpr ⟨by k_ne, ?_⟩))))))))))))); (case zzkc => k_mem); (case zzk7 => omega); (case zzk8 => assumption); (case zzk9 => assumption); (case zzk10 => assumption); (case zzk11 => omega); (case zzk12 => omega); (case zzk13 => decide); (case zzk14 => ktr_room); (case zzk15 => ktr_units); k_whole); intro r9 t9 t8 h9 tk9 n9 r0 r1 F9 N9; (try dsimp only); (try k_fold); (try k_sweep)) | (k_dflt (refine' words_use ?zzk1 ?zzk2 ?zzk3 ?zzk4 ?zzk5 ?zzk6 ?zzk7 ?zzk8 ?zzk9 ?zzk10 ?zzk14 ?zzk15 ?_; (case zzk1 => k_asm); (case zzk2 => k_asm); (case zzk3 => k_asm); (case zzk4 => k_asm); (case zzk5 => k_asm); (case zzk6 => first | exact rfl | assumption); (case zzk7 => assumption); (case zzk8 => assumption); (case zzk9 => assumption); (case zzk10 => assumption); (case zzk14 => ktr_room); (case zzk15 => ktr_units); k_whole); intro vs9 h9 tk9 n9 D9 S9 F9 N9 lo9; (try k_lt lo9); (try dsimp only); (try k_fold); (try k_sweep)) | (k_dflt (refine' lw_use ?zzk1 ?zzk2 ?zzk3 ?zzk4 ?zzk5 ?zzk6 ?zzk7 ?zzk8 ?zzk9 ?zzk10 ?zzk14 ?zzk15 ?_; (case zzk1 => k_asm); (case zzk2 => k_asm); (case zzk3 => k_asm); (case zzk4 => k_asm); (case zzk5 => k_asm); (case zzk6 => first | exact rfl | assumption); (case zzk7 => assumption); (case zzk8 => assumption); (case zzk9 => assumption); (case zzk10 => assumption); (case zzk14 => ktr_room); (case zzk15 => ktr_units); k_whole); intro vs9 h9 tk9 n9 D9 S9 F9 N9 lo9; (try k_lt lo9); (try dsimp only); (try k_fold); (try k_sweep)) | (k_dflt (refine' flag_use ?zzk1 ?zzk2 ?zzk3 ?zzk4 ?zzk5 ?zzk6 ?zzkl ?zzkO ?zzkS ?zzkh ?zzk14 ?zzk15 ?_; (case zzk1 => k_asm); (case zzk2 => k_asm); (case zzk3 => k_asm); (case zzk4 => k_asm); (case zzk5 => k_asm); (case zzk6 => first | exact rfl | assumption); (case zzkl => k_mem); (case zzkO => (first | exact ⟨_, .inl rfl⟩ | exact ⟨_, .inr rfl⟩)); (case zzkS => first | assumption | exact strs_rev (by assumption)); (case zzkh => first | assumption | exact ok_of_txt (by assumption)); (case zzk14 => ktr_room); (case zzk15 => ktr_units); k_whole); intro v1 v2 t9 t8 h9 tk9 n9 D9 e9 F9 N9 lo9; (try k_lt lo9); (try dsimp only); (try k_fold); (try k_sweep)) | (k_dflt (refine' read_use ?zzk1 ?zzk2 ?zzk3 ?zzk4 ?zzk5 ?zzk6 ?zzkl ?zzkh ?zzk14 ?zzk15 ?_; (case zzk1 => k_asm); (case zzk2 => k_asm); (case zzk3 => k_asm); (case zzk4 => k_asm); (case zzk5 => k_asm); (case zzk6 => first | exact rfl | assumption); (case zzkl => k_mem); (case zzkh => assumption); (case zzk14 => ktr_room); (case zzk15 => ktr_units); k_whole); intro v1 v2 t9 t8 h9 tk9 n9 D9 e9 F9 N9 lo9; (try k_lt lo9); (try dsimp only); (try k_fold); (try k_sweep)))) | ((fail_if_success (with_reducible show wpAny _ _ (subscriptTail _ _ _ _) _ _ _)); (first | walk1 | (dsimp only; walk1) | (leave1; (try dsimp only)))) | fail "no step")
        k_dflt (refine' row_zero ?j1 ?j2 ?j3 ?_ ?j5; (case j1 => k_asm); (case j2 => k_asm); (case j3 => assumption); (case j5 => with_unfolding_all rfl))
        intro tq
        repeat (first | k_unfold | fail_if_success skip)
        exact hQ8 _ _ (elt_end (ys ++ [_]) (by assumption) (by assumption) (by (try dsimp only); kst_inAny) off (.inr ⟨_, List.mem_cons_self .., rfl, _, rfl⟩) rfl (rows_next hj hok))
      case fin =>
        intro ys hys
        have hYS := rows_all hys
        unfold LCg.FinE
        intro D9 h9 tk9 F9 N9 o9
        have N9' : News s1.heap s1.heap.objs.size h9 ((D9, listOf ys.toArray ys.length) :: (D8, listOf (js.map rowRef).toArray (js.map rowRef).length) :: (l, listOf (cs.map CE.ref).toArray nl) :: (s1.heap.objs.size + 1 + 1, oW) :: (s1.heap.objs.size + 1 + 1 + 1, oP) :: rest) := N9
        clear N9 N8'
        dsimp only at o9 ⊢
        repeat' (first | (k_unfold; (try dsimp only)) | ((with_reducible show wpAny _ _ (call (Value.builtin "len") _) _ _ _); (k_here; (with_reducible show wpAny _ _ (call (Value.builtin "len") [Value.ref _]) _ _ _); k_dflt (refine' len_kl ?zzj1 ?zzj2 ?zzj3 ?_; (case zzj1 => k_asm); (case zzj2 => k_mem); (case zzj3 => assumption)); k_whole)) | ((with_reducible show wpAny _ _ (call (Value.type _) _) _ _ _); (k_here; (with_reducible show wpAny _ _ (call (Value.type _) [Value.ref _]) _ _ _); k_dflt (refine' kde_tupleOf ?zzk1 ?zzk2 ?zzk3 ?zzk4 ?zzk5 ?_; (case zzk1 => k_asm); (case zzk2 => k_asm); (case zzk3 => exact News.isList (by k_asm) (by k_mem)); (case zzk4 => (rw [List.size_toArray, List.length_map]; exact Nat.le_trans (by assumption : _ ≤ 3) (by decide))); (case zzk5 => exact List.toList_toArray ..); k_whole); intro D' h' F' N' l1; (try k_lt l1); (try k_sweep))) | ((with_reducible show wpAny _ _ (call (Value.ref _) _) _ _ _); (k_here; (k_dflt (refine' gdef_use ?zzk1 ?zzk2 ?zzk3 ?zzk4 ?zzk5 ?zzk6 ?zzk14 ?zzk15 ?_; (case zzk1 => k_asm); (case zzk2 => k_asm); (case zzk3 => k_asm); (case zzk4 => k_asm); (case zzk5 => k_asm); (case zzk6 => first | exact rfl | assumption); (case zzk14 => ktr_room); (case zzk15 => ktr_units); k_whole)); intro x9 dx9 d9 a1 a2 a3 a4 o9 t1 t2 t3 t4 t5 h9 tk9 F9 N9 lo9 lx9 ld9 ds9 i9; (try dsimp only); (try k_fold); (try k_sweep))) | ((with_reducible show wpAny _ _ (compareOp .NotEq (Value.ref _) (Value.ref _)) _ _ _); (k_here; first | (k_dflt (refine' ne_words ?zzN ?zza ?zzb ?zzsa ?zzsb ?zzp0 ?zzp1 ?zzp2 ?zzp3 ?zzhu ?_; (case zzN => k_asm); (case zza => k_mem); (case zzb => k_mem); (case zzsa => assumption); (case zzsb => assumption); (case zzp0 => assumption); (case zzp1 => assumption); (case zzp2 => assumption); (case zzp3 => assumption); (case zzhu => ktr_units)); (try dsimp only); (try k_fold)) | (k_dflt (refine' ne_pair ?zzN ?zza ?zzb ?zze1 ?zze2 ?zzhu ?_; (case zzN => k_asm); (case zza => k_mem); (case zzb => k_mem); (case zze1 => (first | exact pair_a (by assumption) (by assumption) | exact pair_b (by assumption) (by assumption) | exact pair_c (by assumption) (by assumption) (by assumption) | exact pair_d (by assumption) (by assumption) (by assumption))); (case zze2 => (first | exact pair_a (by assumption) (by assumption) | exact pair_b (by assumption) (by assumption) | exact pair_c (by assumption) (by assumption) (by assumption) | exact pair_d (by assumption) (by assumption) (by assumption))); (case zzhu => ktr_units)); (try dsimp only); (try k_fold)))) | ((with_reducible show wpAny _ _ (call (Value.type _) _) _ _ _); (k_here; (with_reducible show wpAny _ _ (call (Value.type _) [Value.ref _]) _ _ _); k_dflt (refine' kup_listOfT ?zzF ?zzN ?zzb ?zze ?_ ?zzz; (case zzF => k_asm); (case zzN => k_asm); (case zzb => k_mem); (case zze => exact List.toList_toArray ..); (case zzz => exact strs_size (by assumption))); intro D' c' h' F' N' l1; (try k_lt l1); (try k_sweep))) | ((with_reducible show wpAny _ _ (call (Value.ref _) _) _ _ _); (k_here; first | (k_dflt (refine' draw_use ?zzk1 ?zzk2 ?zzk3 ?zzk4 ?zzk5 ?zzk6 ?zzkD ?zzkc ?zzk7 ?zzk8 ?zzk9 ?zzk10 ?zzk11 ?zzk12 ?zzk13 ?zzk14 ?zzk15 ?_; (case zzk1 => k_asm); (case zzk2 => k_asm); (case zzk3 => k_asm); (case zzk4 => k_asm); (case zzk5 => k_asm); (case zzk6 => first | exact rfl | assumption); (case zzkD => (first | exact Del.head (by repeat' (first | exact List.forall_mem_nil _ | exact OwnOff.ne (by assumption) (by simp) | refine List.forall_mem_cons.mpr ⟨by k_ne, ?_⟩)) | exact Del.tail (by k_ne) (by first | exact Del.head (by repeat' (first | exact List.forall_mem_nil _ | exact OwnOff.ne (by assumption) (by simp) | refine List.forall_mem_cons.mpr ⟨by k_ne, ?_⟩)) | exact Del.tail (by k_ne) (by first | exact Del.head (by repeat' (first | exact List.forall_mem_nil _ | exact OwnOff.ne (by assumption) (by simp) | refine List.forall_mem_cons.mpr ⟨by k_ne, ?_⟩)) | exact Del.tail (by k_ne) (by first | exact Del.head (by repeat' (first | exact List.forall_mem_nil _ | exact OwnOff.ne (by assumption) (by simp) | refine List.forall_mem_cons.mpr ⟨by k_ne, ?_⟩)) | exact Del.tail (by k_ne) (by first | exact Del.head (by repeat' (first | exact List.forall_mem_nil _ | exact OwnOff.ne (by assumption) (by simp) | refine List.forall_mem_cons.mpr ⟨by k_ne, ?_⟩)) | exact Del.tail (by k_ne) (by first | exact Del.head (by repeat' (first | exact List.forall_mem_nil _ | exact OwnOff.ne (by assumption) (by simp) | refine List.forall_mem_cons.mpr ⟨by k_ne, ?_⟩)) | exact Del.tail (by k_ne) (by first | exact Del.head (by repeat' (first | exact List.forall_mem_nil _ | exact OwnOff.ne (by assumption) (by simp) | refine List.forall_mem_cons.mpr ⟨by k_ne, ?_⟩)) | exact Del.tail (by k_ne) (by first | exact Del.head (by repeat' (first | exact List.forall_mem_nil _ | exact OwnOff.ne (by assumption) (by simp) | refine List.forall_mem_cons.mpr ⟨by k_ne, ?_⟩)) | exact Del.tail (by k_ne) (by first | exact Del.head (by repeat' (first | exact List.forall_mem_nil _ | exact OwnOff.ne (by assumption) (by simp) | refine List.forall_mem_cons.mpr ⟨by k_ne, ?_⟩)) | exact Del.tail (by k_ne) (by exact Del.head (by repeat' (first | exact List.forall_mem_nil _ | exact OwnOff.ne (by assumption) (by simp) | refine List.forall_mem_cons.mpr ⟨by k_ne, ?_⟩))))))))))))); (case zzkc => k_mem); (case zzk7 => omega); (case zzk8 => assumption); (case zzk9 => assumption); (case zzk10 => assumption); (case zzk11 => omega); (case zzk12 => omega); (case zzk13 => decide); (case zzk14 => ktr_room); (case zzk15 => ktr_units); k_whole); intro r9 t9 t8 h9 tk9 n9 r0 r1 F9 N9; (try dsimp only); (try k_fold); (try k_sweep)) | (k_dflt (refine' words_use ?zzk1 ?zzk2 ?zzk3 ?zzk4 ?zzk5 ?zzk6 ?zzk7 ?zzk8 ?zzk9 ?zzk10 ?zzk14 ?zzk15 ?_; (case zzk1 => k_asm); (case zzk2 => k_asm); (case zzk3 => k_asm); (case zzk4 => k_asm); (case zzk5 => k_asm); (case zzk6 => first | exact rfl | assumption); (case zzk7 => assumption); (case zzk8 => assumption); (case zzk9 => assumption); (case zzk10 => assumption); (case zzk14 => ktr_room); (case zzk15 => ktr_units); k_whole); intro vs9 h9 tk9 n9 D9 S9 F9 N9 lo9; (try k_lt lo9); (try dsimp only); (try k_fold); (try k_sweep)) | (k_dflt (refine' lw_use ?zzk1 ?zzk2 ?zzk3 ?zzk4 ?zzk5 ?zzk6 ?zzk7 ?zzk8 ?zzk9 ?zzk10 ?zzk14 ?zzk15 ?_; (case zzk1 => k_asm); (case zzk2 => k_asm); (case zzk3 => k_asm); (case zzk4 => k_asm); (case zzk5 => k_asm); (case zzk6 => first | exact rfl | assumption); (case zzk7 => assumption); (case zzk8 => assumption); (case zzk9 => assumption); (case zzk10 => assumption); (case zzk14 => ktr_room); (case zzk15 => ktr_units); k_whole); intro vs9 h9 tk9 n9 D9 S9 F9 N9 lo9; (try k_lt lo9); (try dsimp only); (try k_fold); (try k_sweep)) | (k_dflt (refine' flag_use ?zzk1 ?zzk2 ?zzk3 ?zzk4 ?zzk5 ?zzk6 ?zzkl ?zzkO ?zzkS ?zzkh ?zzk14 ?zzk15 ?_; (case zzk1 => k_asm); (case zzk2 => k_asm); (case zzk3 => k_asm); (case zzk4 => k_asm); (case zzk5 => k_asm); (case zzk6 => first | exact rfl | assumption); (case zzkl => k_mem); (case zzkO => (first | exact ⟨_, .inl rfl⟩ | exact ⟨_, .inr rfl⟩)); (case zzkS => first | assumption | exact strs_rev (by assumption)); (case zzkh => first | assumption | exact ok_of_txt (by assumption)); (case zzk14 => ktr_room); (case zzk15 => ktr_units); k_whole); intro v1 v2 t9 t8 h9 tk9 n9 D9 e9 F9 N9 lo9; (try k_lt lo9); (try dsimp only); (try k_fold); (try k_sweep)) | (k_dflt (refine' read_use ?zzk1 ?zzk2 ?zzk3 ?zzk4 ?zzk5 ?zzk6 ?zzkl ?zzkh ?zzk14 ?zzk15 ?_; (case zzk1 => k_asm); (case zzk2 => k_asm); (case zzk3 => k_asm); (case zzk4 => k_asm); (case zzk5 => k_asm); (case zzk6 => first | exact rfl | assumption); (case zzkl => k_mem); (case zzkh => assumption); (case zzk14 => ktr_room); (case zzk15 => ktr_units); k_whole); intro v1 v2 t9 t8 h9 tk9 n9 D9 e9 F9 N9 lo9; (try k_lt lo9); (try dsimp only); (try k_fold); (try k_sweep)))) | walk1 | (dsimp only; walk1) | (leave1; (try dsimp only)) | fail "no step")
        exact hQ9 _ _ ⟨rfl, at_intro () (by assumption) (by assumption) (by kst_inAny) (by kst_all) trivial⟩
    rintro - u8 h8 tk8 F8 N8 -
    clear F8' N8'
    refine cut (σ := GS) F8 (fun c => (c.d, c.o) :: (c.x, instObj 144 c.dx) :: (c.dx, gDict w0 c.a1 c.a2 c.a3 c.a4 c.d c.t1 c.t2 c.t3 c.t4 c.t5) :: (l, listOf (cs.map CE.ref).toArray nl) :: (s1.heap.objs.size + 1 + 1, oW) :: (s1.heap.objs.size + 1 + 1 + 1, oP) :: rest) (fun c => [(Str.ofString "carets", Value.ref l), (Str.ofString "gdef", Value.ref c.x)]) (fun c => (∀ p ∈ (l, listOf (cs.map CE.ref).toArray nl) :: (s1.heap.objs.size + 1 + 1, oW) :: (s1.heap.objs.size + 1 + 1 + 1, oP) :: rest, @LT.lt Nat _ p.1 c.dx) ∧ @LT.lt Nat _ c.dx c.x ∧ @LT.lt Nat _ c.x c.d ∧ (c.d == sysModules) = false ∧ c.o.IsDictOf (intKind PySem.Challenge.rw_nu0152_01.row.prog w0) []) ?_ ?_
    · intro E9
      refine gen_Q fun Q9 hQ9 => ?_
      repeat' (first | (k_unfold; (try dsimp only)) | ((with_reducible show wpAny _ _ (call (Value.builtin "len") _) _ _ _); (k_here; (with_reducible show wpAny _ _ (call (Value.builtin "len") [Value.ref _]) _ _ _); k_dflt (refine' len_kl ?zzj1 ?zzj2 ?zzj3 ?_; (case zzj1 => k_asm); (case zzj2 => k_mem); (case zzj3 => assumption)); k_whole)) | ((with_reducible show wpAny _ _ (call (Value.type _) _) _ _ _); (k_here; (with_reducible show wpAny _ _ (call (Value.type _) [Value.ref _]) _ _ _); k_dflt (refine' kde_tupleOf ?zzk1 ?zzk2 ?zzk3 ?zzk4 ?zzk5 ?_; (case zzk1 => k_asm); (case zzk2 => k_asm); (case zzk3 => exact News.isList (by k_asm) (by k_mem)); (case zzk4 => (rw [List.size_toArray, List.length_map]; exact Nat.le_trans (by assumption : _ ≤ 3) (by decide))); (case zzk5 => exact List.toList_toArray ..); k_whole); intro D' h' F' N' l1; (try k_lt l1); (try k_sweep))) | ((with_reducible show wpAny _ _ (call (Value.ref _) _) _ _ _); (k_here; (k_dflt (refine' gdef_use ?zzk1 ?zzk2 ?zzk3 ?zzk4 ?zzk5 ?zzk6 ?zzk14 ?zzk15 ?_; (case zzk1 => k_asm); (case zzk2 => k_asm); (case zzk3 => k_asm); (case zzk4 => k_asm); (case zzk5 => k_asm); (case zzk6 => first | exact rfl | assumption); (case zzk14 => ktr_room); (case zzk15 => ktr_units); k_whole)); intro x9 dx9 d9 a1 a2 a3 a4 o9 t1 t2 t3 t4 t5 h9 tk9 F9 N9 lo9 lx9 ld9 ds9 i9; (try dsimp only); (try k_fold); (try k_sweep))) | ((with_reducible show wpAny _ _ (compareOp .NotEq (Value.ref _) (Value.ref _)) _ _ _); (k_here; first | (k_dflt (refine' ne_words ?zzN ?zza ?zzb ?zzsa ?zzsb ?zzp0 ?zzp1 ?zzp2 ?zzp3 ?zzhu ?_; (case zzN => k_asm); (case zza => k_mem); (case zzb => k_mem); (case zzsa => assumption); (case zzsb => assumption); (case zzp0 => assumption); (case zzp1 => assumption); (case zzp2 => assumption); (case zzp3 => assumption); (case zzhu => ktr_units)); (try dsimp only); (try k_fold)) | (k_dflt (refine' ne_pair ?zzN ?zza ?zzb ?zze1 ?zze2 ?zzhu ?_; (case zzN => k_asm); (case zza => k_mem); (case zzb => k_mem); (case zze1 => (first | exact pair_a (by assumption) (by assumption) | exact pair_b (by assumption) (by assumption) | exact pair_c (by assumption) (by assumption) (by assumption) | exact pair_d (by assumption) (by assumption) (by assumption))); (case zze2 => (first | exact pair_a (by assumption) (by assumption) | exact pair_b (by assumption) (by assumption) | exact pair_c (by assumption) (by assumption) (by assumption) | exact pair_d (by assumption) (by assumption) (by assumption))); (case zzhu => ktr_units)); (try dsimp only); (try k_fold)))) | ((with_reducible show wpAny _ _ (call (Value.type _) _) _ _ _); (k_here; (with_reducible show wpAny _ _ (call (Value.type _) [Value.ref _]) _ _ _); k_dflt (refine' kup_listOfT ?zzF ?zzN ?zzb ?zze ?_ ?zzz; (case zzF => k_asm); (case zzN => k_asm); (case zzb => k_mem); (case zze => exact List.toList_toArray ..); (case zzz => exact strs_size (by assumption))); intro D' c' h' F' N' l1; (try k_lt l1); (try k_sweep))) | ((with_reducible show wpAny _ _ (call (Value.ref _) _) _ _ _); (k_here; first | (k_dflt (refine' draw_use ?zzk1 ?zzk2 ?zzk3 ?zzk4 ?zzk5 ?zzk6 ?zzkD ?zzkc ?zzk7 ?zzk8 ?zzk9 ?zzk10 ?zzk11 ?zzk12 ?zzk13 ?zzk14 ?zzk15 ?_; (case zzk1 => k_asm); (case zzk2 => k_asm); (case zzk3 => k_asm); (case zzk4 => k_asm); (case zzk5 => k_asm); (case zzk6 => first | exact rfl | assumption); (case zzkD => (first | exact Del.head (by repeat' (first | exact List.forall_mem_nil _ | exact OwnOff.ne (by assumption) (by simp) | refine List.forall_mem_cons.mpr ⟨by k_ne, ?_⟩)) | exact Del.tail (by k_ne) (by first | exact Del.head (by repeat' (first | exact List.forall_mem_nil _ | exact OwnOff.ne (by assumption) (by simp) | refine List.forall_mem_cons.mpr ⟨by k_ne, ?_⟩)) | exact Del.tail (by k_ne) (by first | exact Del.head (by repeat' (first | exact List.forall_mem_nil _ | exact OwnOff.ne (by assumption) (by simp) | refine List.forall_mem_cons.mpr ⟨by k_ne, ?_⟩)) | exact Del.tail (by k_ne) (by first | exact Del.head (by repeat' (first | exact List.forall_mem_nil _ | exact OwnOff.ne (by assumption) (by simp) | refine List.forall_mem_cons.mpr ⟨by k_ne, ?_⟩)) | exact Del.tail (by k_ne) (by first | exact Del.head (by repeat' (first | exact List.forall_mem_nil _ | exact OwnOff.ne (by assumption) (by simp) | refine List.forall_mem_cons.mpr ⟨by k_ne, ?_⟩)) | exact Del.tail (by k_ne) (by first | exact Del.head (by repeat' (first | exact List.forall_mem_nil _ | exact OwnOff.ne (by assumption) (by simp) | refine List.forall_mem_cons.mpr ⟨by k_ne, ?_⟩)) | exact Del.tail (by k_ne) (by first | exact Del.head (by repeat' (first | exact List.forall_mem_nil _ | exact OwnOff.ne (by assumption) (by simp) | refine List.forall_mem_cons.mpr ⟨by k_ne, ?_⟩)) | exact Del.tail (by k_ne) (by first | exact Del.head (by repeat' (first | exact List.forall_mem_nil _ | exact OwnOff.ne (by assumption) (by simp) | refine List.forall_mem_cons.mpr ⟨by k_ne, ?_⟩)) | exact Del.tail (by k_ne) (by first | exact Del.head (by repeat' (first | exact List.forall_mem_nil _ | exact OwnOff.ne (by assumption) (by simp) | refine List.forall_mem_cons.mpr ⟨by k_ne, ?_⟩)) | exact Del.tail (by k_ne) (by exact Del.head (by repeat' (first | exact List.forall_mem_nil _ | exact OwnOff.ne (by assumption) (by simp) | refine List.forall_mem_cons.mpr ⟨by k_ne, ?_⟩))))))))))))); (case zzkc => k_mem); (case zzk7 => omega); (case zzk8 => assumption); (case zzk9 => assumption); (case zzk10 => assumption); (case zzk11 => omega); (case zzk12 => omega); (case zzk13 => decide); (case zzk14 => ktr_room); (case zzk15 => ktr_units); k_whole); intro r9 t9 t8 h9 tk9 n9 r0 r1 F9 N9; (try dsimp only); (try k_fold); (try k_sweep)) | (k_dflt (refine' words_use ?zzk1 ?zzk2 ?zzk3 ?zzk4 ?zzk5 ?zzk6 ?zzk7 ?zzk8 ?zzk9 ?zzk10 ?zzk14 ?zzk15 ?_; (case zzk1 => k_asm); (case zzk2 => k_asm); (case zzk3 => k_asm); (case zzk4 => k_asm); (case zzk5 => k_asm); (case zzk6 => first | exact rfl | assumption); (case zzk7 => assumption); (case zzk8 => assumption); (case zzk9 => assumption); (case zzk10 => assumption); (case zzk14 => ktr_room); (case zzk15 => ktr_units); k_whole); intro vs9 h9 tk9 n9 D9 S9 F9 N9 lo9; (try k_lt lo9); (try dsimp only); (try k_fold); (try k_sweep)) | (k_dflt (refine' lw_use ?zzk1 ?zzk2 ?zzk3 ?zzk4 ?zzk5 ?zzk6 ?zzk7 ?zzk8 ?zzk9 ?zzk10 ?zzk14 ?zzk15 ?_; (case zzk1 => k_asm); (case zzk2 => k_asm); (case zzk3 => k_asm); (case zzk4 => k_asm); (case zzk5 => k_asm); (case zzk6 => first | exact rfl | assumption); (case zzk7 => assumption); (case zzk8 => assumption); (case zzk9 => assumption); (case zzk10 => assumption); (case zzk14 => ktr_room); (case zzk15 => ktr_units); k_whole); intro vs9 h9 tk9 n9 D9 S9 F9 N9 lo9; (try k_lt lo9); (try dsimp only); (try k_fold); (try k_sweep)) | (k_dflt (refine' flag_use ?zzk1 ?zzk2 ?zzk3 ?zzk4 ?zzk5 ?zzk6 ?zzkl ?zzkO ?zzkS ?zzkh ?zzk14 ?zzk15 ?_; (case zzk1 => k_asm); (case zzk2 => k_asm); (case zzk3 => k_asm); (case zzk4 => k_asm); (case zzk5 => k_asm); (case zzk6 => first | exact rfl | assumption); (case zzkl => k_mem); (case zzkO => (first | exact ⟨_, .inl rfl⟩ | exact ⟨_, .inr rfl⟩)); (case zzkS => first | assumption | exact strs_rev (by assumption)); (case zzkh => first | assumption | exact ok_of_txt (by assumption)); (case zzk14 => ktr_room); (case zzk15 => ktr_units); k_whole); intro v1 v2 t9 t8 h9 tk9 n9 D9 e9 F9 N9 lo9; (try k_lt lo9); (try dsimp only); (try k_fold); (try k_sweep)) | (k_dflt (refine' read_use ?zzk1 ?zzk2 ?zzk3 ?zzk4 ?zzk5 ?zzk6 ?zzkl ?zzkh ?zzk14 ?zzk15 ?_; (case zzk1 => k_asm); (case zzk2 => k_asm); (case zzk3 => k_asm); (case zzk4 => k_asm); (case zzk5 => k_asm); (case zzk6 => first | exact rfl | assumption); (case zzkl => k_mem); (case zzkh => assumption); (case zzk14 => ktr_room); (case zzk15 => ktr_units); k_whole); intro v1 v2 t9 t8 h9 tk9 n9 D9 e9 F9 N9 lo9; (try k_lt lo9); (try dsimp only); (try k_fold); (try k_sweep)))) | walk1 | (dsimp only; walk1) | (leave1; (try dsimp only)) | fail "no step")
      exact hQ9 _ _ ⟨rfl, at_intro ⟨_, _, _, _, _, _, _, _, _, _, _, _, _⟩ (by assumption) (by assumption) (by kst_inAny) (by kst_all) ⟨by assumption, by assumption, by assumption, by assumption, by assumption⟩⟩
    rintro ⟨x, dx, d, a1, a2, a3, a4, o, t1, t2, t3, t4, t5⟩ u9 h9 tk9 F9 N9 ⟨hlo, hdx, hxd, hds, hO⟩
    clear F8 N8
    dsimp only at F9 N9 hlo hdx hxd hds hO ⊢
    have hll : @LT.lt Nat _ l dx := hlo _ (.head _)
    have hl2 : @LT.lt Nat _ (s1.heap.objs.size + 1 + 1) dx := hlo _ (.tail _ (.head _))
    have hl3 : @LT.lt Nat _ (s1.heap.objs.size + 1 + 1 + 1) dx := hlo _ (.tail _ (.tail _ (.head _)))
    have hoR2 : OwnOff rest [d, x, dx, l, s1.heap.objs.size + 1 + 1, s1.heap.objs.size + 1 + 1 + 1] := by
      intro p hp b hb
      have h1 : @LT.lt Nat _ p.1 dx := hlo p (.tail _ (.tail _ (.tail _ hp)))
      simp only [List.mem_cons, List.not_mem_nil, or_false] at hb
      rcases hb with hb | hb | hb | hb | hb | hb
      · intro q; have q : @Eq Nat p.1 b := q; rw [hb] at q; exact Nat.ne_of_lt (Nat.lt_trans h1 (Nat.lt_trans hdx hxd)) q
      · intro q; have q : @Eq Nat p.1 b := q; rw [hb] at q; exact Nat.ne_of_lt (Nat.lt_trans h1 hdx) q
      · intro q; have q : @Eq Nat p.1 b := q; rw [hb] at q; exact Nat.ne_of_lt h1 q
      all_goals exact hoR p hp b (by simp [hb])
    clear hoR hlo
    have hdd : @LT.lt Nat _ dx d := Nat.lt_trans hdx hxd
    have hg0x : @LT.lt Nat _ (l) x := Nat.lt_trans hll hdx
    have hg0d : @LT.lt Nat _ (l) d := Nat.lt_trans hll hdd
    have hg1x : @LT.lt Nat _ (s1.heap.objs.size + 1 + 1) x := Nat.lt_trans hl2 hdx
    have hg1d : @LT.lt Nat _ (s1.heap.objs.size + 1 + 1) d := Nat.lt_trans hl2 hdd
    have hg2x : @LT.lt Nat _ (s1.heap.objs.size + 1 + 1 + 1) x := Nat.lt_trans hl3 hdx
    have hg2d : @LT.lt Nat _ (s1.heap.objs.size + 1 + 1 + 1) d := Nat.lt_trans hl3 hdd
    refine cut (σ := Addr × List Value × Nat) F9 (fun c => (c.1, listOf c.2.1.toArray c.2.2) :: (d, o) :: (x, instObj 144 dx) :: (dx, gDict w0 a1 a2 a3 a4 d t1 t2 t3 t4 t5) :: (l, listOf (cs.map CE.ref).toArray nl) :: (s1.heap.objs.size + 1 + 1, oW) :: (s1.heap.objs.size + 1 + 1 + 1, oP) :: rest) (fun c => [(Str.ofString "carets", Value.ref l), (Str.ofString "gdef", Value.ref x), (Str.ofString "even", Value.ref c.1)]) (fun c => IntsAre c.2.1 (evenOf pt wd) ∧ @Ne Nat d c.1) ?_ ?_
    · intro E9
      refine gen_Q fun Q9 hQ9 => ?_
      repeat' (first | (k_unfold; (try dsimp only)) | ((with_reducible show wpAny _ _ (call (Value.builtin "len") _) _ _ _); (k_here; (with_reducible show wpAny _ _ (call (Value.builtin "len") [Value.ref _]) _ _ _); k_dflt (refine' len_kl ?zzj1 ?zzj2 ?zzj3 ?_; (case zzj1 => k_asm); (case zzj2 => k_mem); (case zzj3 => assumption)); k_whole)) | ((with_reducible show wpAny _ _ (call (Value.type _) _) _ _ _); (k_here; (with_reducible show wpAny _ _ (call (Value.type _) [Value.ref _]) _ _ _); k_dflt (refine' kde_tupleOf ?zzk1 ?zzk2 ?zzk3 ?zzk4 ?zzk5 ?_; (case zzk1 => k_asm); (case zzk2 => k_asm); (case zzk3 => exact News.isList (by k_asm) (by k_mem)); (case zzk4 => (rw [List.size_toArray, List.length_map]; exact Nat.le_trans (by assumption : _ ≤ 3) (by decide))); (case zzk5 => exact List.toList_toArray ..); k_whole); intro D' h' F' N' l1; (try k_lt l1); (try k_sweep))) | ((with_reducible show wpAny _ _ (call (Value.ref _) _) _ _ _); (k_here; (k_dflt (refine' gdef_use ?zzk1 ?zzk2 ?zzk3 ?zzk4 ?zzk5 ?zzk6 ?zzk14 ?zzk15 ?_; (case zzk1 => k_asm); (case zzk2 => k_asm); (case zzk3 => k_asm); (case zzk4 => k_asm); (case zzk5 => k_asm); (case zzk6 => first | exact rfl | assumption); (case zzk14 => ktr_room); (case zzk15 => ktr_units); k_whole)); intro x9 dx9 d9 a1 a2 a3 a4 o9 t1 t2 t3 t4 t5 h9 tk9 F9 N9 lo9 lx9 ld9 ds9 i9; (try dsimp only); (try k_fold); (try k_sweep))) | ((with_reducible show wpAny _ _ (compareOp .NotEq (Value.ref _) (Value.ref _)) _ _ _); (k_here; first | (k_dflt (refine' ne_words ?zzN ?zza ?zzb ?zzsa ?zzsb ?zzp0 ?zzp1 ?zzp2 ?zzp3 ?zzhu ?_; (case zzN => k_asm); (case zza => k_mem); (case zzb => k_mem); (case zzsa => assumption); (case zzsb => assumption); (case zzp0 => assumption); (case zzp1 => assumption); (case zzp2 => assumption); (case zzp3 => assumption); (case zzhu => ktr_units)); (try dsimp only); (try k_fold)) | (k_dflt (refine' ne_pair ?zzN ?zza ?zzb ?zze1 ?zze2 ?zzhu ?_; (case zzN => k_asm); (case zza => k_mem); (case zzb => k_mem); (case zze1 => (first | exact pair_a (by assumption) (by assumption) | exact pair_b (by assumption) (by assumption) | exact pair_c (by assumption) (by assumption) (by assumption) | exact pair_d (by assumption) (by assumption) (by assumption))); (case zze2 => (first | exact pair_a (by assumption) (by assumption) | exact pair_b (by assumption) (by assumption) | exact pair_c (by assumption) (by assumption) (by assumption) | exact pair_d (by assumption) (by assumption) (by assumption))); (case zzhu => ktr_units)); (try dsimp only); (try k_fold)))) | ((with_reducible show wpAny _ _ (call (Value.type _) _) _ _ _); (k_here; (with_reducible show wpAny _ _ (call (Value.type _) [Value.ref _]) _ _ _); k_dflt (refine' kup_listOfT ?zzF ?zzN ?zzb ?zze ?_ ?zzz; (case zzF => k_asm); (case zzN => k_asm); (case zzb => k_mem); (case zze => exact List.toList_toArray ..); (case zzz => exact strs_size (by assumption))); intro D' c' h' F' N' l1; (try k_lt l1); (try k_sweep))) | ((with_reducible show wpAny _ _ (call (Value.ref _) _) _ _ _); (k_here; first | (k_dflt (refine' draw_use ?zzk1 ?zzk2 ?zzk3 ?zzk4 ?zzk5 ?zzk6 ?zzkD ?zzkc ?zzk7 ?zzk8 ?zzk9 ?zzk10 ?zzk11 ?zzk12 ?zzk13 ?zzk14 ?zzk15 ?_; (case zzk1 => k_asm); (case zzk2 => k_asm); (case zzk3 => k_asm); (case zzk4 => k_asm); (case zzk5 => k_asm); (case zzk6 => first | exact rfl | assumption); (case zzkD => (first | exact Del.head (by repeat' (first | exact List.forall_mem_nil _ | exact OwnOff.ne (by assumption) (by simp) | refine List.forall_mem_cons.mpr ⟨by k_ne, ?_⟩)) | exact Del.tail (by k_ne) (by first | exact Del.head (by repeat' (first | exact List.forall_mem_nil _ | exact OwnOff.ne (by assumption) (by simp) | refine List.forall_mem_cons.mpr ⟨by k_ne, ?_⟩)) | exact Del.tail (by k_ne) (by first | exact Del.head (by repeat' (first | exact List.forall_mem_nil _ | exact OwnOff.ne (by assumption) (by simp) | refine List.forall_mem_cons.mpr ⟨by k_ne, ?_⟩)) | exact Del.tail (by k_ne) (by first | exact Del.head (by repeat' (first | exact List.forall_mem_nil _ | exact OwnOff.ne (by assumption) (by simp) | refine List.forall_mem_cons.mpr ⟨by k_ne, ?_⟩)) | exact Del.tail (by k_ne) (by first | exact Del.head (by repeat' (first | exact List.forall_mem_nil _ | exact OwnOff.ne (by assumption) (by simp) | refine List.forall_mem_cons.mpr ⟨by k_ne, ?_⟩)) | exact Del.tail (by k_ne) (by first | exact Del.head (by repeat' (first | exact List.forall_mem_nil _ | exact OwnOff.ne (by assumption) (by simp) | refine List.forall_mem_cons.mpr ⟨by k_ne, ?_⟩)) | exact Del.tail (by k_ne) (by first | exact Del.head (by repeat' (first | exact List.forall_mem_nil _ | exact OwnOff.ne (by assumption) (by simp) | refine List.forall_mem_cons.mpr ⟨by k_ne, ?_⟩)) | exact Del.tail (by k_ne) (by first | exact Del.head (by repeat' (first | exact List.forall_mem_nil _ | exact OwnOff.ne (by assumption) (by simp) | refine List.forall_mem_cons.mpr ⟨by k_ne, ?_⟩)) | exact Del.tail (by k_ne) (by first | exact Del.head (by repeat' (first | exact List.forall_mem_nil _ | exact OwnOff.ne (by assumption) (by simp) | refine List.forall_mem_cons.mpr ⟨by k_ne, ?_⟩)) | exact Del.tail (by k_ne) (by exact Del.head (by repeat' (first | exact List.forall_mem_nil _ | exact OwnOff.ne (by assumption) (by simp) | refine List.forall_mem_cons.mpr ⟨by k_ne, ?_⟩))))))))))))); (case zzkc => k_mem); (case zzk7 => omega); (case zzk8 => assumption); (case zzk9 => assumption); (case zzk10 => assumption); (case zzk11 => omega); (case zzk12 => omega); (case zzk13 => decide); (case zzk14 => ktr_room); (case zzk15 => ktr_units); k_whole); intro r9 t9 t8 h9 tk9 n9 r0 r1 F9 N9; (try dsimp only); (try k_fold); (try k_sweep)) | (k_dflt (refine' words_use ?zzk1 ?zzk2 ?zzk3 ?zzk4 ?zzk5 ?zzk6 ?zzk7 ?zzk8 ?zzk9 ?zzk10 ?zzk14 ?zzk15 ?_; (case zzk1 => k_asm); (case zzk2 => k_asm); (case zzk3 => k_asm); (case zzk4 => k_asm); (case zzk5 => k_asm); (case zzk6 => first | exact rfl | assumption); (case zzk7 => assumption); (case zzk8 => assumption); (case zzk9 => assumption); (case zzk10 => assumption); (case zzk14 => ktr_room); (case zzk15 => ktr_units); k_whole); intro vs9 h9 tk9 n9 D9 S9 F9 N9 lo9; (try k_lt lo9); (try dsimp only); (try k_fold); (try k_sweep)) | (k_dflt (refine' lw_use ?zzk1 ?zzk2 ?zzk3 ?zzk4 ?zzk5 ?zzk6 ?zzk7 ?zzk8 ?zzk9 ?zzk10 ?zzk14 ?zzk15 ?_; (case zzk1 => k_asm); (case zzk2 => k_asm); (case zzk3 => k_asm); (case zzk4 => k_asm); (case zzk5 => k_asm); (case zzk6 => first | exact rfl | assumption); (case zzk7 => assumption); (case zzk8 => assumption); (case zzk9 => assumption); (case zzk10 => assumption); (case zzk14 => ktr_room); (case zzk15 => ktr_units); k_whole); intro vs9 h9 tk9 n9 D9 S9 F9 N9 lo9; (try k_lt lo9); (try dsimp only); (try k_fold); (try k_sweep)) | (k_dflt (refine' flag_use ?zzk1 ?zzk2 ?zzk3 ?zzk4 ?zzk5 ?zzk6 ?zzkl ?zzkO ?zzkS ?zzkh ?zzk14 ?zzk15 ?_; (case zzk1 => k_asm); (case zzk2 => k_asm); (case zzk3 => k_asm); (case zzk4 => k_asm); (case zzk5 => k_asm); (case zzk6 => first | exact rfl | assumption); (case zzkl => k_mem); (case zzkO => (first | exact ⟨_, .inl rfl⟩ | exact ⟨_, .inr rfl⟩)); (case zzkS => first | assumption | exact strs_rev (by assumption)); (case zzkh => first | assumption | exact ok_of_txt (by assumption)); (case zzk14 => ktr_room); (case zzk15 => ktr_units); k_whole); intro v1 v2 t9 t8 h9 tk9 n9 D9 e9 F9 N9 lo9; (try k_lt lo9); (try dsimp only); (try k_fold); (try k_sweep)) | (k_dflt (refine' read_use ?zzk1 ?zzk2 ?zzk3 ?zzk4 ?zzk5 ?zzk6 ?zzkl ?zzkh ?zzk14 ?zzk15 ?_; (case zzk1 => k_asm); (case zzk2 => k_asm); (case zzk3 => k_asm); (case zzk4 => k_asm); (case zzk5 => k_asm); (case zzk6 => first | exact rfl | assumption); (case zzkl => k_mem); (case zzkh => assumption); (case zzk14 => ktr_room); (case zzk15 => ktr_units); k_whole); intro v1 v2 t9 t8 h9 tk9 n9 D9 e9 F9 N9 lo9; (try k_lt lo9); (try dsimp only); (try k_fold); (try k_sweep)))) | walk1 | (dsimp only; walk1) | (leave1; (try dsimp only)) | fail "no step")
      exact hQ9 _ _ ⟨rfl, at_intro ⟨_, _, _⟩ (by assumption) (by assumption) (by kst_inAny) (by kst_all) ⟨by assumption, And.left (by assumption)⟩⟩
    rintro ⟨ea, es, en⟩ u10 h10 tk10 F10 N10 ⟨hE, hde⟩
    clear F9 N9
    dsimp only at F10 N10 hE hde ⊢
    refine cut (σ := Unit) F10 (fun _ => (ea, listOf es.toArray en) :: (d, o) :: (x, instObj 144 dx) :: (dx, gDict w0 a1 a2 a3 a4 d t1 t2 t3 t4 t5) :: (l, listOf (cs.map CE.ref).toArray nl) :: (s1.heap.objs.size + 1 + 1, oW) :: (s1.heap.objs.size + 1 + 1 + 1, oP) :: rest) (fun _ => [(Str.ofString "carets", Value.ref l), (Str.ofString "gdef", Value.ref x), (Str.ofString "even", Value.ref ea)]) (fun _ => True) ?_ ?_
    · intro E9
      refine gen_Q fun Q9 hQ9 => ?_
      repeat' (first | (k_unfold; (try dsimp only)) | ((with_reducible show wpAny _ _ (call (Value.builtin "len") _) _ _ _); (k_here; (with_reducible show wpAny _ _ (call (Value.builtin "len") [Value.ref _]) _ _ _); k_dflt (refine' len_kl ?zzj1 ?zzj2 ?zzj3 ?_; (case zzj1 => k_asm); (case zzj2 => k_mem); (case zzj3 => assumption)); k_whole)) | ((with_reducible show wpAny _ _ (call (Value.type _) _) _ _ _); (k_here; (with_reducible show wpAny _ _ (call (Value.type _) [Value.ref _]) _ _ _); k_dflt (refine' kde_tupleOf ?zzk1 ?zzk2 ?zzk3 ?zzk4 ?zzk5 ?_; (case zzk1 => k_asm); (case zzk2 => k_asm); (case zzk3 => exact News.isList (by k_asm) (by k_mem)); (case zzk4 => (rw [List.size_toArray, List.length_map]; exact Nat.le_trans (by assumption : _ ≤ 3) (by decide))); (case zzk5 => exact List.toList_toArray ..); k_whole); intro D' h' F' N' l1; (try k_lt l1); (try k_sweep))) | ((with_reducible show wpAny _ _ (call (Value.ref _) _) _ _ _); (k_here; (k_dflt (refine' gdef_use ?zzk1 ?zzk2 ?zzk3 ?zzk4 ?zzk5 ?zzk6 ?zzk14 ?zzk15 ?_; (case zzk1 => k_asm); (case zzk2 => k_asm); (case zzk3 => k_asm); (case zzk4 => k_asm); (case zzk5 => k_asm); (case zzk6 => first | exact rfl | assumption); (case zzk14 => ktr_room); (case zzk15 => ktr_units); k_whole)); intro x9 dx9 d9 a1 a2 a3 a4 o9 t1 t2 t3 t4 t5 h9 tk9 F9 N9 lo9 lx9 ld9 ds9 i9; (try dsimp only); (try k_fold); (try k_sweep))) | ((with_reducible show wpAny _ _ (compareOp .NotEq (Value.ref _) (Value.ref _)) _ _ _); (k_here; first | (k_dflt (refine' ne_words ?zzN ?zza ?zzb ?zzsa ?zzsb ?zzp0 ?zzp1 ?zzp2 ?zzp3 ?zzhu ?_; (case zzN => k_asm); (case zza => k_mem); (case zzb => k_mem); (case zzsa => assumption); (case zzsb => assumption); (case zzp0 => assumption); (case zzp1 => assumption); (case zzp2 => assumption); (case zzp3 => assumption); (case zzhu => ktr_units)); (try dsimp only); (try k_fold)) | (k_dflt (refine' ne_pair ?zzN ?zza ?zzb ?zze1 ?zze2 ?zzhu ?_; (case zzN => k_asm); (case zza => k_mem); (case zzb => k_mem); (case zze1 => (first | exact pair_a (by assumption) (by assumption) | exact pair_b (by assumption) (by assumption) | exact pair_c (by assumption) (by assumption) (by assumption) | exact pair_d (by assumption) (by assumption) (by assumption))); (case zze2 => (first | exact pair_a (by assumption) (by assumption) | exact pair_b (by assumption) (by assumption) | exact pair_c (by assumption) (by assumption) (by assumption) | exact pair_d (by assumption) (by assumption) (by assumption))); (case zzhu => ktr_units)); (try dsimp only); (try k_fold)))) | ((with_reducible show wpAny _ _ (call (Value.type _) _) _ _ _); (k_here; (with_reducible show wpAny _ _ (call (Value.type _) [Value.ref _]) _ _ _); k_dflt (refine' kup_listOfT ?zzF ?zzN ?zzb ?zze ?_ ?zzz; (case zzF => k_asm); (case zzN => k_asm); (case zzb => k_mem); (case zze => exact List.toList_toArray ..); (case zzz => exact strs_size (by assumption))); intro D' c' h' F' N' l1; (try k_lt l1); (try k_sweep))) | ((with_reducible show wpAny _ _ (call (Value.ref _) _) _ _ _); (k_here; first | (k_dflt (refine' draw_use ?zzk1 ?zzk2 ?zzk3 ?zzk4 ?zzk5 ?zzk6 ?zzkD ?zzkc ?zzk7 ?zzk8 ?zzk9 ?zzk10 ?zzk11 ?zzk12 ?zzk13 ?zzk14 ?zzk15 ?_; (case zzk1 => k_asm); (case zzk2 => k_asm); (case zzk3 => k_asm); (case zzk4 => k_asm); (case zzk5 => k_asm); (case zzk6 => first | exact rfl | assumption); (case zzkD => (first | exact Del.head (by repeat' (first | exact List.forall_mem_nil _ | exact OwnOff.ne (by assumption) (by simp) | refine List.forall_mem_cons.mpr ⟨by k_ne, ?_⟩)) | exact Del.tail (by k_ne) (by first | exact Del.head (by repeat' (first | exact List.forall_mem_nil _ | exact OwnOff.ne (by assumption) (by simp) | refine List.forall_mem_cons.mpr ⟨by k_ne, ?_⟩)) | exact Del.tail (by k_ne) (by first | exact Del.head (by repeat' (first | exact List.forall_mem_nil _ | exact OwnOff.ne (by assumption) (by simp) | refine List.forall_mem_cons.mpr ⟨by k_ne, ?_⟩)) | exact Del.tail (by k_ne) (by first | exact Del.head (by repeat' (first | exact List.forall_mem_nil _ | exact OwnOff.ne (by assumption) (by simp) | refine List.forall_mem_cons.mpr ⟨by k_ne, ?_⟩)) | exact Del.tail (by k_ne) (by first | exact Del.head (by repeat' (first | exact List.forall_mem_nil _ | exact OwnOff.ne (by assumption) (by simp) | refine List.forall_mem_cons.mpr ⟨by k_ne, ?_⟩)) | exact Del.tail (by k_ne) (by first | exact Del.head (by repeat' (first | exact List.forall_mem_nil _ | exact OwnOff.ne (by assumption) (by simp) | refine List.forall_mem_cons.mpr ⟨by k_ne, ?_⟩)) | exact Del.tail (by k_ne) (by first | exact Del.head (by repeat' (first | exact List.forall_mem_nil _ | exact OwnOff.ne (by assumption) (by simp) | refine List.forall_mem_cons.mpr ⟨by k_ne, ?_⟩)) | exact Del.tail (by k_ne) (by first | exact Del.head (by repeat' (first | exact List.forall_mem_nil _ | exact OwnOff.ne (by assumption) (by simp) | refine List.forall_mem_cons.mpr ⟨by k_ne, ?_⟩)) | exact Del.tail (by k_ne) (by first | exact Del.head (by repeat' (first | exact List.forall_mem_nil _ | exact OwnOff.ne (by assumption) (by simp) | refine List.forall_mem_cons.mpr ⟨by k_ne, ?_⟩)) | exact Del.tail (by k_ne) (by exact Del.head (by repeat' (first | exact List.forall_mem_nil _ | exact OwnOff.ne (by assumption) (by simp) | refine List.forall_mem_cons.mpr ⟨by k_ne, ?_⟩))))))))))))); (case zzkc => k_mem); (case zzk7 => omega); (case zzk8 => assumption); (case zzk9 => assumption); (case zzk10 => assumption); (case zzk11 => omega); (case zzk12 => omega); (case zzk13 => decide); (case zzk14 => ktr_room); (case zzk15 => ktr_units); k_whole); intro r9 t9 t8 h9 tk9 n9 r0 r1 F9 N9; (try dsimp only); (try k_fold); (try k_sweep)) | (k_dflt (refine' words_use ?zzk1 ?zzk2 ?zzk3 ?zzk4 ?zzk5 ?zzk6 ?zzk7 ?zzk8 ?zzk9 ?zzk10 ?zzk14 ?zzk15 ?_; (case zzk1 => k_asm); (case zzk2 => k_asm); (case zzk3 => k_asm); (case zzk4 => k_asm); (case zzk5 => k_asm); (case zzk6 => first | exact rfl | assumption); (case zzk7 => assumption); (case zzk8 => assumption); (case zzk9 => assumption); (case zzk10 => assumption); (case zzk14 => ktr_room); (case zzk15 => ktr_units); k_whole); intro vs9 h9 tk9 n9 D9 S9 F9 N9 lo9; (try k_lt lo9); (try dsimp only); (try k_fold); (try k_sweep)) | (k_dflt (refine' lw_use ?zzk1 ?zzk2 ?zzk3 ?zzk4 ?zzk5 ?zzk6 ?zzk7 ?zzk8 ?zzk9 ?zzk10 ?zzk14 ?zzk15 ?_; (case zzk1 => k_asm); (case zzk2 => k_asm); (case zzk3 => k_asm); (case zzk4 => k_asm); (case zzk5 => k_asm); (case zzk6 => first | exact rfl | assumption); (case zzk7 => assumption); (case zzk8 => assumption); (case zzk9 => assumption); (case zzk10 => assumption); (case zzk14 => ktr_room); (case zzk15 => ktr_units); k_whole); intro vs9 h9 tk9 n9 D9 S9 F9 N9 lo9; (try k_lt lo9); (try dsimp only); (try k_fold); (try k_sweep)) | (k_dflt (refine' flag_use ?zzk1 ?zzk2 ?zzk3 ?zzk4 ?zzk5 ?zzk6 ?zzkl ?zzkO ?zzkS ?zzkh ?zzk14 ?zzk15 ?_; (case zzk1 => k_asm); (case zzk2 => k_asm); (case zzk3 => k_asm); (case zzk4 => k_asm); (case zzk5 => k_asm); (case zzk6 => first | exact rfl | assumption); (case zzkl => k_mem); (case zzkO => (first | exact ⟨_, .inl rfl⟩ | exact ⟨_, .inr rfl⟩)); (case zzkS => first | assumption | exact strs_rev (by assumption)); (case zzkh => first | assumption | exact ok_of_txt (by assumption)); (case zzk14 => ktr_room); (case zzk15 => ktr_units); k_whole); intro v1 v2 t9 t8 h9 tk9 n9 D9 e9 F9 N9 lo9; (try k_lt lo9); (try dsimp only); (try k_fold); (try k_sweep)) | (k_dflt (refine' read_use ?zzk1 ?zzk2 ?zzk3 ?zzk4 ?zzk5 ?zzk6 ?zzkl ?zzkh ?zzk14 ?zzk15 ?_; (case zzk1 => k_asm); (case zzk2 => k_asm); (case zzk3 => k_asm); (case zzk4 => k_asm); (case zzk5 => k_asm); (case zzk6 => first | exact rfl | assumption); (case zzkl => k_mem); (case zzkh => assumption); (case zzk14 => ktr_room); (case zzk15 => ktr_units); k_whole); intro v1 v2 t9 t8 h9 tk9 n9 D9 e9 F9 N9 lo9; (try k_lt lo9); (try dsimp only); (try k_fold); (try k_sweep)))) | ((fail_if_success (with_reducible show wpAny _ _ (call (Value.ref _) [Value.ref _, Value.int _ _, Value.int _ _, Value.int _ _]) _ _ _)); (first | walk1 | (dsimp only; walk1) | (leave1; (try dsimp only)))) | fail "no step")
      k_dflt (refine' stops_use (ks := []) ?k1 ?k2 ?k3 ?k4 ?k5 ?k6 ?kx ?kg ?kd ?ko ?ks ?kr ?kl ?ke ?kk ?gl ?p0 ?p1 ?w0 ?w1 ?k14 ?k15 ?_; (case k1 => k_asm); (case k2 => k_asm); (case k3 => k_asm); (case k4 => k_asm); (case k5 => k_asm); (case k6 => first | exact rfl | assumption); (case kx => k_mem); (case kg => k_mem); (case kd => k_mem); (case ko => assumption); (case ks => assumption); (case kr => exact .inl ⟨rfl, rfl⟩); (case kl => exact Nat.zero_le _); (case ke => exact fun e he => absurd he List.not_mem_nil); (case kk => exact fun e he => absurd he List.not_mem_nil); (case gl => first | exact .inl rfl | exact .inr rfl); (case p0 => assumption); (case p1 => assumption); (case w0 => assumption); (case w1 => assumption); (case k14 => ktr_room); (case k15 => ktr_units); k_whole)
      intro D7 vs7 ns7 n7 h7 tk7 i7 s7 F7 N7
      have e7 := stopsR_nil s7
      subst e7
      clear s7
      (try dsimp only)
      repeat' (first | (k_unfold; (try dsimp only)) | ((with_reducible show wpAny _ _ (call (Value.builtin "len") _) _ _ _); (k_here; (with_reducible show wpAny _ _ (call (Value.builtin "len") [Value.ref _]) _ _ _); k_dflt (refine' len_kl ?zzj1 ?zzj2 ?zzj3 ?_; (case zzj1 => k_asm); (case zzj2 => k_mem); (case zzj3 => assumption)); k_whole)) | ((with_reducible show wpAny _ _ (call (Value.type _) _) _ _ _); (k_here; (with_reducible show wpAny _ _ (call (Value.type _) [Value.ref _]) _ _ _); k_dflt (refine' kde_tupleOf ?zzk1 ?zzk2 ?zzk3 ?zzk4 ?zzk5 ?_; (case zzk1 => k_asm); (case zzk2 => k_asm); (case zzk3 => exact News.isList (by k_asm) (by k_mem)); (case zzk4 => (rw [List.size_toArray, List.length_map]; exact Nat.le_trans (by assumption : _ ≤ 3) (by decide))); (case zzk5 => exact List.toList_toArray ..); k_whole); intro D' h' F' N' l1; (try k_lt l1); (try k_sweep))) | ((with_reducible show wpAny _ _ (call (Value.ref _) _) _ _ _); (k_here; (k_dflt (refine' gdef_use ?zzk1 ?zzk2 ?zzk3 ?zzk4 ?zzk5 ?zzk6 ?zzk14 ?zzk15 ?_; (case zzk1 => k_asm); (case zzk2 => k_asm); (case zzk3 => k_asm); (case zzk4 => k_asm); (case zzk5 => k_asm); (case zzk6 => first | exact rfl | assumption); (case zzk14 => ktr_room); (case zzk15 => ktr_units); k_whole)); intro x9 dx9 d9 a1 a2 a3 a4 o9 t1 t2 t3 t4 t5 h9 tk9 F9 N9 lo9 lx9 ld9 ds9 i9; (try dsimp only); (try k_fold); (try k_sweep))) | ((with_reducible show wpAny _ _ (compareOp .NotEq (Value.ref _) (Value.ref _)) _ _ _); (k_here; first | (k_dflt (refine' ne_words ?zzN ?zza ?zzb ?zzsa ?zzsb ?zzp0 ?zzp1 ?zzp2 ?zzp3 ?zzhu ?_; (case zzN => k_asm); (case zza => k_mem); (case zzb => k_mem); (case zzsa => assumption); (case zzsb => assumption); (case zzp0 => assumption); (case zzp1 => assumption); (case zzp2 => assumption); (case zzp3 => assumption); (case zzhu => ktr_units)); (try dsimp only); (try k_fold)) | (k_dflt (refine' ne_pair ?zzN ?zza ?zzb ?zze1 ?zze2 ?zzhu ?_; (case zzN => k_asm); (case zza => k_mem); (case zzb => k_mem); (case zze1 => (first | exact pair_a (by assumption) (by assumption) | exact pair_b (by assumption) (by assumption) | exact pair_c (by assumption) (by assumption) (by assumption) | exact pair_d (by assumption) (by assumption) (by assumption))); (case zze2 => (first | exact pair_a (by assumption) (by assumption) | exact pair_b (by assumption) (by assumption) | exact pair_c (by assumption) (by assumption) (by assumption) | exact pair_d (by assumption) (by assumption) (by assumption))); (case zzhu => ktr_units)); (try dsimp only); (try k_fold)))) | ((with_reducible show wpAny _ _ (call (Value.type _) _) _ _ _); (k_here; (with_reducible show wpAny _ _ (call (Value.type _) [Value.ref _]) _ _ _); k_dflt (refine' kup_listOfT ?zzF ?zzN ?zzb ?zze ?_ ?zzz; (case zzF => k_asm); (case zzN => k_asm); (case zzb => k_mem); (case zze => exact List.toList_toArray ..); (case zzz => exact strs_size (by assumption))); intro D' c' h' F' N' l1; (try k_lt l1); (try k_sweep))) | ((with_reducible show wpAny _ _ (call (Value.ref _) _) _ _ _); (k_here; first | (k_dflt (refine' draw_use ?zzk1 ?zzk2 ?zzk3 ?zzk4 ?zzk5 ?zzk6 ?zzkD ?zzkc ?zzk7 ?zzk8 ?zzk9 ?zzk10 ?zzk11 ?zzk12 ?zzk13 ?zzk14 ?zzk15 ?_; (case zzk1 => k_asm); (case zzk2 => k_asm); (case zzk3 => k_asm); (case zzk4 => k_asm); (case zzk5 => k_asm); (case zzk6 => first | exact rfl | assumption); (case zzkD => (first | exact Del.head (by repeat' (first | exact List.forall_mem_nil _ | exact OwnOff.ne (by assumption) (by simp) | refine List.forall_mem_cons.mpr ⟨by k_ne, ?_⟩)) | exact Del.tail (by k_ne) (by first | exact Del.head (by repeat' (first | exact List.forall_mem_nil _ | exact OwnOff.ne (by assumption) (by simp) | refine List.forall_mem_cons.mpr ⟨by k_ne, ?_⟩)) | exact Del.tail (by k_ne) (by first | exact Del.head (by repeat' (first | exact List.forall_mem_nil _ | exact OwnOff.ne (by assumption) (by simp) | refine List.forall_mem_cons.mpr ⟨by k_ne, ?_⟩)) | exact Del.tail (by k_ne) (by first | exact Del.head (by repeat' (first | exact List.forall_mem_nil _ | exact OwnOff.ne (by assumption) (by simp) | refine List.forall_mem_cons.mpr ⟨by k_ne, ?_⟩)) | exact Del.tail (by k_ne) (by first | exact Del.head (by repeat' (first | exact List.forall_mem_nil _ | exact OwnOff.ne (by assumption) (by simp) | refine List.forall_mem_cons.mpr ⟨by k_ne, ?_⟩)) | exact Del.tail (by k_ne) (by first | exact Del.head (by repeat' (first | exact List.forall_mem_nil _ | exact OwnOff.ne (by assumption) (by simp) | refine List.forall_mem_cons.mpr ⟨by k_ne, ?_⟩)) | exact Del.tail (by k_ne) (by first | exact Del.head (by repeat' (first | exact List.forall_mem_nil _ | exact OwnOff.ne (by assumption) (by simp) | refine List.forall_mem_cons.mpr ⟨by k_ne, ?_⟩)) | exact Del.tail (by k_ne) (by first | exact Del.head (by repeat' (first | exact List.forall_mem_nil _ | exact OwnOff.ne (by assumption) (by simp) | refine List.forall_mem_cons.mpr ⟨by k_ne, ?_⟩)) | exact Del.tail (by k_ne) (by first | exact Del.head (by repeat' (first | exact List.forall_mem_nil _ | exact OwnOff.ne (by assumption) (by simp) | refine List.forall_mem_cons.mpr ⟨by k_ne, ?_⟩)) | exact Del.tail (by k_ne) (by exact Del.head (by repeat' (first | exact List.forall_mem_nil _ | exact OwnOff.ne (by assumption) (by simp) | refine List.forall_mem_cons.mpr ⟨by k_ne, ?_⟩))))))))))))); (case zzkc => k_mem); (case zzk7 => omega); (case zzk8 => assumption); (case zzk9 => assumption); (case zzk10 => assumption); (case zzk11 => omega); (case zzk12 => omega); (case zzk13 => decide); (case zzk14 => ktr_room); (case zzk15 => ktr_units); k_whole); intro r9 t9 t8 h9 tk9 n9 r0 r1 F9 N9; (try dsimp only); (try k_fold); (try k_sweep)) | (k_dflt (refine' words_use ?zzk1 ?zzk2 ?zzk3 ?zzk4 ?zzk5 ?zzk6 ?zzk7 ?zzk8 ?zzk9 ?zzk10 ?zzk14 ?zzk15 ?_; (case zzk1 => k_asm); (case zzk2 => k_asm); (case zzk3 => k_asm); (case zzk4 => k_asm); (case zzk5 => k_asm); (case zzk6 => first | exact rfl | assumption); (case zzk7 => assumption); (case zzk8 => assumption); (case zzk9 => assumption); (case zzk10 => assumption); (case zzk14 => ktr_room); (case zzk15 => ktr_units); k_whole); intro vs9 h9 tk9 n9 D9 S9 F9 N9 lo9; (try k_lt lo9); (try dsimp only); (try k_fold); (try k_sweep)) | (k_dflt (refine' lw_use ?zzk1 ?zzk2 ?zzk3 ?zzk4 ?zzk5 ?zzk6 ?zzk7 ?zzk8 ?zzk9 ?zzk10 ?zzk14 ?zzk15 ?_; (case zzk1 => k_asm); (case zzk2 => k_asm); (case zzk3 => k_asm); (case zzk4 => k_asm); (case zzk5 => k_asm); (case zzk6 => first | exact rfl | assumption); (case zzk7 => assumption); (case zzk8 => assumption); (case zzk9 => assumption); (case zzk10 => assumption); (case zzk14 => ktr_room); (case zzk15 => ktr_units); k_whole); intro vs9 h9 tk9 n9 D9 S9 F9 N9 lo9; (try k_lt lo9); (try dsimp only); (try k_fold); (try k_sweep)) | (k_dflt (refine' flag_use ?zzk1 ?zzk2 ?zzk3 ?zzk4 ?zzk5 ?zzk6 ?zzkl ?zzkO ?zzkS ?zzkh ?zzk14 ?zzk15 ?_; (case zzk1 => k_asm); (case zzk2 => k_asm); (case zzk3 => k_asm); (case zzk4 => k_asm); (case zzk5 => k_asm); (case zzk6 => first | exact rfl | assumption); (case zzkl => k_mem); (case zzkO => (first | exact ⟨_, .inl rfl⟩ | exact ⟨_, .inr rfl⟩)); (case zzkS => first | assumption | exact strs_rev (by assumption)); (case zzkh => first | assumption | exact ok_of_txt (by assumption)); (case zzk14 => ktr_room); (case zzk15 => ktr_units); k_whole); intro v1 v2 t9 t8 h9 tk9 n9 D9 e9 F9 N9 lo9; (try k_lt lo9); (try dsimp only); (try k_fold); (try k_sweep)) | (k_dflt (refine' read_use ?zzk1 ?zzk2 ?zzk3 ?zzk4 ?zzk5 ?zzk6 ?zzkl ?zzkh ?zzk14 ?zzk15 ?_; (case zzk1 => k_asm); (case zzk2 => k_asm); (case zzk3 => k_asm); (case zzk4 => k_asm); (case zzk5 => k_asm); (case zzk6 => first | exact rfl | assumption); (case zzkl => k_mem); (case zzkh => assumption); (case zzk14 => ktr_room); (case zzk15 => ktr_units); k_whole); intro v1 v2 t9 t8 h9 tk9 n9 D9 e9 F9 N9 lo9; (try k_lt lo9); (try dsimp only); (try k_fold); (try k_sweep)))) | walk1 | (dsimp only; walk1) | (leave1; (try dsimp only)) | fail "no step")
      exact hQ9 _ _ ⟨rfl, at_intro () (by assumption) (by assumption) (by kst_inAny) (by kst_all) trivial⟩
    rintro - u11 h11 tk11 F11 N11 -
    clear F10 N10
    dsimp only
    refine cut (σ := Addr × Obj × Nat) F11 (fun c => (c.1, tupO (cs.map CE.ref).toArray c.2.2) :: (ea, listOf es.toArray en) :: (d, c.2.1) :: (x, instObj 144 dx) :: (dx, gDict w0 a1 a2 a3 a4 d t1 t2 t3 t4 t5) :: (l, listOf (cs.map CE.ref).toArray nl) :: (s1.heap.objs.size + 1 + 1, oW) :: (s1.heap.objs.size + 1 + 1 + 1, oP) :: rest) (fun _ => [(Str.ofString "carets", Value.ref l), (Str.ofString "gdef", Value.ref x), (Str.ofString "even", Value.ref ea)]) (fun c => c.2.1.IsDictOf (intKind PySem.Challenge.rw_nu0152_01.row.prog w0) (glyD c.1)) ?_ ?_
    · intro E9
      refine gen_Q fun Q9 hQ9 => ?_
      repeat' (first | (k_unfold; (try dsimp only)) | ((with_reducible show wpAny _ _ (call (Value.builtin "len") _) _ _ _); (k_here; (with_reducible show wpAny _ _ (call (Value.builtin "len") [Value.ref _]) _ _ _); k_dflt (refine' len_kl ?zzj1 ?zzj2 ?zzj3 ?_; (case zzj1 => k_asm); (case zzj2 => k_mem); (case zzj3 => assumption)); k_whole)) | ((with_reducible show wpAny _ _ (call (Value.type _) _) _ _ _); (k_here; (with_reducible show wpAny _ _ (call (Value.type _) [Value.ref _]) _ _ _); k_dflt (refine' kde_tupleOf ?zzk1 ?zzk2 ?zzk3 ?zzk4 ?zzk5 ?_; (case zzk1 => k_asm); (case zzk2 => k_asm); (case zzk3 => exact News.isList (by k_asm) (by k_mem)); (case zzk4 => (rw [List.size_toArray, List.length_map]; exact Nat.le_trans (by assumption : _ ≤ 3) (by decide))); (case zzk5 => exact List.toList_toArray ..); k_whole); intro D' h' F' N' l1; (try k_lt l1); (try k_sweep))) | ((with_reducible show wpAny _ _ (call (Value.ref _) _) _ _ _); (k_here; (k_dflt (refine' gdef_use ?zzk1 ?zzk2 ?zzk3 ?zzk4 ?zzk5 ?zzk6 ?zzk14 ?zzk15 ?_; (case zzk1 => k_asm); (case zzk2 => k_asm); (case zzk3 => k_asm); (case zzk4 => k_asm); (case zzk5 => k_asm); (case zzk6 => first | exact rfl | assumption); (case zzk14 => ktr_room); (case zzk15 => ktr_units); k_whole)); intro x9 dx9 d9 a1 a2 a3 a4 o9 t1 t2 t3 t4 t5 h9 tk9 F9 N9 lo9 lx9 ld9 ds9 i9; (try dsimp only); (try k_fold); (try k_sweep))) | ((with_reducible show wpAny _ _ (compareOp .NotEq (Value.ref _) (Value.ref _)) _ _ _); (k_here; first | (k_dflt (refine' ne_words ?zzN ?zza ?zzb ?zzsa ?zzsb ?zzp0 ?zzp1 ?zzp2 ?zzp3 ?zzhu ?_; (case zzN => k_asm); (case zza => k_mem); (case zzb => k_mem); (case zzsa => assumption); (case zzsb => assumption); (case zzp0 => assumption); (case zzp1 => assumption); (case zzp2 => assumption); (case zzp3 => assumption); (case zzhu => ktr_units)); (try dsimp only); (try k_fold)) | (k_dflt (refine' ne_pair ?zzN ?zza ?zzb ?zze1 ?zze2 ?zzhu ?_; (case zzN => k_asm); (case zza => k_mem); (case zzb => k_mem); (case zze1 => (first | exact pair_a (by assumption) (by assumption) | exact pair_b (by assumption) (by assumption) | exact pair_c (by assumption) (by assumption) (by assumption) | exact pair_d (by assumption) (by assumption) (by assumption))); (case zze2 => (first | exact pair_a (by assumption) (by assumption) | exact pair_b (by assumption) (by assumption) | exact pair_c (by assumption) (by assumption) (by assumption) | exact pair_d (by assumption) (by assumption) (by assumption))); (case zzhu => ktr_units)); (try dsimp only); (try k_fold)))) | ((with_reducible show wpAny _ _ (call (Value.type _) _) _ _ _); (k_here; (with_reducible show wpAny _ _ (call (Value.type _) [Value.ref _]) _ _ _); k_dflt (refine' kup_listOfT ?zzF ?zzN ?zzb ?zze ?_ ?zzz; (case zzF => k_asm); (case zzN => k_asm); (case zzb => k_mem); (case zze => exact List.toList_toArray ..); (case zzz => exact strs_size (by assumption))); intro D' c' h' F' N' l1; (try k_lt l1); (try k_sweep))) | ((with_reducible show wpAny _ _ (call (Value.ref _) _) _ _ _); (k_here; first | (k_dflt (refine' draw_use ?zzk1 ?zzk2 ?zzk3 ?zzk4 ?zzk5 ?zzk6 ?zzkD ?zzkc ?zzk7 ?zzk8 ?zzk9 ?zzk10 ?zzk11 ?zzk12 ?zzk13 ?zzk14 ?zzk15 ?_; (case zzk1 => k_asm); (case zzk2 => k_asm); (case zzk3 => k_asm); (case zzk4 => k_asm); (case zzk5 => k_asm); (case zzk6 => first | exact rfl | assumption); (case zzkD => (first | exact Del.head (by repeat' (first | exact List.forall_mem_nil _ | exact OwnOff.ne (by assumption) (by simp) | refine List.forall_mem_cons.mpr ⟨by k_ne, ?_⟩)) | exact Del.tail (by k_ne) (by first | exact Del.head (by repeat' (first | exact List.forall_mem_nil _ | exact OwnOff.ne (by assumption) (by simp) | refine List.forall_mem_cons.mpr ⟨by k_ne, ?_⟩)) | exact Del.tail (by k_ne) (by first | exact Del.head (by repeat' (first | exact List.forall_mem_nil _ | exact OwnOff.ne (by assumption) (by simp) | refine List.forall_mem_cons.mpr ⟨by k_ne, ?_⟩)) | exact Del.tail (by k_ne) (by first | exact Del.head (by repeat' (first | exact List.forall_mem_nil _ | exact OwnOff.ne (by assumption) (by simp) | refine List.forall_mem_cons.mpr ⟨by k_ne, ?_⟩)) | exact Del.tail (by k_ne) (by first | exact Del.head (by repeat' (first | exact List.forall_mem_nil _ | exact OwnOff.ne (by assumption) (by simp) | refine List.forall_mem_cons.mpr ⟨by k_ne, ?_⟩)) | exact Del.tail (by k_ne) (by first | exact Del.head (by repeat' (first | exact List.forall_mem_nil _ | exact OwnOff.ne (by assumption) (by simp) | refine List.forall_mem_cons.mpr ⟨by k_ne, ?_⟩)) | exact Del.tail (by k_ne) (by first | exact Del.head (by repeat' (first | exact List.forall_mem_nil _ | exact OwnOff.ne (by assumption) (by simp) | refine List.forall_mem_cons.mpr ⟨by k_ne, ?_⟩)) | exact Del.tail (by k_ne) (by first | exact Del.head (by repeat' (first | exact List.forall_mem_nil _ | exact OwnOff.ne (by assumption) (by simp) | refine List.forall_mem_cons.mpr ⟨by k_ne, ?_⟩)) | exact Del.tail (by k_ne) (by first | exact Del.head (by repeat' (first | exact List.forall_mem_nil _ | exact OwnOff.ne (by assumption) (by simp) | refine List.forall_mem_cons.mpr ⟨by k_ne, ?_⟩)) | exact Del.tail (by k_ne) (by exact Del.head (by repeat' (first | exact List.forall_mem_nil _ | exact OwnOff.ne (by assumption) (by simp) | refine List.forall_mem_cons.mpr ⟨by k_ne, ?_⟩))))))))))))); (case zzkc => k_mem); (case zzk7 => omega); (case zzk8 => assumption); (case zzk9 => assumption); (case zzk10 => assumption); (case zzk11 => omega); (case zzk12 => omega); (case zzk13 => decide); (case zzk14 => ktr_room); (case zzk15 => ktr_units); k_whole); intro r9 t9 t8 h9 tk9 n9 r0 r1 F9 N9; (try dsimp only); (try k_fold); (try k_sweep)) | (k_dflt (refine' words_use ?zzk1 ?zzk2 ?zzk3 ?zzk4 ?zzk5 ?zzk6 ?zzk7 ?zzk8 ?zzk9 ?zzk10 ?zzk14 ?zzk15 ?_; (case zzk1 => k_asm); (case zzk2 => k_asm); (case zzk3 => k_asm); (case zzk4 => k_asm); (case zzk5 => k_asm); (case zzk6 => first | exact rfl | assumption); (case zzk7 => assumption); (case zzk8 => assumption); (case zzk9 => assumption); (case zzk10 => assumption); (case zzk14 => ktr_room); (case zzk15 => ktr_units); k_whole); intro vs9 h9 tk9 n9 D9 S9 F9 N9 lo9; (try k_lt lo9); (try dsimp only); (try k_fold); (try k_sweep)) | (k_dflt (refine' lw_use ?zzk1 ?zzk2 ?zzk3 ?zzk4 ?zzk5 ?zzk6 ?zzk7 ?zzk8 ?zzk9 ?zzk10 ?zzk14 ?zzk15 ?_; (case zzk1 => k_asm); (case zzk2 => k_asm); (case zzk3 => k_asm); (case zzk4 => k_asm); (case zzk5 => k_asm); (case zzk6 => first | exact rfl | assumption); (case zzk7 => assumption); (case zzk8 => assumption); (case zzk9 => assumption); (case zzk10 => assumption); (case zzk14 => ktr_room); (case zzk15 => ktr_units); k_whole); intro vs9 h9 tk9 n9 D9 S9 F9 N9 lo9; (try k_lt lo9); (try dsimp only); (try k_fold); (try k_sweep)) | (k_dflt (refine' flag_use ?zzk1 ?zzk2 ?zzk3 ?zzk4 ?zzk5 ?zzk6 ?zzkl ?zzkO ?zzkS ?zzkh ?zzk14 ?zzk15 ?_; (case zzk1 => k_asm); (case zzk2 => k_asm); (case zzk3 => k_asm); (case zzk4 => k_asm); (case zzk5 => k_asm); (case zzk6 => first | exact rfl | assumption); (case zzkl => k_mem); (case zzkO => (first | exact ⟨_, .inl rfl⟩ | exact ⟨_, .inr rfl⟩)); (case zzkS => first | assumption | exact strs_rev (by assumption)); (case zzkh => first | assumption | exact ok_of_txt (by assumption)); (case zzk14 => ktr_room); (case zzk15 => ktr_units); k_whole); intro v1 v2 t9 t8 h9 tk9 n9 D9 e9 F9 N9 lo9; (try k_lt lo9); (try dsimp only); (try k_fold); (try k_sweep)) | (k_dflt (refine' read_use ?zzk1 ?zzk2 ?zzk3 ?zzk4 ?zzk5 ?zzk6 ?zzkl ?zzkh ?zzk14 ?zzk15 ?_; (case zzk1 => k_asm); (case zzk2 => k_asm); (case zzk3 => k_asm); (case zzk4 => k_asm); (case zzk5 => k_asm); (case zzk6 => first | exact rfl | assumption); (case zzkl => k_mem); (case zzkh => assumption); (case zzk14 => ktr_room); (case zzk15 => ktr_units); k_whole); intro v1 v2 t9 t8 h9 tk9 n9 D9 e9 F9 N9 lo9; (try k_lt lo9); (try dsimp only); (try k_fold); (try k_sweep)))) | walk1 | (dsimp only; walk1) | (leave1; (try dsimp only)) | fail "no step")
      exact hQ9 _ _ ⟨rfl, at_intro ⟨_, _, _⟩ (by assumption) (by assumption) (by kst_inAny) (by kst_all) (by assumption)⟩
    rintro ⟨ra, oD, rn⟩ u12 h12 tk12 F12 N12 hO'
    clear F11 N11 hO
    dsimp only at F12 N12 hO' ⊢
    refine cut (σ := Addr × List Value × List Int × Nat) F12 (fun c => (c.1, listOf c.2.1.toArray c.2.2.2) :: (ra, tupO (cs.map CE.ref).toArray rn) :: (ea, listOf es.toArray en) :: (d, oD) :: (x, instObj 144 dx) :: (dx, gDict w0 a1 a2 a3 a4 d t1 t2 t3 t4 t5) :: (l, listOf (cs.map CE.ref).toArray nl) :: (s1.heap.objs.size + 1 + 1, oW) :: (s1.heap.objs.size + 1 + 1 + 1, oP) :: rest) (fun c => [(Str.ofString "carets", Value.ref l), (Str.ofString "gdef", Value.ref x), (Str.ofString "even", Value.ref ea), (Str.ofString "stops", Value.ref c.1)]) (fun c => IntsAre c.2.1 c.2.2.1 ∧ c.2.2.1.Perm (cs.map CE.z) ∧ c.2.2.1.Pairwise (· ≤ ·)) ?_ ?_
    · intro E9
      refine gen_Q fun Q9 hQ9 => ?_
      repeat' (first | (k_unfold; (try dsimp only)) | ((with_reducible show wpAny _ _ (call (Value.builtin "len") _) _ _ _); (k_here; (with_reducible show wpAny _ _ (call (Value.builtin "len") [Value.ref _]) _ _ _); k_dflt (refine' len_kl ?zzj1 ?zzj2 ?zzj3 ?_; (case zzj1 => k_asm); (case zzj2 => k_mem); (case zzj3 => assumption)); k_whole)) | ((with_reducible show wpAny _ _ (call (Value.type _) _) _ _ _); (k_here; (with_reducible show wpAny _ _ (call (Value.type _) [Value.ref _]) _ _ _); k_dflt (refine' kde_tupleOf ?zzk1 ?zzk2 ?zzk3 ?zzk4 ?zzk5 ?_; (case zzk1 => k_asm); (case zzk2 => k_asm); (case zzk3 => exact News.isList (by k_asm) (by k_mem)); (case zzk4 => (rw [List.size_toArray, List.length_map]; exact Nat.le_trans (by assumption : _ ≤ 3) (by decide))); (case zzk5 => exact List.toList_toArray ..); k_whole); intro D' h' F' N' l1; (try k_lt l1); (try k_sweep))) | ((with_reducible show wpAny _ _ (call (Value.ref _) _) _ _ _); (k_here; (k_dflt (refine' gdef_use ?zzk1 ?zzk2 ?zzk3 ?zzk4 ?zzk5 ?zzk6 ?zzk14 ?zzk15 ?_; (case zzk1 => k_asm); (case zzk2 => k_asm); (case zzk3 => k_asm); (case zzk4 => k_asm); (case zzk5 => k_asm); (case zzk6 => first | exact rfl | assumption); (case zzk14 => ktr_room); (case zzk15 => ktr_units); k_whole)); intro x9 dx9 d9 a1 a2 a3 a4 o9 t1 t2 t3 t4 t5 h9 tk9 F9 N9 lo9 lx9 ld9 ds9 i9; (try dsimp only); (try k_fold); (try k_sweep))) | ((with_reducible show wpAny _ _ (compareOp .NotEq (Value.ref _) (Value.ref _)) _ _ _); (k_here; first | (k_dflt (refine' ne_words ?zzN ?zza ?zzb ?zzsa ?zzsb ?zzp0 ?zzp1 ?zzp2 ?zzp3 ?zzhu ?_; (case zzN => k_asm); (case zza => k_mem); (case zzb => k_mem); (case zzsa => assumption); (case zzsb => assumption); (case zzp0 => assumption); (case zzp1 => assumption); (case zzp2 => assumption); (case zzp3 => assumption); (case zzhu => ktr_units)); (try dsimp only); (try k_fold)) | (k_dflt (refine' ne_pair ?zzN ?zza ?zzb ?zze1 ?zze2 ?zzhu ?_; (case zzN => k_asm); (case zza => k_mem); (case zzb => k_mem); (case zze1 => (first | exact pair_a (by assumption) (by assumption) | exact pair_b (by assumption) (by assumption) | exact pair_c (by assumption) (by assumption) (by assumption) | exact pair_d (by assumption) (by assumption) (by assumption))); (case zze2 => (first | exact pair_a (by assumption) (by assumption) | exact pair_b (by assumption) (by assumption) | exact pair_c (by assumption) (by assumption) (by assumption) | exact pair_d (by assumption) (by assumption) (by assumption))); (case zzhu => ktr_units)); (try dsimp only); (try k_fold)))) | ((with_reducible show wpAny _ _ (call (Value.type _) _) _ _ _); (k_here; (with_reducible show wpAny _ _ (call (Value.type _) [Value.ref _]) _ _ _); k_dflt (refine' kup_listOfT ?zzF ?zzN ?zzb ?zze ?_ ?zzz; (case zzF => k_asm); (case zzN => k_asm); (case zzb => k_mem); (case zze => exact List.toList_toArray ..); (case zzz => exact strs_size (by assumption))); intro D' c' h' F' N' l1; (try k_lt l1); (try k_sweep))) | ((with_reducible show wpAny _ _ (call (Value.ref _) _) _ _ _); (k_here; first | (k_dflt (refine' draw_use ?zzk1 ?zzk2 ?zzk3 ?zzk4 ?zzk5 ?zzk6 ?zzkD ?zzkc ?zzk7 ?zzk8 ?zzk9 ?zzk10 ?zzk11 ?zzk12 ?zzk13 ?zzk14 ?zzk15 ?_; (case zzk1 => k_asm); (case zzk2 => k_asm); (case zzk3 => k_asm); (case zzk4 => k_asm); (case zzk5 => k_asm); (case zzk6 => first | exact rfl | assumption); (case zzkD => (first | exact Del.head (by repeat' (first | exact List.forall_mem_nil _ | exact OwnOff.ne (by assumption) (by simp) | refine List.forall_mem_cons.mpr ⟨by k_ne, ?_⟩)) | exact Del.tail (by k_ne) (by first | exact Del.head (by repeat' (first | exact List.forall_mem_nil _ | exact OwnOff.ne (by assumption) (by simp) | refine List.forall_mem_cons.mpr ⟨by k_ne, ?_⟩)) | exact Del.tail (by k_ne) (by first | exact Del.head (by repeat' (first | exact List.forall_mem_nil _ | exact OwnOff.ne (by assumption) (by simp) | refine List.forall_mem_cons.mpr ⟨by k_ne, ?_⟩)) | exact Del.tail (by k_ne) (by first | exact Del.head (by repeat' (first | exact List.forall_mem_nil _ | exact OwnOff.ne (by assumption) (by simp) | refine List.forall_mem_cons.mpr ⟨by k_ne, ?_⟩)) | exact Del.tail (by k_ne) (by first | exact Del.head (by repeat' (first | exact List.forall_mem_nil _ | exact OwnOff.ne (by assumption) (by simp) | refine List.forall_mem_cons.mpr ⟨by k_ne, ?_⟩)) | exact Del.tail (by k_ne) (by first | exact Del.head (by repeat' (first | exact List.forall_mem_nil _ | exact OwnOff.ne (by assumption) (by simp) | refine List.forall_mem_cons.mpr ⟨by k_ne, ?_⟩)) | exact Del.tail (by k_ne) (by first | exact Del.head (by repeat' (first | exact List.forall_mem_nil _ | exact OwnOff.ne (by assumption) (by simp) | refine List.forall_mem_cons.mpr ⟨by k_ne, ?_⟩)) | exact Del.tail (by k_ne) (by first | exact Del.head (by repeat' (first | exact List.forall_mem_nil _ | exact OwnOff.ne (by assumption) (by simp) | refine List.forall_mem_cons.mpr ⟨by k_ne, ?_⟩)) | exact Del.tail (by k_ne) (by first | exact Del.head (by repeat' (first | exact List.forall_mem_nil _ | exact OwnOff.ne (by assumption) (by simp) | refine List.forall_mem_cons.mpr ⟨by k_ne, ?_⟩)) | exact Del.tail (by k_ne) (by exact Del.head (by repeat' (first | exact List.forall_mem_nil _ | exact OwnOff.ne (by assumption) (by simp) | refine List.forall_mem_cons.mpr ⟨by k_ne, ?_⟩))))))))))))); (case zzkc => k_mem); (case zzk7 => omega); (case zzk8 => assumption); (case zzk9 => assumption); (case zzk10 => assumption); (case zzk11 => omega); (case zzk12 => omega); (case zzk13 => decide); (case zzk14 => ktr_room); (case zzk15 => ktr_units); k_whole); intro r9 t9 t8 h9 tk9 n9 r0 r1 F9 N9; (try dsimp only); (try k_fold); (try k_sweep)) | (k_dflt (refine' words_use ?zzk1 ?zzk2 ?zzk3 ?zzk4 ?zzk5 ?zzk6 ?zzk7 ?zzk8 ?zzk9 ?zzk10 ?zzk14 ?zzk15 ?_; (case zzk1 => k_asm); (case zzk2 => k_asm); (case zzk3 => k_asm); (case zzk4 => k_asm); (case zzk5 => k_asm); (case zzk6 => first | exact rfl | assumption); (case zzk7 => assumption); (case zzk8 => assumption); (case zzk9 => assumption); (case zzk10 => assumption); (case zzk14 => ktr_room); (case zzk15 => ktr_units); k_whole); intro vs9 h9 tk9 n9 D9 S9 F9 N9 lo9; (try k_lt lo9); (try dsimp only); (try k_fold); (try k_sweep)) | (k_dflt (refine' lw_use ?zzk1 ?zzk2 ?zzk3 ?zzk4 ?zzk5 ?zzk6 ?zzk7 ?zzk8 ?zzk9 ?zzk10 ?zzk14 ?zzk15 ?_; (case zzk1 => k_asm); (case zzk2 => k_asm); (case zzk3 => k_asm); (case zzk4 => k_asm); (case zzk5 => k_asm); (case zzk6 => first | exact rfl | assumption); (case zzk7 => assumption); (case zzk8 => assumption); (case zzk9 => assumption); (case zzk10 => assumption); (case zzk14 => ktr_room); (case zzk15 => ktr_units); k_whole); intro vs9 h9 tk9 n9 D9 S9 F9 N9 lo9; (try k_lt lo9); (try dsimp only); (try k_fold); (try k_sweep)) | (k_dflt (refine' flag_use ?zzk1 ?zzk2 ?zzk3 ?zzk4 ?zzk5 ?zzk6 ?zzkl ?zzkO ?zzkS ?zzkh ?zzk14 ?zzk15 ?_; (case zzk1 => k_asm); (case zzk2 => k_asm); (case zzk3 => k_asm); (case zzk4 => k_asm); (case zzk5 => k_asm); (case zzk6 => first | exact rfl | assumption); (case zzkl => k_mem); (case zzkO => (first | exact ⟨_, .inl rfl⟩ | exact ⟨_, .inr rfl⟩)); (case zzkS => first | assumption | exact strs_rev (by assumption)); (case zzkh => first | assumption | exact ok_of_txt (by assumption)); (case zzk14 => ktr_room); (case zzk15 => ktr_units); k_whole); intro v1 v2 t9 t8 h9 tk9 n9 D9 e9 F9 N9 lo9; (try k_lt lo9); (try dsimp only); (try k_fold); (try k_sweep)) | (k_dflt (refine' read_use ?zzk1 ?zzk2 ?zzk3 ?zzk4 ?zzk5 ?zzk6 ?zzkl ?zzkh ?zzk14 ?zzk15 ?_; (case zzk1 => k_asm); (case zzk2 => k_asm); (case zzk3 => k_asm); (case zzk4 => k_asm); (case zzk5 => k_asm); (case zzk6 => first | exact rfl | assumption); (case zzkl => k_mem); (case zzkh => assumption); (case zzk14 => ktr_room); (case zzk15 => ktr_units); k_whole); intro v1 v2 t9 t8 h9 tk9 n9 D9 e9 F9 N9 lo9; (try k_lt lo9); (try dsimp only); (try k_fold); (try k_sweep)))) | ((fail_if_success (with_reducible show wpAny _ _ (eval (PySem.Expr.ListComp _ _ _ _) _) _ _ _)); (first | walk1 | (dsimp only; walk1) | (leave1; (try dsimp only)))) | fail "no step")
      k_dflt (refine LCg.ListComp_U (F₀ := by k_asm) (by rfl) (by decide) (by rfl) (by decide) (by rfl) ?_)
      repeat' (first | (k_unfold; (try dsimp only)) | ((with_reducible show wpAny _ _ (call (Value.builtin "len") _) _ _ _); (k_here; (with_reducible show wpAny _ _ (call (Value.builtin "len") [Value.ref _]) _ _ _); k_dflt (refine' len_kl ?zzj1 ?zzj2 ?zzj3 ?_; (case zzj1 => k_asm); (case zzj2 => k_mem); (case zzj3 => assumption)); k_whole)) | ((with_reducible show wpAny _ _ (call (Value.type _) _) _ _ _); (k_here; (with_reducible show wpAny _ _ (call (Value.type _) [Value.ref _]) _ _ _); k_dflt (refine' kde_tupleOf ?zzk1 ?zzk2 ?zzk3 ?zzk4 ?zzk5 ?_; (case zzk1 => k_asm); (case zzk2 => k_asm); (case zzk3 => exact News.isList (by k_asm) (by k_mem)); (case zzk4 => (rw [List.size_toArray, List.length_map]; exact Nat.le_trans (by assumption : _ ≤ 3) (by decide))); (case zzk5 => exact List.toList_toArray ..); k_whole); intro D' h' F' N' l1; (try k_lt l1); (try k_sweep))) | ((with_reducible show wpAny _ _ (call (Value.ref _) _) _ _ _); (k_here; (k_dflt (refine' gdef_use ?zzk1 ?zzk2 ?zzk3 ?zzk4 ?zzk5 ?zzk6 ?zzk14 ?zzk15 ?_; (case zzk1 => k_asm); (case zzk2 => k_asm); (case zzk3 => k_asm); (case zzk4 => k_asm); (case zzk5 => k_asm); (case zzk6 => first | exact rfl | assumption); (case zzk14 => ktr_room); (case zzk15 => ktr_units); k_whole)); intro x9 dx9 d9 a1 a2 a3 a4 o9 t1 t2 t3 t4 t5 h9 tk9 F9 N9 lo9 lx9 ld9 ds9 i9; (try dsimp only); (try k_fold); (try k_sweep))) | ((with_reducible show wpAny _ _ (compareOp .NotEq (Value.ref _) (Value.ref _)) _ _ _); (k_here; first | (k_dflt (refine' ne_words ?zzN ?zza ?zzb ?zzsa ?zzsb ?zzp0 ?zzp1 ?zzp2 ?zzp3 ?zzhu ?_; (case zzN => k_asm); (case zza => k_mem); (case zzb => k_mem); (case zzsa => assumption); (case zzsb => assumption); (case zzp0 => assumption); (case zzp1 => assumption); (case zzp2 => assumption); (case zzp3 => assumption); (case zzhu => ktr_units)); (try dsimp only); (try k_fold)) | (k_dflt (refine' ne_pair ?zzN ?zza ?zzb ?zze1 ?zze2 ?zzhu ?_; (case zzN => k_asm); (case zza => k_mem); (case zzb => k_mem); (case zze1 => (first | exact pair_a (by assumption) (by assumption) | exact pair_b (by assumption) (by assumption) | exact pair_c (by assumption) (by assumption) (by assumption) | exact pair_d (by assumption) (by assumption) (by assumption))); (case zze2 => (first | exact pair_a (by assumption) (by assumption) | exact pair_b (by assumption) (by assumption) | exact pair_c (by assumption) (by assumption) (by assumption) | exact pair_d (by assumption) (by assumption) (by assumption))); (case zzhu => ktr_units)); (try dsimp only); (try k_fold)))) | ((with_reducible show wpAny _ _ (call (Value.type _) _) _ _ _); (k_here; (with_reducible show wpAny _ _ (call (Value.type _) [Value.ref _]) _ _ _); k_dflt (refine' kup_listOfT ?zzF ?zzN ?zzb ?zze ?_ ?zzz; (case zzF => k_asm); (case zzN => k_asm); (case zzb => k_mem); (case zze => exact List.toList_toArray ..); (case zzz => exact strs_size (by assumption))); intro D' c' h' F' N' l1; (try k_lt l1); (try k_sweep))) | ((with_reducible show wpAny _ _ (call (Value.ref _) _) _ _ _); (k_here; first | (k_dflt (refine' draw_use ?zzk1 ?zzk2 ?zzk3 ?zzk4 ?zzk5 ?zzk6 ?zzkD ?zzkc ?zzk7 ?zzk8 ?zzk9 ?zzk10 ?zzk11 ?zzk12 ?zzk13 ?zzk14 ?zzk15 ?_; (case zzk1 => k_asm); (case zzk2 => k_asm); (case zzk3 => k_asm); (case zzk4 => k_asm); (case zzk5 => k_asm); (case zzk6 => first | exact rfl | assumption); (case zzkD => (first | exact Del.head (by repeat' (first | exact List.forall_mem_nil _ | exact OwnOff.ne (by assumption) (by simp) | refine List.forall_mem_cons.mpr ⟨by k_ne, ?_⟩)) | exact Del.tail (by k_ne) (by first | exact Del.head (by repeat' (first | exact List.forall_mem_nil _ | exact OwnOff.ne (by assumption) (by simp) | refine List.forall_mem_cons.mpr ⟨by k_ne, ?_⟩)) | exact Del.tail (by k_ne) (by first | exact Del.head (by repeat' (first | exact List.forall_mem_nil _ | exact OwnOff.ne (by assumption) (by simp) | refine List.forall_mem_cons.mpr ⟨by k_ne, ?_⟩)) | exact Del.tail (by k_ne) (by first | exact Del.head (by repeat' (first | exact List.forall_mem_nil _ | exact OwnOff.ne (by assumption) (by simp) | refine List.forall_mem_cons.mpr ⟨by k_ne, ?_⟩)) | exact Del.tail (by k_ne) (by first | exact Del.head (by repeat' (first | exact List.forall_mem_nil _ | exact OwnOff.ne (by assumption) (by simp) | refine List.forall_mem_cons.mpr ⟨by k_ne, ?_⟩)) | exact Del.tail (by k_ne) (by first | exact Del.head (by repeat' (first | exact List.forall_mem_nil _ | exact OwnOff.ne (by assumption) (by simp) | refine List.forall_mem_cons.mpr ⟨by k_ne, ?_⟩)) | exact Del.tail (by k_ne) (by first | exact Del.head (by repeat' (first | exact List.forall_mem_nil _ | exact OwnOff.ne (by assumption) (by simp) | refine List.forall_mem_cons.mpr ⟨by k_ne, ?_⟩)) | exact Del.tail (by k_ne) (by first | exact Del.head (by repeat' (first | exact List.forall_mem_nil _ | exact OwnOff.ne (by assumption) (by simp) | refine List.forall_mem_cons.mpr ⟨by k_ne, ?_⟩)) | exact Del.tail (by k_ne) (by first | exact Del.head (by repeat' (first | exact List.forall_mem_nil _ | exact OwnOff.ne (by assumption) (by simp) | refine List.forall_mem_cons.mpr ⟨by k_ne, ?_⟩)) | exact Del.tail (by k_ne) (by exact Del.head (by repeat' (first | exact List.forall_mem_nil _ | exact OwnOff.ne (by assumption) (by simp) | refine List.forall_mem_cons.mpr ⟨by k_ne, ?_⟩))))))))))))); (case zzkc => k_mem); (case zzk7 => omega); (case zzk8 => assumption); (case zzk9 => assumption); (case zzk10 => assumption); (case zzk11 => omega); (case zzk12 => omega); (case zzk13 => decide); (case zzk14 => ktr_room); (case zzk15 => ktr_units); k_whole); intro r9 t9 t8 h9 tk9 n9 r0 r1 F9 N9; (try dsimp only); (try k_fold); (try k_sweep)) | (k_dflt (refine' words_use ?zzk1 ?zzk2 ?zzk3 ?zzk4 ?zzk5 ?zzk6 ?zzk7 ?zzk8 ?zzk9 ?zzk10 ?zzk14 ?zzk15 ?_; (case zzk1 => k_asm); (case zzk2 => k_asm); (case zzk3 => k_asm); (case zzk4 => k_asm); (case zzk5 => k_asm); (case zzk6 => first | exact rfl | assumption); (case zzk7 => assumption); (case zzk8 => assumption); (case zzk9 => assumption); (case zzk10 => assumption); (case zzk14 => ktr_room); (case zzk15 => ktr_units); k_whole); intro vs9 h9 tk9 n9 D9 S9 F9 N9 lo9; (try k_lt lo9); (try dsimp only); (try k_fold); (try k_sweep)) | (k_dflt (refine' lw_use ?zzk1 ?zzk2 ?zzk3 ?zzk4 ?zzk5 ?zzk6 ?zzk7 ?zzk8 ?zzk9 ?zzk10 ?zzk14 ?zzk15 ?_; (case zzk1 => k_asm); (case zzk2 => k_asm); (case zzk3 => k_asm); (case zzk4 => k_asm); (case zzk5 => k_asm); (case zzk6 => first | exact rfl | assumption); (case zzk7 => assumption); (case zzk8 => assumption); (case zzk9 => assumption); (case zzk10 => assumption); (case zzk14 => ktr_room); (case zzk15 => ktr_units); k_whole); intro vs9 h9 tk9 n9 D9 S9 F9 N9 lo9; (try k_lt lo9); (try dsimp only); (try k_fold); (try k_sweep)) | (k_dflt (refine' flag_use ?zzk1 ?zzk2 ?zzk3 ?zzk4 ?zzk5 ?zzk6 ?zzkl ?zzkO ?zzkS ?zzkh ?zzk14 ?zzk15 ?_; (case zzk1 => k_asm); (case zzk2 => k_asm); (case zzk3 => k_asm); (case zzk4 => k_asm); (case zzk5 => k_asm); (case zzk6 => first | exact rfl | assumption); (case zzkl => k_mem); (case zzkO => (first | exact ⟨_, .inl rfl⟩ | exact ⟨_, .inr rfl⟩)); (case zzkS => first | assumption | exact strs_rev (by assumption)); (case zzkh => first | assumption | exact ok_of_txt (by assumption)); (case zzk14 => ktr_room); (case zzk15 => ktr_units); k_whole); intro v1 v2 t9 t8 h9 tk9 n9 D9 e9 F9 N9 lo9; (try k_lt lo9); (try dsimp only); (try k_fold); (try k_sweep)) | (k_dflt (refine' read_use ?zzk1 ?zzk2 ?zzk3 ?zzk4 ?zzk5 ?zzk6 ?zzkl ?zzkh ?zzk14 ?zzk15 ?_; (case zzk1 => k_asm); (case zzk2 => k_asm); (case zzk3 => k_asm); (case zzk4 => k_asm); (case zzk5 => k_asm); (case zzk6 => first | exact rfl | assumption); (case zzkl => k_mem); (case zzkh => assumption); (case zzk14 => ktr_room); (case zzk15 => ktr_units); k_whole); intro v1 v2 t9 t8 h9 tk9 n9 D9 e9 F9 N9 lo9; (try k_lt lo9); (try dsimp only); (try k_fold); (try k_sweep)))) | ((fail_if_success (with_reducible show LCg.CompSrc _ _ _ _ _ _ _ _ _ _ _ _ _ _)); (first | walk1 | (dsimp only; walk1) | (leave1; (try dsimp only)))) | fail "no step")
      with_unfolding_all refine LCg.CompSrc.ledger (its := (cs.map CE.ref).toArray) (k := nl) (by rfl) (by assumption) N12 (by k_mem) (by rw [List.size_toArray, List.length_map]; exact le3_size hc3) ?_
      intro g
      with_unfolding_all refine rest_st (σ := List Value) (fun _ => (ra, tupO (cs.map CE.ref).toArray rn) :: (ea, listOf es.toArray en) :: (d, oD) :: (x, instObj 144 dx) :: (dx, gDict w0 a1 a2 a3 a4 d t1 t2 t3 t4 t5) :: (l, listOf (cs.map CE.ref).toArray nl) :: (s1.heap.objs.size + 1 + 1, oW) :: (s1.heap.objs.size + 1 + 1 + 1, oP) :: rest) (fun c => c) (fun i c => IntsAre c ((cs.take i).map CE.z)) (cs.map CE.ref).toArray.size ?turn ?fin (cs.map CE.ref).toArray.size 0 [] (Nat.zero_add _) .nil
      case turn =>
        rintro i ys v I oI C oC D m₂ h tk E' hi hv hok hC hx F N off hne
        (try dsimp only at F N off hok hv hi)
        obtain ⟨e, he, rfl, hem⟩ := ks_get hv
        have hent := hcm e hem
        have hee : e.ent ∈ (I, oI) :: (C, oC) :: (D, LCg.lst ys) :: (ra, tupO (cs.map CE.ref).toArray rn) :: (ea, listOf es.toArray en) :: (d, oD) :: (x, instObj 144 dx) :: (dx, gDict w0 a1 a2 a3 a4 d t1 t2 t3 t4 t5) :: (l, listOf (cs.map CE.ref).toArray nl) :: (s1.heap.objs.size + 1 + 1, oW) :: (s1.heap.objs.size + 1 + 1 + 1, oP) :: rest :=
          .tail _ (.tail _ (.tail _ (.tail _ (.tail _ (.tail _ (.tail _ (.tail _ (.tail _ (.tail _ (.tail _ hent))))))))))
        clear hv
        refine gen_Q fun Q8 hQ8 => ?_
        repeat' (first | (k_unfold; (try dsimp only)) | ((with_reducible show wpAny _ _ (call (Value.builtin "len") _) _ _ _); (k_here; (with_reducible show wpAny _ _ (call (Value.builtin "len") [Value.ref _]) _ _ _); k_dflt (refine' len_kl ?zzj1 ?zzj2 ?zzj3 ?_; (case zzj1 => k_asm); (case zzj2 => k_mem); (case zzj3 => assumption)); k_whole)) | ((with_reducible show wpAny _ _ (call (Value.type _) _) _ _ _); (k_here; (with_reducible show wpAny _ _ (call (Value.type _) [Value.ref _]) _ _ _); k_dflt (refine' kde_tupleOf ?zzk1 ?zzk2 ?zzk3 ?zzk4 ?zzk5 ?_; (case zzk1 => k_asm); (case zzk2 => k_asm); (case zzk3 => exact News.isList (by k_asm) (by k_mem)); (case zzk4 => (rw [List.size_toArray, List.length_map]; exact Nat.le_trans (by assumption : _ ≤ 3) (by decide))); (case zzk5 => exact List.toList_toArray ..); k_whole); intro D' h' F' N' l1; (try k_lt l1); (try k_sweep))) | ((with_reducible show wpAny _ _ (call (Value.ref _) _) _ _ _); (k_here; (k_dflt (refine' gdef_use ?zzk1 ?zzk2 ?zzk3 ?zzk4 ?zzk5 ?zzk6 ?zzk14 ?zzk15 ?_; (case zzk1 => k_asm); (case zzk2 => k_asm); (case zzk3 => k_asm); (case zzk4 => k_asm); (case zzk5 => k_asm); (case zzk6 => first | exact rfl | assumption); (case zzk14 => ktr_room); (case zzk15 => ktr_units); k_whole)); intro x9 dx9 d9 a1 a2 a3 a4 o9 t1 t2 t3 t4 t5 h9 tk9 F9 N9 lo9 lx9 ld9 ds9 i9; (try dsimp only); (try k_fold); (try k_sweep))) | ((with_reducible show wpAny _ _ (compareOp .NotEq (Value.ref _) (Value.ref _)) _ _ _); (k_here; first | (k_dflt (refine' ne_words ?zzN ?zza ?zzb ?zzsa ?zzsb ?zzp0 ?zzp1 ?zzp2 ?zzp3 ?zzhu ?_; (case zzN => k_asm); (case zza => k_mem); (case zzb => k_mem); (case zzsa => assumption); (case zzsb => assumption); (case zzp0 => assumption); (case zzp1 => assumption); (case zzp2 => assumption); (case zzp3 => assumption); (case zzhu => ktr_units)); (try dsimp only); (try k_fold)) | (k_dflt (refine' ne_pair ?zzN ?zza ?zzb ?zze1 ?zze2 ?zzhu ?_; (case zzN => k_asm); (case zza => k_mem); (case zzb => k_mem); (case zze1 => (first | exact pair_a (by assumption) (by assumption) | exact pair_b (by assumption) (by assumption) | exact pair_c (by assumption) (by assumption) (by assumption) | exact pair_d (by assumption) (by assumption) (by assumption))); (case zze2 => (first | exact pair_a (by assumption) (by assumption) | exact pair_b (by assumption) (by assumption) | exact pair_c (by assumption) (by assumption) (by assumption) | exact pair_d (by assumption) (by assumption) (by assumption))); (case zzhu => ktr_units)); (try dsimp only); (try k_fold)))) | ((with_reducible show wpAny _ _ (call (Value.type _) _) _ _ _); (k_here; (with_reducible show wpAny _ _ (call (Value.type _) [Value.ref _]) _ _ _); k_dflt (refine' kup_listOfT ?zzF ?zzN ?zzb ?zze ?_ ?zzz; (case zzF => k_asm); (case zzN => k_asm); (case zzb => k_mem); (case zze => exact List.toList_toArray ..); (case zzz => exact strs_size (by assumption))); intro D' c' h' F' N' l1; (try k_lt l1); (try k_sweep))) | ((with_reducible show wpAny _ _ (call (Value.ref _) _) _ _ _); (k_here; first | (k_dflt (refine' draw_use ?zzk1 ?zzk2 ?zzk3 ?zzk4 ?zzk5 ?zzk6 ?zzkD ?zzkc ?zzk7 ?zzk8 ?zzk9 ?zzk10 ?zzk11 ?zzk12 ?zzk13 ?zzk14 ?zzk15 ?_; (case zzk1 => k_asm); (case zzk2 => k_asm); (case zzk3 => k_asm); (case zzk4 => k_asm); (case zzk5 => k_asm); (case zzk6 => first | exact rfl | assumption); (case zzkD => (first | exact Del.head (by repeat' (first | exact List.forall_mem_nil _ | exact OwnOff.ne (by assumption) (by simp) | refine List.forall_mem_cons.mpr ⟨by k_ne, ?_⟩)) | exact Del.tail (by k_ne) (by first | exact Del.head (by repeat' (first | exact List.forall_mem_nil _ | exact OwnOff.ne (by assumption) (by simp) | refine List.forall_mem_cons.mpr ⟨by k_ne, ?_⟩)) | exact Del.tail (by k_ne) (by first | exact Del.head (by repeat' (first | exact List.forall_mem_nil _ | exact OwnOff.ne (by assumption) (by simp) | refine List.forall_mem_cons.mpr ⟨by k_ne, ?_⟩)) | exact Del.tail (by k_ne) (by first | exact Del.head (by repeat' (first | exact List.forall_mem_nil _ | exact OwnOff.ne (by assumption) (by simp) | refine List.forall_mem_cons.mpr ⟨by k_ne, ?_⟩)) | exact Del.tail (by k_ne) (by first | exact Del.head (by repeat' (first | exact List.forall_mem_nil _ | exact OwnOff.ne (by assumption) (by simp) | refine List.forall_mem_cons.mpr ⟨by k_ne, ?_⟩)) | exact Del.tail (by k_ne) (by first | exact Del.head (by repeat' (first | exact List.forall_mem_nil _ | exact OwnOff.ne (by assumption) (by simp) | refine List.forall_mem_cons.mpr ⟨by k_ne, ?_⟩)) | exact Del.tail (by k_ne) (by first | exact Del.head (by repeat' (first | exact List.forall_mem_nil _ | exact OwnOff.ne (by assumption) (by simp) | refine List.forall_mem_cons.mpr ⟨by k_ne, ?_⟩)) | exact Del.tail (by k_ne) (by first | exact Del.head (by repeat' (first | exact List.forall_mem_nil _ | exact OwnOff.ne (by assumption) (by simp) | refine List.forall_mem_cons.mpr ⟨by k_ne, ?_⟩)) | exact Del.tail (by k_ne) (by first | exact Del.head (by repeat' (first | exact List.forall_mem_nil _ | exact OwnOff.ne (by assumption) (by simp) | refine List.forall_mem_cons.mpr ⟨by k_ne, ?_⟩)) | exact Del.tail (by k_ne) (by exact Del.head (by repeat' (first | exact List.forall_mem_nil _ | exact OwnOff.ne (by assumption) (by simp) | refine List.forall_mem_cons.mpr ⟨by k_ne, ?_⟩))))))))))))); (case zzkc => k_mem); (case zzk7 => omega); (case zzk8 => assumption); (case zzk9 => assumption); (case zzk10 => assumption); (case zzk11 => omega); (case zzk12 => omega); (case zzk13 => decide); (case zzk14 => ktr_room); (case zzk15 => ktr_units); k_whole); intro r9 t9 t8 h9 tk9 n9 r0 r1 F9 N9; (try dsimp only); (try k_fold); (try k_sweep)) | (k_dflt (refine' words_use ?zzk1 ?zzk2 ?zzk3 ?zzk4 ?zzk5 ?zzk6 ?zzk7 ?zzk8 ?zzk9 ?zzk10 ?zzk14 ?zzk15 ?_; (case zzk1 => k_asm); (case zzk2 => k_asm); (case zzk3 => k_asm); (case zzk4 => k_asm); (case zzk5 => k_asm); (case zzk6 => first | exact rfl | assumption); (case zzk7 => assumption); (case zzk8 => assumption); (case zzk9 => assumption); (case zzk10 => assumption); (case zzk14 => ktr_room); (case zzk15 => ktr_units); k_whole); intro vs9 h9 tk9 n9 D9 S9 F9 N9 lo9; (try k_lt lo9); (try dsimp only); (try k_fold); (try k_sweep)) | (k_dflt (refine' lw_use ?zzk1 ?zzk2 ?zzk3 ?zzk4 ?zzk5 ?zzk6 ?zzk7 ?zzk8 ?zzk9 ?zzk10 ?zzk14 ?zzk15 ?_; (case zzk1 => k_asm); (case zzk2 => k_asm); (case zzk3 => k_asm); (case zzk4 => k_asm); (case zzk5 => k_asm); (case zzk6 => first | exact rfl | assumption); (case zzk7 => assumption); (case zzk8 => assumption); (case zzk9 => assumption); (case zzk10 => assumption); (case zzk14 => ktr_room); (case zzk15 => ktr_units); k_whole); intro vs9 h9 tk9 n9 D9 S9 F9 N9 lo9; (try k_lt lo9); (try dsimp only); (try k_fold); (try k_sweep)) | (k_dflt (refine' flag_use ?zzk1 ?zzk2 ?zzk3 ?zzk4 ?zzk5 ?zzk6 ?zzkl ?zzkO ?zzkS ?zzkh ?zzk14 ?zzk15 ?_; (case zzk1 => k_asm); (case zzk2 => k_asm); (case zzk3 => k_asm); (case zzk4 => k_asm); (case zzk5 => k_asm); (case zzk6 => first | exact rfl | assumption); (case zzkl => k_mem); (case zzkO => (first | exact ⟨_, .inl rfl⟩ | exact ⟨_, .inr rfl⟩)); (case zzkS => first | assumption | exact strs_rev (by assumption)); (case zzkh => first | assumption | exact ok_of_txt (by assumption)); (case zzk14 => ktr_room); (case zzk15 => ktr_units); k_whole); intro v1 v2 t9 t8 h9 tk9 n9 D9 e9 F9 N9 lo9; (try k_lt lo9); (try dsimp only); (try k_fold); (try k_sweep)) | (k_dflt (refine' read_use ?zzk1 ?zzk2 ?zzk3 ?zzk4 ?zzk5 ?zzk6 ?zzkl ?zzkh ?zzk14 ?zzk15 ?_; (case zzk1 => k_asm); (case zzk2 => k_asm); (case zzk3 => k_asm); (case zzk4 => k_asm); (case zzk5 => k_asm); (case zzk6 => first | exact rfl | assumption); (case zzkl => k_mem); (case zzkh => assumption); (case zzk14 => ktr_room); (case zzk15 => ktr_units); k_whole); intro v1 v2 t9 t8 h9 tk9 n9 D9 e9 F9 N9 lo9; (try k_lt lo9); (try dsimp only); (try k_fold); (try k_sweep)))) | ((fail_if_success (with_reducible show wpAny _ _ (subscriptTail _ _ _ _) _ _ _)); (first | walk1 | (dsimp only; walk1) | (leave1; (try dsimp only)))) | fail "no step")
        k_dflt (refine' ent_one ?j1 ?j2 ?_ ?j5; (case j1 => k_asm); (case j2 => exact hee); (case j5 => with_unfolding_all rfl))
        repeat (first | k_unfold | fail_if_success skip)
        exact hQ8 _ _ (elt_end (ys ++ [_]) (by assumption) (by assumption) (by (try dsimp only); kst_inAny) off (.inr ⟨_, by k_mem, rfl, _, rfl⟩) rfl (z_next he hok))
      case fin =>
        intro ys hys
        unfold LCg.FinE
        intro D9 h9 tk9 F9 N9 o9
        have hall : (cs.take (cs.map CE.ref).toArray.size) = cs := by rw [List.size_toArray, List.length_map, List.take_length]
        rw [hall] at hys
        have N9' : News s1.heap s1.heap.objs.size h9 ((D9, listOf ys.toArray ys.length) :: (ra, tupO (cs.map CE.ref).toArray rn) :: (ea, listOf es.toArray en) :: (d, oD) :: (x, instObj 144 dx) :: (dx, gDict w0 a1 a2 a3 a4 d t1 t2 t3 t4 t5) :: (l, listOf (cs.map CE.ref).toArray nl) :: (s1.heap.objs.size + 1 + 1, oW) :: (s1.heap.objs.size + 1 + 1 + 1, oP) :: rest) := N9
        clear N9
        dsimp only at o9 ⊢
        repeat' (first | (k_unfold; (try dsimp only)) | ((with_reducible show wpAny _ _ (call (Value.builtin "len") _) _ _ _); (k_here; (with_reducible show wpAny _ _ (call (Value.builtin "len") [Value.ref _]) _ _ _); k_dflt (refine' len_kl ?zzj1 ?zzj2 ?zzj3 ?_; (case zzj1 => k_asm); (case zzj2 => k_mem); (case zzj3 => assumption)); k_whole)) | ((with_reducible show wpAny _ _ (call (Value.type _) _) _ _ _); (k_here; (with_reducible show wpAny _ _ (call (Value.type _) [Value.ref _]) _ _ _); k_dflt (refine' kde_tupleOf ?zzk1 ?zzk2 ?zzk3 ?zzk4 ?zzk5 ?_; (case zzk1 => k_asm); (case zzk2 => k_asm); (case zzk3 => exact News.isList (by k_asm) (by k_mem)); (case zzk4 => (rw [List.size_toArray, List.length_map]; exact Nat.le_trans (by assumption : _ ≤ 3) (by decide))); (case zzk5 => exact List.toList_toArray ..); k_whole); intro D' h' F' N' l1; (try k_lt l1); (try k_sweep))) | ((with_reducible show wpAny _ _ (call (Value.ref _) _) _ _ _); (k_here; (k_dflt (refine' gdef_use ?zzk1 ?zzk2 ?zzk3 ?zzk4 ?zzk5 ?zzk6 ?zzk14 ?zzk15 ?_; (case zzk1 => k_asm); (case zzk2 => k_asm); (case zzk3 => k_asm); (case zzk4 => k_asm); (case zzk5 => k_asm); (case zzk6 => first | exact rfl | assumption); (case zzk14 => ktr_room); (case zzk15 => ktr_units); k_whole)); intro x9 dx9 d9 a1 a2 a3 a4 o9 t1 t2 t3 t4 t5 h9 tk9 F9 N9 lo9 lx9 ld9 ds9 i9; (try dsimp only); (try k_fold); (try k_sweep))) | ((with_reducible show wpAny _ _ (compareOp .NotEq (Value.ref _) (Value.ref _)) _ _ _); (k_here; first | (k_dflt (refine' ne_words ?zzN ?zza ?zzb ?zzsa ?zzsb ?zzp0 ?zzp1 ?zzp2 ?zzp3 ?zzhu ?_; (case zzN => k_asm); (case zza => k_mem); (case zzb => k_mem); (case zzsa => assumption); (case zzsb => assumption); (case zzp0 => assumption); (case zzp1 => assumption); (case zzp2 => assumption); (case zzp3 => assumption); (case zzhu => ktr_units)); (try dsimp only); (try k_fold)) | (k_dflt (refine' ne_pair ?zzN ?zza ?zzb ?zze1 ?zze2 ?zzhu ?_; (case zzN => k_asm); (case zza => k_mem); (case zzb => k_mem); (case zze1 => (first | exact pair_a (by assumption) (by assumption) | exact pair_b (by assumption) (by assumption) | exact pair_c (by assumption) (by assumption) (by assumption) | exact pair_d (by assumption) (by assumption) (by assumption))); (case zze2 => (first | exact pair_a (by assumption) (by assumption) | exact pair_b (by assumption) (by assumption) | exact pair_c (by assumption) (by assumption) (by assumption) | exact pair_d (by assumption) (by assumption) (by assumption))); (case zzhu => ktr_units)); (try dsimp only); (try k_fold)))) | ((with_reducible show wpAny _ _ (call (Value.type _) _) _ _ _); (k_here; (with_reducible show wpAny _ _ (call (Value.type _) [Value.ref _]) _ _ _); k_dflt (refine' kup_listOfT ?zzF ?zzN ?zzb ?zze ?_ ?zzz; (case zzF => k_asm); (case zzN => k_asm); (case zzb => k_mem); (case zze => exact List.toList_toArray ..); (case zzz => exact strs_size (by assumption))); intro D' c' h' F' N' l1; (try k_lt l1); (try k_sweep))) | ((with_reducible show wpAny _ _ (call (Value.ref _) _) _ _ _); (k_here; first | (k_dflt (refine' draw_use ?zzk1 ?zzk2 ?zzk3 ?zzk4 ?zzk5 ?zzk6 ?zzkD ?zzkc ?zzk7 ?zzk8 ?zzk9 ?zzk10 ?zzk11 ?zzk12 ?zzk13 ?zzk14 ?zzk15 ?_; (case zzk1 => k_asm); (case zzk2 => k_asm); (case zzk3 => k_asm); (case zzk4 => k_asm); (case zzk5 => k_asm); (case zzk6 => first | exact rfl | assumption); (case zzkD => (first | exact Del.head (by repeat' (first | exact List.forall_mem_nil _ | exact OwnOff.ne (by assumption) (by simp) | refine List.forall_mem_cons.mpr ⟨by k_ne, ?_⟩)) | exact Del.tail (by k_ne) (by first | exact Del.head (by repeat' (first | exact List.forall_mem_nil _ | exact OwnOff.ne (by assumption) (by simp) | refine List.forall_mem_cons.mpr ⟨by k_ne, ?_⟩)) | exact Del.tail (by k_ne) (by first | exact Del.head (by repeat' (first | exact List.forall_mem_nil _ | exact OwnOff.ne (by assumption) (by simp) | refine List.forall_mem_cons.mpr ⟨by k_ne, ?_⟩)) | exact Del.tail (by k_ne) (by first | exact Del.head (by repeat' (first | exact List.forall_mem_nil _ | exact OwnOff.ne (by assumption) (by simp) | refine List.forall_mem_cons.mpr ⟨by k_ne, ?_⟩)) | exact Del.tail (by k_ne) (by first | exact Del.head (by repeat' (first | exact List.forall_mem_nil _ | exact OwnOff.ne (by assumption) (by simp) | refine List.forall_mem_cons.mpr ⟨by k_ne, ?_⟩)) | exact Del.tail (by k_ne) (by first | exact Del.head (by repeat' (first | exact List.forall_mem_nil _ | exact OwnOff.ne (by assumption) (by simp) | refine List.forall_mem_cons.mpr ⟨by k_ne, ?_⟩)) | exact Del.tail (by k_ne) (by first | exact Del.head (by repeat' (first | exact List.forall_mem_nil _ | exact OwnOff.ne (by assumption) (by simp) | refine List.forall_mem_cons.mpr ⟨by k_ne, ?_⟩)) | exact Del.tail (by k_ne) (by first | exact Del.head (by repeat' (first | exact List.forall_mem_nil _ | exact OwnOff.ne (by assumption) (by simp) | refine List.forall_mem_cons.mpr ⟨by k_ne, ?_⟩)) | exact Del.tail (by k_ne) (by first | exact Del.head (by repeat' (first | exact List.forall_mem_nil _ | exact OwnOff.ne (by assumption) (by simp) | refine List.forall_mem_cons.mpr ⟨by k_ne, ?_⟩)) | exact Del.tail (by k_ne) (by exact Del.head (by repeat' (first | exact List.forall_mem_nil _ | exact OwnOff.ne (by assumption) (by simp) | refine List.forall_mem_cons.mpr ⟨by k_ne, ?_⟩))))))))))))); (case zzkc => k_mem); (case zzk7 => omega); (case zzk8 => assumption); (case zzk9 => assumption); (case zzk10 => assumption); (case zzk11 => omega); (case zzk12 => omega); (case zzk13 => decide); (case zzk14 => ktr_room); (case zzk15 => ktr_units); k_whole); intro r9 t9 t8 h9 tk9 n9 r0 r1 F9 N9; (try dsimp only); (try k_fold); (try k_sweep)) | (k_dflt (refine' words_use ?zzk1 ?zzk2 ?zzk3 ?zzk4 ?zzk5 ?zzk6 ?zzk7 ?zzk8 ?zzk9 ?zzk10 ?zzk14 ?zzk15 ?_; (case zzk1 => k_asm); (case zzk2 => k_asm); (case zzk3 => k_asm); (case zzk4 => k_asm); (case zzk5 => k_asm); (case zzk6 => first | exact rfl | assumption); (case zzk7 => assumption); (case zzk8 => assumption); (case zzk9 => assumption); (case zzk10 => assumption); (case zzk14 => ktr_room); (case zzk15 => ktr_units); k_whole); intro vs9 h9 tk9 n9 D9 S9 F9 N9 lo9; (try k_lt lo9); (try dsimp only); (try k_fold); (try k_sweep)) | (k_dflt (refine' lw_use ?zzk1 ?zzk2 ?zzk3 ?zzk4 ?zzk5 ?zzk6 ?zzk7 ?zzk8 ?zzk9 ?zzk10 ?zzk14 ?zzk15 ?_; (case zzk1 => k_asm); (case zzk2 => k_asm); (case zzk3 => k_asm); (case zzk4 => k_asm); (case zzk5 => k_asm); (case zzk6 => first | exact rfl | assumption); (case zzk7 => assumption); (case zzk8 => assumption); (case zzk9 => assumption); (case zzk10 => assumption); (case zzk14 => ktr_room); (case zzk15 => ktr_units); k_whole); intro vs9 h9 tk9 n9 D9 S9 F9 N9 lo9; (try k_lt lo9); (try dsimp only); (try k_fold); (try k_sweep)) | (k_dflt (refine' flag_use ?zzk1 ?zzk2 ?zzk3 ?zzk4 ?zzk5 ?zzk6 ?zzkl ?zzkO ?zzkS ?zzkh ?zzk14 ?zzk15 ?_; (case zzk1 => k_asm); (case zzk2 => k_asm); (case zzk3 => k_asm); (case zzk4 => k_asm); (case zzk5 => k_asm); (case zzk6 => first | exact rfl | assumption); (case zzkl => k_mem); (case zzkO => (first | exact ⟨_, .inl rfl⟩ | exact ⟨_, .inr rfl⟩)); (case zzkS => first | assumption | exact strs_rev (by assumption)); (case zzkh => first | assumption | exact ok_of_txt (by assumption)); (case zzk14 => ktr_room); (case zzk15 => ktr_units); k_whole); intro v1 v2 t9 t8 h9 tk9 n9 D9 e9 F9 N9 lo9; (try k_lt lo9); (try dsimp only); (try k_fold); (try k_sweep)) | (k_dflt (refine' read_use ?zzk1 ?zzk2 ?zzk3 ?zzk4 ?zzk5 ?zzk6 ?zzkl ?zzkh ?zzk14 ?zzk15 ?_; (case zzk1 => k_asm); (case zzk2 => k_asm); (case zzk3 => k_asm); (case zzk4 => k_asm); (case zzk5 => k_asm); (case zzk6 => first | exact rfl | assumption); (case zzkl => k_mem); (case zzkh => assumption); (case zzk14 => ktr_room); (case zzk15 => ktr_units); k_whole); intro v1 v2 t9 t8 h9 tk9 n9 D9 e9 F9 N9 lo9; (try k_lt lo9); (try dsimp only); (try k_fold); (try k_sweep)))) | ((fail_if_success (with_reducible show wpAny _ _ (call (Value.builtin "sorted") [Value.ref _]) _ _ _)); (first | walk1 | (dsimp only; walk1) | (leave1; (try dsimp only)))) | fail "no step")
        k_dflt (refine' kso_sorted ?j1 ?j2 ?j3 hys ?j5 ?_; (case j1 => k_asm); (case j2 => k_asm); (case j3 => exact News.isList N9' (List.mem_cons_self ..)); (case j5 => (rw [List.length_map]; exact le3_64 hc3)))
        intro D7 vs7 ns7 c7 h7 F7 N7 l7 i7 e7 p7 o7 b7
        clear e7 b7
        clear N9'
        repeat' (first | (k_unfold; (try dsimp only)) | ((with_reducible show wpAny _ _ (call (Value.builtin "len") _) _ _ _); (k_here; (with_reducible show wpAny _ _ (call (Value.builtin "len") [Value.ref _]) _ _ _); k_dflt (refine' len_kl ?zzj1 ?zzj2 ?zzj3 ?_; (case zzj1 => k_asm); (case zzj2 => k_mem); (case zzj3 => assumption)); k_whole)) | ((with_reducible show wpAny _ _ (call (Value.type _) _) _ _ _); (k_here; (with_reducible show wpAny _ _ (call (Value.type _) [Value.ref _]) _ _ _); k_dflt (refine' kde_tupleOf ?zzk1 ?zzk2 ?zzk3 ?zzk4 ?zzk5 ?_; (case zzk1 => k_asm); (case zzk2 => k_asm); (case zzk3 => exact News.isList (by k_asm) (by k_mem)); (case zzk4 => (rw [List.size_toArray, List.length_map]; exact Nat.le_trans (by assumption : _ ≤ 3) (by decide))); (case zzk5 => exact List.toList_toArray ..); k_whole); intro D' h' F' N' l1; (try k_lt l1); (try k_sweep))) | ((with_reducible show wpAny _ _ (call (Value.ref _) _) _ _ _); (k_here; (k_dflt (refine' gdef_use ?zzk1 ?zzk2 ?zzk3 ?zzk4 ?zzk5 ?zzk6 ?zzk14 ?zzk15 ?_; (case zzk1 => k_asm); (case zzk2 => k_asm); (case zzk3 => k_asm); (case zzk4 => k_asm); (case zzk5 => k_asm); (case zzk6 => first | exact rfl | assumption); (case zzk14 => ktr_room); (case zzk15 => ktr_units); k_whole)); intro x9 dx9 d9 a1 a2 a3 a4 o9 t1 t2 t3 t4 t5 h9 tk9 F9 N9 lo9 lx9 ld9 ds9 i9; (try dsimp only); (try k_fold); (try k_sweep))) | ((with_reducible show wpAny _ _ (compareOp .NotEq (Value.ref _) (Value.ref _)) _ _ _); (k_here; first | (k_dflt (refine' ne_words ?zzN ?zza ?zzb ?zzsa ?zzsb ?zzp0 ?zzp1 ?zzp2 ?zzp3 ?zzhu ?_; (case zzN => k_asm); (case zza => k_mem); (case zzb => k_mem); (case zzsa => assumption); (case zzsb => assumption); (case zzp0 => assumption); (case zzp1 => assumption); (case zzp2 => assumption); (case zzp3 => assumption); (case zzhu => ktr_units)); (try dsimp only); (try k_fold)) | (k_dflt (refine' ne_pair ?zzN ?zza ?zzb ?zze1 ?zze2 ?zzhu ?_; (case zzN => k_asm); (case zza => k_mem); (case zzb => k_mem); (case zze1 => (first | exact pair_a (by assumption) (by assumption) | exact pair_b (by assumption) (by assumption) | exact pair_c (by assumption) (by assumption) (by assumption) | exact pair_d (by assumption) (by assumption) (by assumption))); (case zze2 => (first | exact pair_a (by assumption) (by assumption) | exact pair_b (by assumption) (by assumption) | exact pair_c (by assumption) (by assumption) (by assumption) | exact pair_d (by assumption) (by assumption) (by assumption))); (case zzhu => ktr_units)); (try dsimp only); (try k_fold)))) | ((with_reducible show wpAny _ _ (call (Value.type _) _) _ _ _); (k_here; (with_reducible show wpAny _ _ (call (Value.type _) [Value.ref _]) _ _ _); k_dflt (refine' kup_listOfT ?zzF ?zzN ?zzb ?zze ?_ ?zzz; (case zzF => k_asm); (case zzN => k_asm); (case zzb => k_mem); (case zze => exact List.toList_toArray ..); (case zzz => exact strs_size (by assumption))); intro D' c' h' F' N' l1; (try k_lt l1); (try k_sweep))) | ((with_reducible show wpAny _ _ (call (Value.ref _) _) _ _ _); (k_here; first | (k_dflt (refine' draw_use ?zzk1 ?zzk2 ?zzk3 ?zzk4 ?zzk5 ?zzk6 ?zzkD ?zzkc ?zzk7 ?zzk8 ?zzk9 ?zzk10 ?zzk11 ?zzk12 ?zzk13 ?zzk14 ?zzk15 ?_; (case zzk1 => k_asm); (case zzk2 => k_asm); (case zzk3 => k_asm); (case zzk4 => k_asm); (case zzk5 => k_asm); (case zzk6 => first | exact rfl | assumption); (case zzkD => (first | exact Del.head (by repeat' (first | exact List.forall_mem_nil _ | exact OwnOff.ne (by assumption) (by simp) | refine List.forall_mem_cons.mpr ⟨by k_ne, ?_⟩)) | exact Del.tail (by k_ne) (by first | exact Del.head (by repeat' (first | exact List.forall_mem_nil _ | exact OwnOff.ne (by assumption) (by simp) | refine List.forall_mem_cons.mpr ⟨by k_ne, ?_⟩)) | exact Del.tail (by k_ne) (by first | exact Del.head (by repeat' (first | exact List.forall_mem_nil _ | exact OwnOff.ne (by assumption) (by simp) | refine List.forall_mem_cons.mpr ⟨by k_ne, ?_⟩)) | exact Del.tail (by k_ne) (by first | exact Del.head (by repeat' (first | exact List.forall_mem_nil _ | exact OwnOff.ne (by assumption) (by simp) | refine List.forall_mem_cons.mpr ⟨by k_ne, ?_⟩)) | exact Del.tail (by k_ne) (by first | exact Del.head (by repeat' (first | exact List.forall_mem_nil _ | exact OwnOff.ne (by assumption) (by simp) | refine List.forall_mem_cons.mpr ⟨by k_ne, ?_⟩)) | exact Del.tail (by k_ne) (by first | exact Del.head (by repeat' (first | exact List.forall_mem_nil _ | exact OwnOff.ne (by assumption) (by simp) | refine List.forall_mem_cons.mpr ⟨by k_ne, ?_⟩)) | exact Del.tail (by k_ne) (by first | exact Del.head (by repeat' (first | exact List.forall_mem_nil _ | exact OwnOff.ne (by assumption) (by simp) | refine List.forall_mem_cons.mpr ⟨by k_ne, ?_⟩)) | exact Del.tail (by k_ne) (by first | exact Del.head (by repeat' (first | exact List.forall_mem_nil _ | exact OwnOff.ne (by assumption) (by simp) | refine List.forall_mem_cons.mpr ⟨by k_ne, ?_⟩)) | exact Del.tail (by k_ne) (by first | exact Del.head (by repeat' (first | exact List.forall_mem_nil _ | exact OwnOff.ne (by assumption) (by simp) | refine List.forall_mem_cons.mpr ⟨by k_ne, ?_⟩)) | exact Del.tail (by k_ne) (by exact Del.head (by repeat' (first | exact List.forall_mem_nil _ | exact OwnOff.ne (by assumption) (by simp) | refine List.forall_mem_cons.mpr ⟨by k_ne, ?_⟩))))))))))))); (case zzkc => k_mem); (case zzk7 => omega); (case zzk8 => assumption); (case zzk9 => assumption); (case zzk10 => assumption); (case zzk11 => omega); (case zzk12 => omega); (case zzk13 => decide); (case zzk14 => ktr_room); (case zzk15 => ktr_units); k_whole); intro r9 t9 t8 h9 tk9 n9 r0 r1 F9 N9; (try dsimp only); (try k_fold); (try k_sweep)) | (k_dflt (refine' words_use ?zzk1 ?zzk2 ?zzk3 ?zzk4 ?zzk5 ?zzk6 ?zzk7 ?zzk8 ?zzk9 ?zzk10 ?zzk14 ?zzk15 ?_; (case zzk1 => k_asm); (case zzk2 => k_asm); (case zzk3 => k_asm); (case zzk4 => k_asm); (case zzk5 => k_asm); (case zzk6 => first | exact rfl | assumption); (case zzk7 => assumption); (case zzk8 => assumption); (case zzk9 => assumption); (case zzk10 => assumption); (case zzk14 => ktr_room); (case zzk15 => ktr_units); k_whole); intro vs9 h9 tk9 n9 D9 S9 F9 N9 lo9; (try k_lt lo9); (try dsimp only); (try k_fold); (try k_sweep)) | (k_dflt (refine' lw_use ?zzk1 ?zzk2 ?zzk3 ?zzk4 ?zzk5 ?zzk6 ?zzk7 ?zzk8 ?zzk9 ?zzk10 ?zzk14 ?zzk15 ?_; (case zzk1 => k_asm); (case zzk2 => k_asm); (case zzk3 => k_asm); (case zzk4 => k_asm); (case zzk5 => k_asm); (case zzk6 => first | exact rfl | assumption); (case zzk7 => assumption); (case zzk8 => assumption); (case zzk9 => assumption); (case zzk10 => assumption); (case zzk14 => ktr_room); (case zzk15 => ktr_units); k_whole); intro vs9 h9 tk9 n9 D9 S9 F9 N9 lo9; (try k_lt lo9); (try dsimp only); (try k_fold); (try k_sweep)) | (k_dflt (refine' flag_use ?zzk1 ?zzk2 ?zzk3 ?zzk4 ?zzk5 ?zzk6 ?zzkl ?zzkO ?zzkS ?zzkh ?zzk14 ?zzk15 ?_; (case zzk1 => k_asm); (case zzk2 => k_asm); (case zzk3 => k_asm); (case zzk4 => k_asm); (case zzk5 => k_asm); (case zzk6 => first | exact rfl | assumption); (case zzkl => k_mem); (case zzkO => (first | exact ⟨_, .inl rfl⟩ | exact ⟨_, .inr rfl⟩)); (case zzkS => first | assumption | exact strs_rev (by assumption)); (case zzkh => first | assumption | exact ok_of_txt (by assumption)); (case zzk14 => ktr_room); (case zzk15 => ktr_units); k_whole); intro v1 v2 t9 t8 h9 tk9 n9 D9 e9 F9 N9 lo9; (try k_lt lo9); (try dsimp only); (try k_fold); (try k_sweep)) | (k_dflt (refine' read_use ?zzk1 ?zzk2 ?zzk3 ?zzk4 ?zzk5 ?zzk6 ?zzkl ?zzkh ?zzk14 ?zzk15 ?_; (case zzk1 => k_asm); (case zzk2 => k_asm); (case zzk3 => k_asm); (case zzk4 => k_asm); (case zzk5 => k_asm); (case zzk6 => first | exact rfl | assumption); (case zzkl => k_mem); (case zzkh => assumption); (case zzk14 => ktr_room); (case zzk15 => ktr_units); k_whole); intro v1 v2 t9 t8 h9 tk9 n9 D9 e9 F9 N9 lo9; (try k_lt lo9); (try dsimp only); (try k_fold); (try k_sweep)))) | walk1 | (dsimp only; walk1) | (leave1; (try dsimp only)) | fail "no step")
        exact hQ9 _ _ ⟨rfl, at_intro ⟨_, vs7, ns7, _⟩ (by assumption) (by assumption) (by kst_inAny) (by kst_all) ⟨i7, p7, o7⟩⟩
    rintro ⟨sa, ss, sn, sc⟩ u13 h13 tk13 F13 N13 ⟨hS, hSP, hSO⟩
    clear F12 N12
    dsimp only at F13 N13 hS hSP hSO ⊢
    refine cut (σ := Addr × List Value × List Int × Nat) F13 (fun c => (c.1, listOf c.2.1.toArray c.2.2.2) :: (ra, tupO (cs.map CE.ref).toArray rn) :: (ea, listOf es.toArray en) :: (d, oD) :: (x, instObj 144 dx) :: (dx, gDict w0 a1 a2 a3 a4 d t1 t2 t3 t4 t5) :: (l, listOf (cs.map CE.ref).toArray nl) :: (s1.heap.objs.size + 1 + 1, oW) :: (s1.heap.objs.size + 1 + 1 + 1, oP) :: rest) (fun c => [(Str.ofString "carets", Value.ref l), (Str.ofString "gdef", Value.ref x), (Str.ofString "even", Value.ref ea), (Str.ofString "stops", Value.ref c.1)]) (fun c => IntsAre c.2.1 c.2.2.1 ∧ StopsR cs pt wd c.2.2.1) ?_ ?_
    · intro E9
      refine gen_Q fun Q9 hQ9 => ?_
      repeat' (first | (k_unfold; (try dsimp only)) | ((with_reducible show wpAny _ _ (call (Value.builtin "len") _) _ _ _); (k_here; (with_reducible show wpAny _ _ (call (Value.builtin "len") [Value.ref _]) _ _ _); k_dflt (refine' len_kl ?zzj1 ?zzj2 ?zzj3 ?_; (case zzj1 => k_asm); (case zzj2 => k_mem); (case zzj3 => assumption)); k_whole)) | ((with_reducible show wpAny _ _ (call (Value.type _) _) _ _ _); (k_here; (with_reducible show wpAny _ _ (call (Value.type _) [Value.ref _]) _ _ _); k_dflt (refine' kde_tupleOf ?zzk1 ?zzk2 ?zzk3 ?zzk4 ?zzk5 ?_; (case zzk1 => k_asm); (case zzk2 => k_asm); (case zzk3 => exact News.isList (by k_asm) (by k_mem)); (case zzk4 => (rw [List.size_toArray, List.length_map]; exact Nat.le_trans (by assumption : _ ≤ 3) (by decide))); (case zzk5 => exact List.toList_toArray ..); k_whole); intro D' h' F' N' l1; (try k_lt l1); (try k_sweep))) | ((with_reducible show wpAny _ _ (call (Value.ref _) _) _ _ _); (k_here; (k_dflt (refine' gdef_use ?zzk1 ?zzk2 ?zzk3 ?zzk4 ?zzk5 ?zzk6 ?zzk14 ?zzk15 ?_; (case zzk1 => k_asm); (case zzk2 => k_asm); (case zzk3 => k_asm); (case zzk4 => k_asm); (case zzk5 => k_asm); (case zzk6 => first | exact rfl | assumption); (case zzk14 => ktr_room); (case zzk15 => ktr_units); k_whole)); intro x9 dx9 d9 a1 a2 a3 a4 o9 t1 t2 t3 t4 t5 h9 tk9 F9 N9 lo9 lx9 ld9 ds9 i9; (try dsimp only); (try k_fold); (try k_sweep))) | ((with_reducible show wpAny _ _ (compareOp .NotEq (Value.ref _) (Value.ref _)) _ _ _); (k_here; first | (k_dflt (refine' ne_words ?zzN ?zza ?zzb ?zzsa ?zzsb ?zzp0 ?zzp1 ?zzp2 ?zzp3 ?zzhu ?_; (case zzN => k_asm); (case zza => k_mem); (case zzb => k_mem); (case zzsa => assumption); (case zzsb => assumption); (case zzp0 => assumption); (case zzp1 => assumption); (case zzp2 => assumption); (case zzp3 => assumption); (case zzhu => ktr_units)); (try dsimp only); (try k_fold)) | (k_dflt (refine' ne_pair ?zzN ?zza ?zzb ?zze1 ?zze2 ?zzhu ?_; (case zzN => k_asm); (case zza => k_mem); (case zzb => k_mem); (case zze1 => (first | exact pair_a (by assumption) (by assumption) | exact pair_b (by assumption) (by assumption) | exact pair_c (by assumption) (by assumption) (by assumption) | exact pair_d (by assumption) (by assumption) (by assumption))); (case zze2 => (first | exact pair_a (by assumption) (by assumption) | exact pair_b (by assumption) (by assumption) | exact pair_c (by assumption) (by assumption) (by assumption) | exact pair_d (by assumption) (by assumption) (by assumption))); (case zzhu => ktr_units)); (try dsimp only); (try k_fold)))) | ((with_reducible show wpAny _ _ (call (Value.type _) _) _ _ _); (k_here; (with_reducible show wpAny _ _ (call (Value.type _) [Value.ref _]) _ _ _); k_dflt (refine' kup_listOfT ?zzF ?zzN ?zzb ?zze ?_ ?zzz; (case zzF => k_asm); (case zzN => k_asm); (case zzb => k_mem); (case zze => exact List.toList_toArray ..); (case zzz => exact strs_size (by assumption))); intro D' c' h' F' N' l1; (try k_lt l1); (try k_sweep))) | ((with_reducible show wpAny _ _ (call (Value.ref _) _) _ _ _); (k_here; first | (k_dflt (refine' draw_use ?zzk1 ?zzk2 ?zzk3 ?zzk4 ?zzk5 ?zzk6 ?zzkD ?zzkc ?zzk7 ?zzk8 ?zzk9 ?zzk10 ?zzk11 ?zzk12 ?zzk13 ?zzk14 ?zzk15 ?_; (case zzk1 => k_asm); (case zzk2 => k_asm); (case zzk3 => k_asm); (case zzk4 => k_asm); (case zzk5 => k_asm); (case zzk6 => first | exact rfl | assumption); (case zzkD => (first | exact Del.head (by repeat' (first | exact List.forall_mem_nil _ | exact OwnOff.ne (by assumption) (by simp) | refine List.forall_mem_cons.mpr ⟨by k_ne, ?_⟩)) | exact Del.tail (by k_ne) (by first | exact Del.head (by repeat' (first | exact List.forall_mem_nil _ | exact OwnOff.ne (by assumption) (by simp) | refine List.forall_mem_cons.mpr ⟨by k_ne, ?_⟩)) | exact Del.tail (by k_ne) (by first | exact Del.head (by repeat' (first | exact List.forall_mem_nil _ | exact OwnOff.ne (by assumption) (by simp) | refine List.forall_mem_cons.mpr ⟨by k_ne, ?_⟩)) | exact Del.tail (by k_ne) (by first | exact Del.head (by repeat' (first | exact List.forall_mem_nil _ | exact OwnOff.ne (by assumption) (by simp) | refine List.forall_mem_cons.mpr ⟨by k_ne, ?_⟩)) | exact Del.tail (by k_ne) (by first | exact Del.head (by repeat' (first | exact List.forall_mem_nil _ | exact OwnOff.ne (by assumption) (by simp) | refine List.forall_mem_cons.mpr ⟨by k_ne, ?_⟩)) | exact Del.tail (by k_ne) (by first | exact Del.head (by repeat' (first | exact List.forall_mem_nil _ | exact OwnOff.ne (by assumption) (by simp) | refine List.forall_mem_cons.mpr ⟨by k_ne, ?_⟩)) | exact Del.tail (by k_ne) (by first | exact Del.head (by repeat' (first | exact List.forall_mem_nil _ | exact OwnOff.ne (by assumption) (by simp) | refine List.forall_mem_cons.mpr ⟨by k_ne, ?_⟩)) | exact Del.tail (by k_ne) (by first | exact Del.head (by repeat' (first | exact List.forall_mem_nil _ | exact OwnOff.ne (by assumption) (by simp) | refine List.forall_mem_cons.mpr ⟨by k_ne, ?_⟩)) | exact Del.tail (by k_ne) (by first | exact Del.head (by repeat' (first | exact List.forall_mem_nil _ | exact OwnOff.ne (by assumption) (by simp) | refine List.forall_mem_cons.mpr ⟨by k_ne, ?_⟩)) | exact Del.tail (by k_ne) (by exact Del.head (by repeat' (first | exact List.forall_mem_nil _ | exact OwnOff.ne (by assumption) (by simp) | refine List.forall_mem_cons.mpr ⟨by k_ne, ?_⟩))))))))))))); (case zzkc => k_mem); (case zzk7 => omega); (case zzk8 => assumption); (case zzk9 => assumption); (case zzk10 => assumption); (case zzk11 => omega); (case zzk12 => omega); (case zzk13 => decide); (case zzk14 => ktr_room); (case zzk15 => ktr_units); k_whole); intro r9 t9 t8 h9 tk9 n9 r0 r1 F9 N9; (try dsimp only); (try k_fold); (try k_sweep)) | (k_dflt (refine' words_use ?zzk1 ?zzk2 ?zzk3 ?zzk4 ?zzk5 ?zzk6 ?zzk7 ?zzk8 ?zzk9 ?zzk10 ?zzk14 ?zzk15 ?_; (case zzk1 => k_asm); (case zzk2 => k_asm); (case zzk3 => k_asm); (case zzk4 => k_asm); (case zzk5 => k_asm); (case zzk6 => first | exact rfl | assumption); (case zzk7 => assumption); (case zzk8 => assumption); (case zzk9 => assumption); (case zzk10 => assumption); (case zzk14 => ktr_room); (case zzk15 => ktr_units); k_whole); intro vs9 h9 tk9 n9 D9 S9 F9 N9 lo9; (try k_lt lo9); (try dsimp only); (try k_fold); (try k_sweep)) | (k_dflt (refine' lw_use ?zzk1 ?zzk2 ?zzk3 ?zzk4 ?zzk5 ?zzk6 ?zzk7 ?zzk8 ?zzk9 ?zzk10 ?zzk14 ?zzk15 ?_; (case zzk1 => k_asm); (case zzk2 => k_asm); (case zzk3 => k_asm); (case zzk4 => k_asm); (case zzk5 => k_asm); (case zzk6 => first | exact rfl | assumption); (case zzk7 => assumption); (case zzk8 => assumption); (case zzk9 => assumption); (case zzk10 => assumption); (case zzk14 => ktr_room); (case zzk15 => ktr_units); k_whole); intro vs9 h9 tk9 n9 D9 S9 F9 N9 lo9; (try k_lt lo9); (try dsimp only); (try k_fold); (try k_sweep)) | (k_dflt (refine' flag_use ?zzk1 ?zzk2 ?zzk3 ?zzk4 ?zzk5 ?zzk6 ?zzkl ?zzkO ?zzkS ?zzkh ?zzk14 ?zzk15 ?_; (case zzk1 => k_asm); (case zzk2 => k_asm); (case zzk3 => k_asm); (case zzk4 => k_asm); (case zzk5 => k_asm); (case zzk6 => first | exact rfl | assumption); (case zzkl => k_mem); (case zzkO => (first | exact ⟨_, .inl rfl⟩ | exact ⟨_, .inr rfl⟩)); (case zzkS => first | assumption | exact strs_rev (by assumption)); (case zzkh => first | assumption | exact ok_of_txt (by assumption)); (case zzk14 => ktr_room); (case zzk15 => ktr_units); k_whole); intro v1 v2 t9 t8 h9 tk9 n9 D9 e9 F9 N9 lo9; (try k_lt lo9); (try dsimp only); (try k_fold); (try k_sweep)) | (k_dflt (refine' read_use ?zzk1 ?zzk2 ?zzk3 ?zzk4 ?zzk5 ?zzk6 ?zzkl ?zzkh ?zzk14 ?zzk15 ?_; (case zzk1 => k_asm); (case zzk2 => k_asm); (case zzk3 => k_asm); (case zzk4 => k_asm); (case zzk5 => k_asm); (case zzk6 => first | exact rfl | assumption); (case zzkl => k_mem); (case zzkh => assumption); (case zzk14 => ktr_room); (case zzk15 => ktr_units); k_whole); intro v1 v2 t9 t8 h9 tk9 n9 D9 e9 F9 N9 lo9; (try k_lt lo9); (try dsimp only); (try k_fold); (try k_sweep)))) | ((fail_if_success (with_reducible show wpAny _ _ (eval (PySem.Expr.ListComp _ _ _ _) _) _ _ _)); (first | walk1 | (dsimp only; walk1) | (leave1; (try dsimp only)))) | fail "no step")
      · exact hQ9 _ _ ⟨rfl, at_intro ⟨ea, es, _, en⟩ (by assumption) (by assumption) (by kst_inAny) (by kst_all) ⟨hE, told_b (by assumption)⟩⟩
      · k_dflt (refine LCt.ListComp_T (F₀ := by k_asm) (by rfl) (by decide) (by rfl) (by decide) (by rfl) ?_)
        repeat' (first | (k_unfold; (try dsimp only)) | ((with_reducible show wpAny _ _ (call (Value.builtin "len") _) _ _ _); (k_here; (with_reducible show wpAny _ _ (call (Value.builtin "len") [Value.ref _]) _ _ _); k_dflt (refine' len_kl ?zzj1 ?zzj2 ?zzj3 ?_; (case zzj1 => k_asm); (case zzj2 => k_mem); (case zzj3 => assumption)); k_whole)) | ((with_reducible show wpAny _ _ (call (Value.type _) _) _ _ _); (k_here; (with_reducible show wpAny _ _ (call (Value.type _) [Value.ref _]) _ _ _); k_dflt (refine' kde_tupleOf ?zzk1 ?zzk2 ?zzk3 ?zzk4 ?zzk5 ?_; (case zzk1 => k_asm); (case zzk2 => k_asm); (case zzk3 => exact News.isList (by k_asm) (by k_mem)); (case zzk4 => (rw [List.size_toArray, List.length_map]; exact Nat.le_trans (by assumption : _ ≤ 3) (by decide))); (case zzk5 => exact List.toList_toArray ..); k_whole); intro D' h' F' N' l1; (try k_lt l1); (try k_sweep))) | ((with_reducible show wpAny _ _ (call (Value.ref _) _) _ _ _); (k_here; (k_dflt (refine' gdef_use ?zzk1 ?zzk2 ?zzk3 ?zzk4 ?zzk5 ?zzk6 ?zzk14 ?zzk15 ?_; (case zzk1 => k_asm); (case zzk2 => k_asm); (case zzk3 => k_asm); (case zzk4 => k_asm); (case zzk5 => k_asm); (case zzk6 => first | exact rfl | assumption); (case zzk14 => ktr_room); (case zzk15 => ktr_units); k_whole)); intro x9 dx9 d9 a1 a2 a3 a4 o9 t1 t2 t3 t4 t5 h9 tk9 F9 N9 lo9 lx9 ld9 ds9 i9; (try dsimp only); (try k_fold); (try k_sweep))) | ((with_reducible show wpAny _ _ (compareOp .NotEq (Value.ref _) (Value.ref _)) _ _ _); (k_here; first | (k_dflt (refine' ne_words ?zzN ?zza ?zzb ?zzsa ?zzsb ?zzp0 ?zzp1 ?zzp2 ?zzp3 ?zzhu ?_; (case zzN => k_asm); (case zza => k_mem); (case zzb => k_mem); (case zzsa => assumption); (case zzsb => assumption); (case zzp0 => assumption); (case zzp1 => assumption); (case zzp2 => assumption); (case zzp3 => assumption); (case zzhu => ktr_units)); (try dsimp only); (try k_fold)) | (k_dflt (refine' ne_pair ?zzN ?zza ?zzb ?zze1 ?zze2 ?zzhu ?_; (case zzN => k_asm); (case zza => k_mem); (case zzb => k_mem); (case zze1 => (first | exact pair_a (by assumption) (by assumption) | exact pair_b (by assumption) (by assumption) | exact pair_c (by assumption) (by assumption) (by assumption) | exact pair_d (by assumption) (by assumption) (by assumption))); (case zze2 => (first | exact pair_a (by assumption) (by assumption) | exact pair_b (by assumption) (by assumption) | exact pair_c (by assumption) (by assumption) (by assumption) | exact pair_d (by assumption) (by assumption) (by assumption))); (case zzhu => ktr_units)); (try dsimp only); (try k_fold)))) | ((with_reducible show wpAny _ _ (call (Value.type _) _) _ _ _); (k_here; (with_reducible show wpAny _ _ (call (Value.type _) [Value.ref _]) _ _ _); k_dflt (refine' kup_listOfT ?zzF ?zzN ?zzb ?zze ?_ ?zzz; (case zzF => k_asm); (case zzN => k_asm); (case zzb => k_mem); (case zze => exact List.toList_toArray ..); (case zzz => exact strs_size (by assumption))); intro D' c' h' F' N' l1; (try k_lt l1); (try k_sweep))) | ((with_reducible show wpAny _ _ (call (Value.ref _) _) _ _ _); (k_here; first | (k_dflt (refine' draw_use ?zzk1 ?zzk2 ?zzk3 ?zzk4 ?zzk5 ?zzk6 ?zzkD ?zzkc ?zzk7 ?zzk8 ?zzk9 ?zzk10 ?zzk11 ?zzk12 ?zzk13 ?zzk14 ?zzk15 ?_; (case zzk1 => k_asm); (case zzk2 => k_asm); (case zzk3 => k_asm); (case zzk4 => k_asm); (case zzk5 => k_asm); (case zzk6 => first | exact rfl | assumption); (case zzkD => (first | exact Del.head (by repeat' (first | exact List.forall_mem_nil _ | exact OwnOff.ne (by assumption) (by simp) | refine List.forall_mem_cons.mpr ⟨by k_ne, ?_⟩)) | exact Del.tail (by k_ne) (by first | exact Del.head (by repeat' (first | exact List.forall_mem_nil _ | exact OwnOff.ne (by assumption) (by simp) | refine List.forall_mem_cons.mpr ⟨by k_ne, ?_⟩)) | exact Del.tail (by k_ne) (by first | exact Del.head (by repeat' (first | exact List.forall_mem_nil _ | exact OwnOff.ne (by assumption) (by simp) | refine List.forall_mem_cons.mpr ⟨by k_ne, ?_⟩)) | exact Del.tail (by k_ne) (by first | exact Del.head (by repeat' (first | exact List.forall_mem_nil _ | exact OwnOff.ne (by assumption) (by simp) | refine List.forall_mem_cons.mpr ⟨by k_ne, ?_⟩)) | exact Del.tail (by k_ne) (by first | exact Del.head (by repeat' (first | exact List.forall_mem_nil _ | exact OwnOff.ne (by assumption) (by simp) | refine List.forall_mem_cons.mpr ⟨by k_ne, ?_⟩)) | exact Del.tail (by k_ne) (by first | exact Del.head (by repeat' (first | exact List.forall_mem_nil _ | exact OwnOff.ne (by assumption) (by simp) | refine List.forall_mem_cons.mpr ⟨by k_ne, ?_⟩)) | exact Del.tail (by k_ne) (by first | exact Del.head (by repeat' (first | exact List.forall_mem_nil _ | exact OwnOff.ne (by assumption) (by simp) | refine List.forall_mem_cons.mpr ⟨by k_ne, ?_⟩)) | exact Del.tail (by k_ne) (by first | exact Del.head (by repeat' (first | exact List.forall_mem_nil _ | exact OwnOff.ne (by assumption) (by simp) | refine List.forall_mem_cons.mpr ⟨by k_ne, ?_⟩)) | exact Del.tail (by k_ne) (by first | exact Del.head (by repeat' (first | exact List.forall_mem_nil _ | exact OwnOff.ne (by assumption) (by simp) | refine List.forall_mem_cons.mpr ⟨by k_ne, ?_⟩)) | exact Del.tail (by k_ne) (by exact Del.head (by repeat' (first | exact List.forall_mem_nil _ | exact OwnOff.ne (by assumption) (by simp) | refine List.forall_mem_cons.mpr ⟨by k_ne, ?_⟩))))))))))))); (case zzkc => k_mem); (case zzk7 => omega); (case zzk8 => assumption); (case zzk9 => assumption); (case zzk10 => assumption); (case zzk11 => omega); (case zzk12 => omega); (case zzk13 => decide); (case zzk14 => ktr_room); (case zzk15 => ktr_units); k_whole); intro r9 t9 t8 h9 tk9 n9 r0 r1 F9 N9; (try dsimp only); (try k_fold); (try k_sweep)) | (k_dflt (refine' words_use ?zzk1 ?zzk2 ?zzk3 ?zzk4 ?zzk5 ?zzk6 ?zzk7 ?zzk8 ?zzk9 ?zzk10 ?zzk14 ?zzk15 ?_; (case zzk1 => k_asm); (case zzk2 => k_asm); (case zzk3 => k_asm); (case zzk4 => k_asm); (case zzk5 => k_asm); (case zzk6 => first | exact rfl | assumption); (case zzk7 => assumption); (case zzk8 => assumption); (case zzk9 => assumption); (case zzk10 => assumption); (case zzk14 => ktr_room); (case zzk15 => ktr_units); k_whole); intro vs9 h9 tk9 n9 D9 S9 F9 N9 lo9; (try k_lt lo9); (try dsimp only); (try k_fold); (try k_sweep)) | (k_dflt (refine' lw_use ?zzk1 ?zzk2 ?zzk3 ?zzk4 ?zzk5 ?zzk6 ?zzk7 ?zzk8 ?zzk9 ?zzk10 ?zzk14 ?zzk15 ?_; (case zzk1 => k_asm); (case zzk2 => k_asm); (case zzk3 => k_asm); (case zzk4 => k_asm); (case zzk5 => k_asm); (case zzk6 => first | exact rfl | assumption); (case zzk7 => assumption); (case zzk8 => assumption); (case zzk9 => assumption); (case zzk10 => assumption); (case zzk14 => ktr_room); (case zzk15 => ktr_units); k_whole); intro vs9 h9 tk9 n9 D9 S9 F9 N9 lo9; (try k_lt lo9); (try dsimp only); (try k_fold); (try k_sweep)) | (k_dflt (refine' flag_use ?zzk1 ?zzk2 ?zzk3 ?zzk4 ?zzk5 ?zzk6 ?zzkl ?zzkO ?zzkS ?zzkh ?zzk14 ?zzk15 ?_; (case zzk1 => k_asm); (case zzk2 => k_asm); (case zzk3 => k_asm); (case zzk4 => k_asm); (case zzk5 => k_asm); (case zzk6 => first | exact rfl | assumption); (case zzkl => k_mem); (case zzkO => (first | exact ⟨_, .inl rfl⟩ | exact ⟨_, .inr rfl⟩)); (case zzkS => first | assumption | exact strs_rev (by assumption)); (case zzkh => first | assumption | exact ok_of_txt (by assumption)); (case zzk14 => ktr_room); (case zzk15 => ktr_units); k_whole); intro v1 v2 t9 t8 h9 tk9 n9 D9 e9 F9 N9 lo9; (try k_lt lo9); (try dsimp only); (try k_fold); (try k_sweep)) | (k_dflt (refine' read_use ?zzk1 ?zzk2 ?zzk3 ?zzk4 ?zzk5 ?zzk6 ?zzkl ?zzkh ?zzk14 ?zzk15 ?_; (case zzk1 => k_asm); (case zzk2 => k_asm); (case zzk3 => k_asm); (case zzk4 => k_asm); (case zzk5 => k_asm); (case zzk6 => first | exact rfl | assumption); (case zzkl => k_mem); (case zzkh => assumption); (case zzk14 => ktr_room); (case zzk15 => ktr_units); k_whole); intro v1 v2 t9 t8 h9 tk9 n9 D9 e9 F9 N9 lo9; (try k_lt lo9); (try dsimp only); (try k_fold); (try k_sweep)))) | ((fail_if_success (with_reducible show LCt.CompSrcT _ _ _ _ _ _ _ _ _ _ _ _ _ _ _)); (first | walk1 | (dsimp only; walk1) | (leave1; (try dsimp only)))) | fail "no step")
        with_unfolding_all refine LCt.CompSrcT.ledger (its := (cs.map CE.ref).toArray) (k := nl) (by rfl) (by assumption) (by assumption) (by k_mem) (by rw [List.size_toArray, List.length_map]; exact le3_size hc3) ?_
        intro g
        with_unfolding_all refine rest_stT (σ := List Value) (fun _ => (sa, listOf ss.toArray sc) :: (ra, tupO (cs.map CE.ref).toArray rn) :: (ea, listOf es.toArray en) :: (d, oD) :: (x, instObj 144 dx) :: (dx, gDict w0 a1 a2 a3 a4 d t1 t2 t3 t4 t5) :: (l, listOf (cs.map CE.ref).toArray nl) :: (s1.heap.objs.size + 1 + 1, oW) :: (s1.heap.objs.size + 1 + 1 + 1, oP) :: rest) (fun c => c) (fun i c => c = (ptsOf (cs.take i)).map CE.ref) (cs.map CE.ref).toArray.size ?turn ?fin (cs.map CE.ref).toArray.size 0 [] (Nat.zero_add _) rfl
        case turn =>
          rintro i ys v I oI C oC D m₂ h tk E' hi hv hok hC hx F N off hne
          (try dsimp only at F N off hok hv hi)
          obtain ⟨e, he, rfl, hem⟩ := ks_get hv
          have hent := hcm e hem
          have hee : e.ent ∈ (I, oI) :: (C, oC) :: (D, LCg.lst ys) :: (sa, listOf ss.toArray sc) :: (ra, tupO (cs.map CE.ref).toArray rn) :: (ea, listOf es.toArray en) :: (d, oD) :: (x, instObj 144 dx) :: (dx, gDict w0 a1 a2 a3 a4 d t1 t2 t3 t4 t5) :: (l, listOf (cs.map CE.ref).toArray nl) :: (s1.heap.objs.size + 1 + 1, oW) :: (s1.heap.objs.size + 1 + 1 + 1, oP) :: rest :=
            .tail _ (.tail _ (.tail _ (.tail _ (.tail _ (.tail _ (.tail _ (.tail _ (.tail _ (.tail _ (.tail _ (.tail _ hent)))))))))))
          clear hv
          repeat' (first | (k_unfold; (try dsimp only)) | ((with_reducible show wpAny _ _ (call (Value.builtin "len") _) _ _ _); (k_here; (with_reducible show wpAny _ _ (call (Value.builtin "len") [Value.ref _]) _ _ _); k_dflt (refine' len_kl ?zzj1 ?zzj2 ?zzj3 ?_; (case zzj1 => k_asm); (case zzj2 => k_mem); (case zzj3 => assumption)); k_whole)) | ((with_reducible show wpAny _ _ (call (Value.type _) _) _ _ _); (k_here; (with_reducible show wpAny _ _ (call (Value.type _) [Value.ref _]) _ _ _); k_dflt (refine' kde_tupleOf ?zzk1 ?zzk2 ?zzk3 ?zzk4 ?zzk5 ?_; (case zzk1 => k_asm); (case zzk2 => k_asm); (case zzk3 => exact News.isList (by k_asm) (by k_mem)); (case zzk4 => (rw [List.size_toArray, List.length_map]; exact Nat.le_trans (by assumption : _ ≤ 3) (by decide))); (case zzk5 => exact List.toList_toArray ..); k_whole); intro D' h' F' N' l1; (try k_lt l1); (try k_sweep))) | ((with_reducible show wpAny _ _ (call (Value.ref _) _) _ _ _); (k_here; (k_dflt (refine' gdef_use ?zzk1 ?zzk2 ?zzk3 ?zzk4 ?zzk5 ?zzk6 ?zzk14 ?zzk15 ?_; (case zzk1 => k_asm); (case zzk2 => k_asm); (case zzk3 => k_asm); (case zzk4 => k_asm); (case zzk5 => k_asm); (case zzk6 => first | exact rfl | assumption); (case zzk14 => ktr_room); (case zzk15 => ktr_units); k_whole)); intro x9 dx9 d9 a1 a2 a3 a4 o9 t1 t2 t3 t4 t5 h9 tk9 F9 N9 lo9 lx9 ld9 ds9 i9; (try dsimp only); (try k_fold); (try k_sweep))) | ((with_reducible show wpAny _ _ (compareOp .NotEq (Value.ref _) (Value.ref _)) _ _ _); (k_here; first | (k_dflt (refine' ne_words ?zzN ?zza ?zzb ?zzsa ?zzsb ?zzp0 ?zzp1 ?zzp2 ?zzp3 ?zzhu ?_; (case zzN => k_asm); (case zza => k_mem); (case zzb => k_mem); (case zzsa => assumption); (case zzsb => assumption); (case zzp0 => assumption); (case zzp1 => assumption); (case zzp2 => assumption); (case zzp3 => assumption); (case zzhu => ktr_units)); (try dsimp only); (try k_fold)) | (k_dflt (refine' ne_pair ?zzN ?zza ?zzb ?zze1 ?zze2 ?zzhu ?_; (case zzN => k_asm); (case zza => k_mem); (case zzb => k_mem); (case zze1 => (first | exact pair_a (by assumption) (by assumption) | exact pair_b (by assumption) (by assumption) | exact pair_c (by assumption) (by assumption) (by assumption) | exact pair_d (by assumption) (by assumption) (by assumption))); (case zze2 => (first | exact pair_a (by assumption) (by assumption) | exact pair_b (by assumption) (by assumption) | exact pair_c (by assumption) (by assumption) (by assumption) | exact pair_d (by assumption) (by assumption) (by assumption))); (case zzhu => ktr_units)); (try dsimp only); (try k_fold)))) | ((with_reducible show wpAny _ _ (call (Value.type _) _) _ _ _); (k_here; (with_reducible show wpAny _ _ (call (Value.type _) [Value.ref _]) _ _ _); k_dflt (refine' kup_listOfT ?zzF ?zzN ?zzb ?zze ?_ ?zzz; (case zzF => k_asm); (case zzN => k_asm); (case zzb => k_mem); (case zze => exact List.toList_toArray ..); (case zzz => exact strs_size (by assumption))); intro D' c' h' F' N' l1; (try k_lt l1); (try k_sweep))) | ((with_reducible show wpAny _ _ (call (Value.ref _) _) _ _ _); (k_here; first | (k_dflt (refine' draw_use ?zzk1 ?zzk2 ?zzk3 ?zzk4 ?zzk5 ?zzk6 ?zzkD ?zzkc ?zzk7 ?zzk8 ?zzk9 ?zzk10 ?zzk11 ?zzk12 ?zzk13 ?zzk14 ?zzk15 ?_; (case zzk1 => k_asm); (case zzk2 => k_asm); (case zzk3 => k_asm); (case zzk4 => k_asm); (case zzk5 => k_asm); (case zzk6 => first | exact rfl | assumption); (case zzkD => (first | exact Del.head (by repeat' (first | exact List.forall_mem_nil _ | exact OwnOff.ne (by assumption) (by simp) | refine List.forall_mem_cons.mpr ⟨by k_ne, ?_⟩)) | exact Del.tail (by k_ne) (by first | exact Del.head (by repeat' (first | exact List.forall_mem_nil _ | exact OwnOff.ne (by assumption) (by simp) | refine List.forall_mem_cons.mpr ⟨by k_ne, ?_⟩)) | exact Del.tail (by k_ne) (by first | exact Del.head (by repeat' (first | exact List.forall_mem_nil _ | exact OwnOff.ne (by assumption) (by simp) | refine List.forall_mem_cons.mpr ⟨by k_ne, ?_⟩)) | exact Del.tail (by k_ne) (by first | exact Del.head (by repeat' (first | exact List.forall_mem_nil _ | exact OwnOff.ne (by assumption) (by simp) | refine List.forall_mem_cons.mpr ⟨by k_ne, ?_⟩)) | exact Del.tail (by k_ne) (by first | exact Del.head (by repeat' (first | exact List.forall_mem_nil _ | exact OwnOff.ne (by assumption) (by simp) | refine List.forall_mem_cons.mpr ⟨by k_ne, ?_⟩)) | exact Del.tail (by k_ne) (by first | exact Del.head (by repeat' (first | exact List.forall_mem_nil _ | exact OwnOff.ne (by assumption) (by simp) | refine List.forall_mem_cons.mpr ⟨by k_ne, ?_⟩)) | exact Del.tail (by k_ne) (by first | exact Del.head (by repeat' (first | exact List.forall_mem_nil _ | exact OwnOff.ne (by assumption) (by simp) | refine List.forall_mem_cons.mpr ⟨by k_ne, ?_⟩)) | exact Del.tail (by k_ne) (by first | exact Del.head (by repeat' (first | exact List.forall_mem_nil _ | exact OwnOff.ne (by assumption) (by simp) | refine List.forall_mem_cons.mpr ⟨by k_ne, ?_⟩)) | exact Del.tail (by k_ne) (by first | exact Del.head (by repeat' (first | exact List.forall_mem_nil _ | exact OwnOff.ne (by assumption) (by simp) | refine List.forall_mem_cons.mpr ⟨by k_ne, ?_⟩)) | exact Del.tail (by k_ne) (by exact Del.head (by repeat' (first | exact List.forall_mem_nil _ | exact OwnOff.ne (by assumption) (by simp) | refine List.forall_mem_cons.mpr ⟨by k_ne, ?_⟩))))))))))))); (case zzkc => k_mem); (case zzk7 => omega); (case zzk8 => assumption); (case zzk9 => assumption); (case zzk10 => assumption); (case zzk11 => omega); (case zzk12 => omega); (case zzk13 => decide); (case zzk14 => ktr_room); (case zzk15 => ktr_units); k_whole); intro r9 t9 t8 h9 tk9 n9 r0 r1 F9 N9; (try dsimp only); (try k_fold); (try k_sweep)) | (k_dflt (refine' words_use ?zzk1 ?zzk2 ?zzk3 ?zzk4 ?zzk5 ?zzk6 ?zzk7 ?zzk8 ?zzk9 ?zzk10 ?zzk14 ?zzk15 ?_; (case zzk1 => k_asm); (case zzk2 => k_asm); (case zzk3 => k_asm); (case zzk4 => k_asm); (case zzk5 => k_asm); (case zzk6 => first | exact rfl | assumption); (case zzk7 => assumption); (case zzk8 => assumption); (case zzk9 => assumption); (case zzk10 => assumption); (case zzk14 => ktr_room); (case zzk15 => ktr_units); k_whole); intro vs9 h9 tk9 n9 D9 S9 F9 N9 lo9; (try k_lt lo9); (try dsimp only); (try k_fold); (try k_sweep)) | (k_dflt (refine' lw_use ?zzk1 ?zzk2 ?zzk3 ?zzk4 ?zzk5 ?zzk6 ?zzk7 ?zzk8 ?zzk9 ?zzk10 ?zzk14 ?zzk15 ?_; (case zzk1 => k_asm); (case zzk2 => k_asm); (case zzk3 => k_asm); (case zzk4 => k_asm); (case zzk5 => k_asm); (case zzk6 => first | exact rfl | assumption); (case zzk7 => assumption); (case zzk8 => assumption); (case zzk9 => assumption); (case zzk10 => assumption); (case zzk14 => ktr_room); (case zzk15 => ktr_units); k_whole); intro vs9 h9 tk9 n9 D9 S9 F9 N9 lo9; (try k_lt lo9); (try dsimp only); (try k_fold); (try k_sweep)) | (k_dflt (refine' flag_use ?zzk1 ?zzk2 ?zzk3 ?zzk4 ?zzk5 ?zzk6 ?zzkl ?zzkO ?zzkS ?zzkh ?zzk14 ?zzk15 ?_; (case zzk1 => k_asm); (case zzk2 => k_asm); (case zzk3 => k_asm); (case zzk4 => k_asm); (case zzk5 => k_asm); (case zzk6 => first | exact rfl | assumption); (case zzkl => k_mem); (case zzkO => (first | exact ⟨_, .inl rfl⟩ | exact ⟨_, .inr rfl⟩)); (case zzkS => first | assumption | exact strs_rev (by assumption)); (case zzkh => first | assumption | exact ok_of_txt (by assumption)); (case zzk14 => ktr_room); (case zzk15 => ktr_units); k_whole); intro v1 v2 t9 t8 h9 tk9 n9 D9 e9 F9 N9 lo9; (try k_lt lo9); (try dsimp only); (try k_fold); (try k_sweep)) | (k_dflt (refine' read_use ?zzk1 ?zzk2 ?zzk3 ?zzk4 ?zzk5 ?zzk6 ?zzkl ?zzkh ?zzk14 ?zzk15 ?_; (case zzk1 => k_asm); (case zzk2 => k_asm); (case zzk3 => k_asm); (case zzk4 => k_asm); (case zzk5 => k_asm); (case zzk6 => first | exact rfl | assumption); (case zzkl => k_mem); (case zzkh => assumption); (case zzk14 => ktr_room); (case zzk15 => ktr_units); k_whole); intro v1 v2 t9 t8 h9 tk9 n9 D9 e9 F9 N9 lo9; (try k_lt lo9); (try dsimp only); (try k_fold); (try k_sweep)))) | ((fail_if_success (with_reducible show wpAny _ _ (subscriptTail _ _ _ _) _ _ _)); (first | walk1 | (dsimp only; walk1) | (leave1; (try dsimp only)))) | fail "no step")
          k_dflt (refine' ent_zero ?j1 ?j2 ?_ ?j5; (case j1 => k_asm); (case j2 => exact hee); (case j5 => with_unfolding_all rfl))
          obtain ⟨ea', ekd, ez, etk, etz, en'⟩ := e
          rcases hcs _ hem with rfl | rfl
          · (try dsimp only)
            repeat' (first | (k_unfold; (try dsimp only)) | ((with_reducible show wpAny _ _ (call (Value.builtin "len") _) _ _ _); (k_here; (with_reducible show wpAny _ _ (call (Value.builtin "len") [Value.ref _]) _ _ _); k_dflt (refine' len_kl ?zzj1 ?zzj2 ?zzj3 ?_; (case zzj1 => k_asm); (case zzj2 => k_mem); (case zzj3 => assumption)); k_whole)) | ((with_reducible show wpAny _ _ (call (Value.type _) _) _ _ _); (k_here; (with_reducible show wpAny _ _ (call (Value.type _) [Value.ref _]) _ _ _); k_dflt (refine' kde_tupleOf ?zzk1 ?zzk2 ?zzk3 ?zzk4 ?zzk5 ?_; (case zzk1 => k_asm); (case zzk2 => k_asm); (case zzk3 => exact News.isList (by k_asm) (by k_mem)); (case zzk4 => (rw [List.size_toArray, List.length_map]; exact Nat.le_trans (by assumption : _ ≤ 3) (by decide))); (case zzk5 => exact List.toList_toArray ..); k_whole); intro D' h' F' N' l1; (try k_lt l1); (try k_sweep))) | ((with_reducible show wpAny _ _ (call (Value.ref _) _) _ _ _); (k_here; (k_dflt (refine' gdef_use ?zzk1 ?zzk2 ?zzk3 ?zzk4 ?zzk5 ?zzk6 ?zzk14 ?zzk15 ?_; (case zzk1 => k_asm); (case zzk2 => k_asm); (case zzk3 => k_asm); (case zzk4 => k_asm); (case zzk5 => k_asm); (case zzk6 => first | exact rfl | assumption); (case zzk14 => ktr_room); (case zzk15 => ktr_units); k_whole)); intro x9 dx9 d9 a1 a2 a3 a4 o9 t1 t2 t3 t4 t5 h9 tk9 F9 N9 lo9 lx9 ld9 ds9 i9; (try dsimp only); (try k_fold); (try k_sweep))) | ((with_reducible show wpAny _ _ (compareOp .NotEq (Value.ref _) (Value.ref _)) _ _ _); (k_here; first | (k_dflt (refine' ne_words ?zzN ?zza ?zzb ?zzsa ?zzsb ?zzp0 ?zzp1 ?zzp2 ?zzp3 ?zzhu ?_; (case zzN => k_asm); (case zza => k_mem); (case zzb => k_mem); (case zzsa => assumption); (case zzsb => assumption); (case zzp0 => assumption); (case zzp1 => assumption); (case zzp2 => assumption); (case zzp3 => assumption); (case zzhu => ktr_units)); (try dsimp only); (try k_fold)) | (k_dflt (refine' ne_pair ?zzN ?zza ?zzb ?zze1 ?zze2 ?zzhu ?_; (case zzN => k_asm); (case zza => k_mem); (case zzb => k_mem); (case zze1 => (first | exact pair_a (by assumption) (by assumption) | exact pair_b (by assumption) (by assumption) | exact pair_c (by assumption) (by assumption) (by assumption) | exact pair_d (by assumption) (by assumption) (by assumption))); (case zze2 => (first | exact pair_a (by assumption) (by assumption) | exact pair_b (by assumption) (by assumption) | exact pair_c (by assumption) (by assumption) (by assumption) | exact pair_d (by assumption) (by assumption) (by assumption))); (case zzhu => ktr_units)); (try dsimp only); (try k_fold)))) | ((with_reducible show wpAny _ _ (call (Value.type _) _) _ _ _); (k_here; (with_reducible show wpAny _ _ (call (Value.type _) [Value.ref _]) _ _ _); k_dflt (refine' kup_listOfT ?zzF ?zzN ?zzb ?zze ?_ ?zzz; (case zzF => k_asm); (case zzN => k_asm); (case zzb => k_mem); (case zze => exact List.toList_toArray ..); (case zzz => exact strs_size (by assumption))); intro D' c' h' F' N' l1; (try k_lt l1); (try k_sweep))) | ((with_reducible show wpAny _ _ (call (Value.ref _) _) _ _ _); (k_here; first | (k_dflt (refine' draw_use ?zzk1 ?zzk2 ?zzk3 ?zzk4 ?zzk5 ?zzk6 ?zzkD ?zzkc ?zzk7 ?zzk8 ?zzk9 ?zzk10 ?zzk11 ?zzk12 ?zzk13 ?zzk14 ?zzk15 ?_; (case zzk1 => k_asm); (case zzk2 => k_asm); (case zzk3 => k_asm); (case zzk4 => k_asm); (case zzk5 => k_asm); (case zzk6 => first | exact rfl | assumption); (case zzkD => (first | exact Del.head (by repeat' (first | exact List.forall_mem_nil _ | exact OwnOff.ne (by assumption) (by simp) | refine List.forall_mem_cons.mpr ⟨by k_ne, ?_⟩)) | exact Del.tail (by k_ne) (by first | exact Del.head (by repeat' (first | exact List.forall_mem_nil _ | exact OwnOff.ne (by assumption) (by simp) | refine List.forall_mem_cons.mpr ⟨by k_ne, ?_⟩)) | exact Del.tail (by k_ne) (by first | exact Del.head (by repeat' (first | exact List.forall_mem_nil _ | exact OwnOff.ne (by assumption) (by simp) | refine List.forall_mem_cons.mpr ⟨by k_ne, ?_⟩)) | exact Del.tail (by k_ne) (by first | exact Del.head (by repeat' (first | exact List.forall_mem_nil _ | exact OwnOff.ne (by assumption) (by simp) | refine List.forall_mem_cons.mpr ⟨by k_ne, ?_⟩)) | exact Del.tail (by k_ne) (by first | exact Del.head (by repeat' (first | exact List.forall_mem_nil _ | exact OwnOff.ne (by assumption) (by simp) | refine List.forall_mem_cons.mpr ⟨by k_ne, ?_⟩)) | exact Del.tail (by k_ne) (by first | exact Del.head (by repeat' (first | exact List.forall_mem_nil _ | exact OwnOff.ne (by assumption) (by simp) | refine List.forall_mem_cons.mpr ⟨by k_ne, ?_⟩)) | exact Del.tail (by k_ne) (by first | exact Del.head (by repeat' (first | exact List.forall_mem_nil _ | exact OwnOff.ne (by assumption) (by simp) | refine List.forall_mem_cons.mpr ⟨by k_ne, ?_⟩)) | exact Del.tail (by k_ne) (by first | exact Del.head (by repeat' (first | exact List.forall_mem_nil _ | exact OwnOff.ne (by assumption) (by simp) | refine List.forall_mem_cons.mpr ⟨by k_ne, ?_⟩)) | exact Del.tail (by k_ne) (by first | exact Del.head (by repeat' (first | exact List.forall_mem_nil _ | exact OwnOff.ne (by assumption) (by simp) | refine List.forall_mem_cons.mpr ⟨by k_ne, ?_⟩)) | exact Del.tail (by k_ne) (by exact Del.head (by repeat' (first | exact List.forall_mem_nil _ | exact OwnOff.ne (by assumption) (by simp) | refine List.forall_mem_cons.mpr ⟨by k_ne, ?_⟩))))))))))))); (case zzkc => k_mem); (case zzk7 => omega); (case zzk8 => assumption); (case zzk9 => assumption); (case zzk10 => assumption); (case zzk11 => omega); (case zzk12 => omega); (case zzk13 => decide); (case zzk14 => ktr_room); (case zzk15 => ktr_units); k_whole); intro r9 t9 t8 h9 tk9 n9 r0 r1 F9 N9; (try dsimp only); (try k_fold); (try k_sweep)) | (k_dflt (refine' words_use ?zzk1 ?zzk2 ?zzk3 ?zzk4 ?zzk5 ?zzk6 ?zzk7 ?zzk8 ?zzk9 ?zzk10 ?zzk14 ?zzk15 ?_; (case zzk1 => k_asm); (case zzk2 => k_asm); (case zzk3 => k_asm); (case zzk4 => k_asm); (case zzk5 => k_asm); (case zzk6 => first | exact rfl | assumption); (case zzk7 => assumption); (case zzk8 => assumption); (case zzk9 => assumption); (case zzk10 => assumption); (case zzk14 => ktr_room); (case zzk15 => ktr_units); k_whole); intro vs9 h9 tk9 n9 D9 S9 F9 N9 lo9; (try k_lt lo9); (try dsimp only); (try k_fold); (try k_sweep)) | (k_dflt (refine' lw_use ?zzk1 ?zzk2 ?zzk3 ?zzk4 ?zzk5 ?zzk6 ?zzk7 ?zzk8 ?zzk9 ?zzk10 ?zzk14 ?zzk15 ?_; (case zzk1 => k_asm); (case zzk2 => k_asm); (case zzk3 => k_asm); (case zzk4 => k_asm); (case zzk5 => k_asm); (case zzk6 => first | exact rfl | assumption); (case zzk7 => assumption); (case zzk8 => assumption); (case zzk9 => assumption); (case zzk10 => assumption); (case zzk14 => ktr_room); (case zzk15 => ktr_units); k_whole); intro vs9 h9 tk9 n9 D9 S9 F9 N9 lo9; (try k_lt lo9); (try dsimp only); (try k_fold); (try k_sweep)) | (k_dflt (refine' flag_use ?zzk1 ?zzk2 ?zzk3 ?zzk4 ?zzk5 ?zzk6 ?zzkl ?zzkO ?zzkS ?zzkh ?zzk14 ?zzk15 ?_; (case zzk1 => k_asm); (case zzk2 => k_asm); (case zzk3 => k_asm); (case zzk4 => k_asm); (case zzk5 => k_asm); (case zzk6 => first | exact rfl | assumption); (case zzkl => k_mem); (case zzkO => (first | exact ⟨_, .inl rfl⟩ | exact ⟨_, .inr rfl⟩)); (case zzkS => first | assumption | exact strs_rev (by assumption)); (case zzkh => first | assumption | exact ok_of_txt (by assumption)); (case zzk14 => ktr_room); (case zzk15 => ktr_units); k_whole); intro v1 v2 t9 t8 h9 tk9 n9 D9 e9 F9 N9 lo9; (try k_lt lo9); (try dsimp only); (try k_fold); (try k_sweep)) | (k_dflt (refine' read_use ?zzk1 ?zzk2 ?zzk3 ?zzk4 ?zzk5 ?zzk6 ?zzkl ?zzkh ?zzk14 ?zzk15 ?_; (case zzk1 => k_asm); (case zzk2 => k_asm); (case zzk3 => k_asm); (case zzk4 => k_asm); (case zzk5 => k_asm); (case zzk6 => first | exact rfl | assumption); (case zzkl => k_mem); (case zzkh => assumption); (case zzk14 => ktr_room); (case zzk15 => ktr_units); k_whole); intro v1 v2 t9 t8 h9 tk9 n9 D9 e9 F9 N9 lo9; (try k_lt lo9); (try dsimp only); (try k_fold); (try k_sweep)))) | walk1 | (dsimp only; walk1) | (leave1; (try dsimp only)) | fail "no step")
            exact elt_skip ys (by assumption) (by assumption) (by (try dsimp only); kst_inAny) off (.inr ⟨_, by k_mem, rfl, _, rfl⟩) rfl (pt_off he (show Str.ofString "at" ≠ Str.ofString "point" by decide) hok)
          · (try dsimp only)
            repeat' (first | (k_unfold; (try dsimp only)) | ((with_reducible show wpAny _ _ (call (Value.builtin "len") _) _ _ _); (k_here; (with_reducible show wpAny _ _ (call (Value.builtin "len") [Value.ref _]) _ _ _); k_dflt (refine' len_kl ?zzj1 ?zzj2 ?zzj3 ?_; (case zzj1 => k_asm); (case zzj2 => k_mem); (case zzj3 => assumption)); k_whole)) | ((with_reducible show wpAny _ _ (call (Value.type _) _) _ _ _); (k_here; (with_reducible show wpAny _ _ (call (Value.type _) [Value.ref _]) _ _ _); k_dflt (refine' kde_tupleOf ?zzk1 ?zzk2 ?zzk3 ?zzk4 ?zzk5 ?_; (case zzk1 => k_asm); (case zzk2 => k_asm); (case zzk3 => exact News.isList (by k_asm) (by k_mem)); (case zzk4 => (rw [List.size_toArray, List.length_map]; exact Nat.le_trans (by assumption : _ ≤ 3) (by decide))); (case zzk5 => exact List.toList_toArray ..); k_whole); intro D' h' F' N' l1; (try k_lt l1); (try k_sweep))) | ((with_reducible show wpAny _ _ (call (Value.ref _) _) _ _ _); (k_here; (k_dflt (refine' gdef_use ?zzk1 ?zzk2 ?zzk3 ?zzk4 ?zzk5 ?zzk6 ?zzk14 ?zzk15 ?_; (case zzk1 => k_asm); (case zzk2 => k_asm); (case zzk3 => k_asm); (case zzk4 => k_asm); (case zzk5 => k_asm); (case zzk6 => first | exact rfl | assumption); (case zzk14 => ktr_room); (case zzk15 => ktr_units); k_whole)); intro x9 dx9 d9 a1 a2 a3 a4 o9 t1 t2 t3 t4 t5 h9 tk9 F9 N9 lo9 lx9 ld9 ds9 i9; (try dsimp only); (try k_fold); (try k_sweep))) | ((with_reducible show wpAny _ _ (compareOp .NotEq (Value.ref _) (Value.ref _)) _ _ _); (k_here; first | (k_dflt (refine' ne_words ?zzN ?zza ?zzb ?zzsa ?zzsb ?zzp0 ?zzp1 ?zzp2 ?zzp3 ?zzhu ?_; (case zzN => k_asm); (case zza => k_mem); (case zzb => k_mem); (case zzsa => assumption); (case zzsb => assumption); (case zzp0 => assumption); (case zzp1 => assumption); (case zzp2 => assumption); (case zzp3 => assumption); (case zzhu => ktr_units)); (try dsimp only); (try k_fold)) | (k_dflt (refine' ne_pair ?zzN ?zza ?zzb ?zze1 ?zze2 ?zzhu ?_; (case zzN => k_asm); (case zza => k_mem); (case zzb => k_mem); (case zze1 => (first | exact pair_a (by assumption) (by assumption) | exact pair_b (by assumption) (by assumption) | exact pair_c (by assumption) (by assumption) (by assumption) | exact pair_d (by assumption) (by assumption) (by assumption))); (case zze2 => (first | exact pair_a (by assumption) (by assumption) | exact pair_b (by assumption) (by assumption) | exact pair_c (by assumption) (by assumption) (by assumption) | exact pair_d (by assumption) (by assumption) (by assumption))); (case zzhu => ktr_units)); (try dsimp only); (try k_fold)))) | ((with_reducible show wpAny _ _ (call (Value.type _) _) _ _ _); (k_here; (with_reducible show wpAny _ _ (call (Value.type _) [Value.ref _]) _ _ _); k_dflt (refine' kup_listOfT ?zzF ?zzN ?zzb ?zze ?_ ?zzz; (case zzF => k_asm); (case zzN => k_asm); (case zzb => k_mem); (case zze => exact List.toList_toArray ..); (case zzz => exact strs_size (by assumption))); intro D' c' h' F' N' l1; (try k_lt l1); (try k_sweep))) | ((with_reducible show wpAny _ _ (call (Value.ref _) _) _ _ _); (k_here; first | (k_dflt (refine' draw_use ?zzk1 ?zzk2 ?zzk3 ?zzk4 ?zzk5 ?zzk6 ?zzkD ?zzkc ?zzk7 ?zzk8 ?zzk9 ?zzk10 ?zzk11 ?zzk12 ?zzk13 ?zzk14 ?zzk15 ?_; (case zzk1 => k_asm); (case zzk2 => k_asm); (case zzk3 => k_asm); (case zzk4 => k_asm); (case zzk5 => k_asm); (case zzk6 => first | exact rfl | assumption); (case zzkD => (first | exact Del.head (by repeat' (first | exact List.forall_mem_nil _ | exact OwnOff.ne (by assumption) (by simp) | refine List.forall_mem_cons.mpr ⟨by k_ne, ?_⟩)) | exact Del.tail (by k_ne) (by first | exact Del.head (by repeat' (first | exact List.forall_mem_nil _ | exact OwnOff.ne (by assumption) (by simp) | refine List.forall_mem_cons.mpr ⟨by k_ne, ?_⟩)) | exact Del.tail (by k_ne) (by first | exact Del.head (by repeat' (first | exact List.forall_mem_nil _ | exact OwnOff.ne (by assumption) (by simp) | refine List.forall_mem_cons.mpr ⟨by k_ne, ?_⟩)) | exact Del.tail (by k_ne) (by first | exact Del.head (by repeat' (first | exact List.forall_mem_nil _ | exact OwnOff.ne (by assumption) (by simp) | refine List.forall_mem_cons.mpr ⟨by k_ne, ?_⟩)) | exact Del.tail (by k_ne) (by first | exact Del.head (by repeat' (first | exact List.forall_mem_nil _ | exact OwnOff.ne (by assumption) (by simp) | refine List.forall_mem_cons.mpr ⟨by k_ne, ?_⟩)) | exact Del.tail (by k_ne) (by first | exact Del.head (by repeat' (first | exact List.forall_mem_nil _ | exact OwnOff.ne (by assumption) (by simp) | refine List.forall_mem_cons.mpr ⟨by k_ne, ?_⟩)) | exact Del.tail (by k_ne) (by first | exact Del.head (by repeat' (first | exact List.forall_mem_nil _ | exact OwnOff.ne (by assumption) (by simp) | refine List.forall_mem_cons.mpr ⟨by k_ne, ?_⟩)) | exact Del.tail (by k_ne) (by first | exact Del.head (by repeat' (first | exact List.forall_mem_nil _ | exact OwnOff.ne (by assumption) (by simp) | refine List.forall_mem_cons.mpr ⟨by k_ne, ?_⟩)) | exact Del.tail (by k_ne) (by first | exact Del.head (by repeat' (first | exact List.forall_mem_nil _ | exact OwnOff.ne (by assumption) (by simp) | refine List.forall_mem_cons.mpr ⟨by k_ne, ?_⟩)) | exact Del.tail (by k_ne) (by exact Del.head (by repeat' (first | exact List.forall_mem_nil _ | exact OwnOff.ne (by assumption) (by simp) | refine List.forall_mem_cons.mpr ⟨by k_ne, ?_⟩))))))))))))); (case zzkc => k_mem); (case zzk7 => omega); (case zzk8 => assumption); (case zzk9 => assumption); (case zzk10 => assumption); (case zzk11 => omega); (case zzk12 => omega); (case zzk13 => decide); (case zzk14 => ktr_room); (case zzk15 => ktr_units); k_whole); intro r9 t9 t8 h9 tk9 n9 r0 r1 F9 N9; (try dsimp only); (try k_fold); (try k_sweep)) | (k_dflt (refine' words_use ?zzk1 ?zzk2 ?zzk3 ?zzk4 ?zzk5 ?zzk6 ?zzk7 ?zzk8 ?zzk9 ?zzk10 ?zzk14 ?zzk15 ?_; (case zzk1 => k_asm); (case zzk2 => k_asm); (case zzk3 => k_asm); (case zzk4 => k_asm); (case zzk5 => k_asm); (case zzk6 => first | exact rfl | assumption); (case zzk7 => assumption); (case zzk8 => assumption); (case zzk9 => assumption); (case zzk10 => assumption); (case zzk14 => ktr_room); (case zzk15 => ktr_units); k_whole); intro vs9 h9 tk9 n9 D9 S9 F9 N9 lo9; (try k_lt lo9); (try dsimp only); (try k_fold); (try k_sweep)) | (k_dflt (refine' lw_use ?zzk1 ?zzk2 ?zzk3 ?zzk4 ?zzk5 ?zzk6 ?zzk7 ?zzk8 ?zzk9 ?zzk10 ?zzk14 ?zzk15 ?_; (case zzk1 => k_asm); (case zzk2 => k_asm); (case zzk3 => k_asm); (case zzk4 => k_asm); (case zzk5 => k_asm); (case zzk6 => first | exact rfl | assumption); (case zzk7 => assumption); (case zzk8 => assumption); (case zzk9 => assumption); (case zzk10 => assumption); (case zzk14 => ktr_room); (case zzk15 => ktr_units); k_whole); intro vs9 h9 tk9 n9 D9 S9 F9 N9 lo9; (try k_lt lo9); (try dsimp only); (try k_fold); (try k_sweep)) | (k_dflt (refine' flag_use ?zzk1 ?zzk2 ?zzk3 ?zzk4 ?zzk5 ?zzk6 ?zzkl ?zzkO ?zzkS ?zzkh ?zzk14 ?zzk15 ?_; (case zzk1 => k_asm); (case zzk2 => k_asm); (case zzk3 => k_asm); (case zzk4 => k_asm); (case zzk5 => k_asm); (case zzk6 => first | exact rfl | assumption); (case zzkl => k_mem); (case zzkO => (first | exact ⟨_, .inl rfl⟩ | exact ⟨_, .inr rfl⟩)); (case zzkS => first | assumption | exact strs_rev (by assumption)); (case zzkh => first | assumption | exact ok_of_txt (by assumption)); (case zzk14 => ktr_room); (case zzk15 => ktr_units); k_whole); intro v1 v2 t9 t8 h9 tk9 n9 D9 e9 F9 N9 lo9; (try k_lt lo9); (try dsimp only); (try k_fold); (try k_sweep)) | (k_dflt (refine' read_use ?zzk1 ?zzk2 ?zzk3 ?zzk4 ?zzk5 ?zzk6 ?zzkl ?zzkh ?zzk14 ?zzk15 ?_; (case zzk1 => k_asm); (case zzk2 => k_asm); (case zzk3 => k_asm); (case zzk4 => k_asm); (case zzk5 => k_asm); (case zzk6 => first | exact rfl | assumption); (case zzkl => k_mem); (case zzkh => assumption); (case zzk14 => ktr_room); (case zzk15 => ktr_units); k_whole); intro v1 v2 t9 t8 h9 tk9 n9 D9 e9 F9 N9 lo9; (try k_lt lo9); (try dsimp only); (try k_fold); (try k_sweep)))) | walk1 | (dsimp only; walk1) | (leave1; (try dsimp only)) | fail "no step")
            exact elt_end (ys ++ [_]) (by assumption) (by assumption) (by (try dsimp only); kst_inAny) off (.inr ⟨_, by k_mem, rfl, _, rfl⟩) rfl (pt_on he rfl hok)
        case fin =>
          intro ys hys
          unfold LCg.FinE
          intro D9 h9 tk9 F9 N9 o9
          have hall : (cs.take (cs.map CE.ref).toArray.size) = cs := by rw [List.size_toArray, List.length_map, List.take_length]
          rw [hall] at hys
          subst hys
          have N9' : News s1.heap s1.heap.objs.size h9 ((D9, listOf ((ptsOf cs).map CE.ref).toArray ((ptsOf cs).map CE.ref).length) :: (sa, listOf ss.toArray sc) :: (ra, tupO (cs.map CE.ref).toArray rn) :: (ea, listOf es.toArray en) :: (d, oD) :: (x, instObj 144 dx) :: (dx, gDict w0 a1 a2 a3 a4 d t1 t2 t3 t4 t5) :: (l, listOf (cs.map CE.ref).toArray nl) :: (s1.heap.objs.size + 1 + 1, oW) :: (s1.heap.objs.size + 1 + 1 + 1, oP) :: rest) := N9
          clear N9
          dsimp only at o9 ⊢
          repeat' (first | (k_unfold; (try dsimp only)) | ((with_reducible show wpAny _ _ (call (Value.builtin "len") _) _ _ _); (k_here; (with_reducible show wpAny _ _ (call (Value.builtin "len") [Value.ref _]) _ _ _); k_dflt (refine' len_kl ?zzj1 ?zzj2 ?zzj3 ?_; (case zzj1 => k_asm); (case zzj2 => k_mem); (case zzj3 => assumption)); k_whole)) | ((with_reducible show wpAny _ _ (call (Value.type _) _) _ _ _); (k_here; (with_reducible show wpAny _ _ (call (Value.type _) [Value.ref _]) _ _ _); k_dflt (refine' kde_tupleOf ?zzk1 ?zzk2 ?zzk3 ?zzk4 ?zzk5 ?_; (case zzk1 => k_asm); (case zzk2 => k_asm); (case zzk3 => exact News.isList (by k_asm) (by k_mem)); (case zzk4 => (rw [List.size_toArray, List.length_map]; exact Nat.le_trans (by assumption : _ ≤ 3) (by decide))); (case zzk5 => exact List.toList_toArray ..); k_whole); intro D' h' F' N' l1; (try k_lt l1); (try k_sweep))) | ((with_reducible show wpAny _ _ (call (Value.ref _) _) _ _ _); (k_here; (k_dflt (refine' gdef_use ?zzk1 ?zzk2 ?zzk3 ?zzk4 ?zzk5 ?zzk6 ?zzk14 ?zzk15 ?_; (case zzk1 => k_asm); (case zzk2 => k_asm); (case zzk3 => k_asm); (case zzk4 => k_asm); (case zzk5 => k_asm); (case zzk6 => first | exact rfl | assumption); (case zzk14 => ktr_room); (case zzk15 => ktr_units); k_whole)); intro x9 dx9 d9 a1 a2 a3 a4 o9 t1 t2 t3 t4 t5 h9 tk9 F9 N9 lo9 lx9 ld9 ds9 i9; (try dsimp only); (try k_fold); (try k_sweep))) | ((with_reducible show wpAny _ _ (compareOp .NotEq (Value.ref _) (Value.ref _)) _ _ _); (k_here; first | (k_dflt (refine' ne_words ?zzN ?zza ?zzb ?zzsa ?zzsb ?zzp0 ?zzp1 ?zzp2 ?zzp3 ?zzhu ?_; (case zzN => k_asm); (case zza => k_mem); (case zzb => k_mem); (case zzsa => assumption); (case zzsb => assumption); (case zzp0 => assumption); (case zzp1 => assumption); (case zzp2 => assumption); (case zzp3 => assumption); (case zzhu => ktr_units)); (try dsimp only); (try k_fold)) | (k_dflt (refine' ne_pair ?zzN ?zza ?zzb ?zze1 ?zze2 ?zzhu ?_; (case zzN => k_asm); (case zza => k_mem); (case zzb => k_mem); (case zze1 => (first | exact pair_a (by assumption) (by assumption) | exact pair_b (by assumption) (by assumption) | exact pair_c (by assumption) (by assumption) (by assumption) | exact pair_d (by assumption) (by assumption) (by assumption))); (case zze2 => (first | exact pair_a (by assumption) (by assumption) | exact pair_b (by assumption) (by assumption) | exact pair_c (by assumption) (by assumption) (by assumption) | exact pair_d (by assumption) (by assumption) (by assumption))); (case zzhu => ktr_units)); (try dsimp only); (try k_fold)))) | ((with_reducible show wpAny _ _ (call (Value.type _) _) _ _ _); (k_here; (with_reducible show wpAny _ _ (call (Value.type _) [Value.ref _]) _ _ _); k_dflt (refine' kup_listOfT ?zzF ?zzN ?zzb ?zze ?_ ?zzz; (case zzF => k_asm); (case zzN => k_asm); (case zzb => k_mem); (case zze => exact List.toList_toArray ..); (case zzz => exact strs_size (by assumption))); intro D' c' h' F' N' l1; (try k_lt l1); (try k_sweep))) | ((with_reducible show wpAny _ _ (call (Value.ref _) _) _ _ _); (k_here; first | (k_dflt (refine' draw_use ?zzk1 ?zzk2 ?zzk3 ?zzk4 ?zzk5 ?zzk6 ?zzkD ?zzkc ?zzk7 ?zzk8 ?zzk9 ?zzk10 ?zzk11 ?zzk12 ?zzk13 ?zzk14 ?zzk15 ?_; (case zzk1 => k_asm); (case zzk2 => k_asm); (case zzk3 => k_asm); (case zzk4 => k_asm); (case zzk5 => k_asm); (case zzk6 => first | exact rfl | assumption); (case zzkD => (first | exact Del.head (by repeat' (first | exact List.forall_mem_nil _ | exact OwnOff.ne (by assumption) (by simp) | refine List.forall_mem_cons.mpr ⟨by k_ne, ?_⟩)) | exact Del.tail (by k_ne) (by first | exact Del.head (by repeat' (first | exact List.forall_mem_nil _ | exact OwnOff.ne (by assumption) (by simp) | refine List.forall_mem_cons.mpr ⟨by k_ne, ?_⟩)) | exact Del.tail (by k_ne) (by first | exact Del.head (by repeat' (first | exact List.forall_mem_nil _ | exact OwnOff.ne (by assumption) (by simp) | refine List.forall_mem_cons.mpr ⟨by k_ne, ?_⟩)) | exact Del.tail (by k_ne) (by first | exact Del.head (by repeat' (first | exact List.forall_mem_nil _ | exact OwnOff.ne (by assumption) (by simp) | refine List.forall_mem_cons.mpr ⟨by k_ne, ?_⟩)) | exact Del.tail (by k_ne) (by first | exact Del.head (by repeat' (first | exact List.forall_mem_nil _ | exact OwnOff.ne (by assumption) (by simp) | refine List.forall_mem_cons.mpr ⟨by k_ne, ?_⟩)) | exact Del.tail (by k_ne) (by first | exact Del.head (by repeat' (first | exact List.forall_mem_nil _ | exact OwnOff.ne (by assumption) (by simp) | refine List.forall_mem_cons.mpr ⟨by k_ne, ?_⟩)) | exact Del.tail (by k_ne) (by first | exact Del.head (by repeat' (first | exact List.forall_mem_nil _ | exact OwnOff.ne (by assumption) (by simp) | refine List.forall_mem_cons.mpr ⟨by k_ne, ?_⟩)) | exact Del.tail (by k_ne) (by first | exact Del.head (by repeat' (first | exact List.forall_mem_nil _ | exact OwnOff.ne (by assumption) (by simp) | refine List.forall_mem_cons.mpr ⟨by k_ne, ?_⟩)) | exact Del.tail (by k_ne) (by first | exact Del.head (by repeat' (first | exact List.forall_mem_nil _ | exact OwnOff.ne (by assumption) (by simp) | refine List.forall_mem_cons.mpr ⟨by k_ne, ?_⟩)) | exact Del.tail (by k_ne) (by exact Del.head (by repeat' (first | exact List.forall_mem_nil _ | exact OwnOff.ne (by assumption) (by simp) | refine List.forall_mem_cons.mpr ⟨by k_ne, ?_⟩))))))))))))); (case zzkc => k_mem); (case zzk7 => omega); (case zzk8 => assumption); (case zzk9 => assumption); (case zzk10 => assumption); (case zzk11 => omega); (case zzk12 => omega); (case zzk13 => decide); (case zzk14 => ktr_room); (case zzk15 => ktr_units); k_whole); intro r9 t9 t8 h9 tk9 n9 r0 r1 F9 N9; (try dsimp only); (try k_fold); (try k_sweep)) | (k_dflt (refine' words_use ?zzk1 ?zzk2 ?zzk3 ?zzk4 ?zzk5 ?zzk6 ?zzk7 ?zzk8 ?zzk9 ?zzk10 ?zzk14 ?zzk15 ?_; (case zzk1 => k_asm); (case zzk2 => k_asm); (case zzk3 => k_asm); (case zzk4 => k_asm); (case zzk5 => k_asm); (case zzk6 => first | exact rfl | assumption); (case zzk7 => assumption); (case zzk8 => assumption); (case zzk9 => assumption); (case zzk10 => assumption); (case zzk14 => ktr_room); (case zzk15 => ktr_units); k_whole); intro vs9 h9 tk9 n9 D9 S9 F9 N9 lo9; (try k_lt lo9); (try dsimp only); (try k_fold); (try k_sweep)) | (k_dflt (refine' lw_use ?zzk1 ?zzk2 ?zzk3 ?zzk4 ?zzk5 ?zzk6 ?zzk7 ?zzk8 ?zzk9 ?zzk10 ?zzk14 ?zzk15 ?_; (case zzk1 => k_asm); (case zzk2 => k_asm); (case zzk3 => k_asm); (case zzk4 => k_asm); (case zzk5 => k_asm); (case zzk6 => first | exact rfl | assumption); (case zzk7 => assumption); (case zzk8 => assumption); (case zzk9 => assumption); (case zzk10 => assumption); (case zzk14 => ktr_room); (case zzk15 => ktr_units); k_whole); intro vs9 h9 tk9 n9 D9 S9 F9 N9 lo9; (try k_lt lo9); (try dsimp only); (try k_fold); (try k_sweep)) | (k_dflt (refine' flag_use ?zzk1 ?zzk2 ?zzk3 ?zzk4 ?zzk5 ?zzk6 ?zzkl ?zzkO ?zzkS ?zzkh ?zzk14 ?zzk15 ?_; (case zzk1 => k_asm); (case zzk2 => k_asm); (case zzk3 => k_asm); (case zzk4 => k_asm); (case zzk5 => k_asm); (case zzk6 => first | exact rfl | assumption); (case zzkl => k_mem); (case zzkO => (first | exact ⟨_, .inl rfl⟩ | exact ⟨_, .inr rfl⟩)); (case zzkS => first | assumption | exact strs_rev (by assumption)); (case zzkh => first | assumption | exact ok_of_txt (by assumption)); (case zzk14 => ktr_room); (case zzk15 => ktr_units); k_whole); intro v1 v2 t9 t8 h9 tk9 n9 D9 e9 F9 N9 lo9; (try k_lt lo9); (try dsimp only); (try k_fold); (try k_sweep)) | (k_dflt (refine' read_use ?zzk1 ?zzk2 ?zzk3 ?zzk4 ?zzk5 ?zzk6 ?zzkl ?zzkh ?zzk14 ?zzk15 ?_; (case zzk1 => k_asm); (case zzk2 => k_asm); (case zzk3 => k_asm); (case zzk4 => k_asm); (case zzk5 => k_asm); (case zzk6 => first | exact rfl | assumption); (case zzkl => k_mem); (case zzkh => assumption); (case zzk14 => ktr_room); (case zzk15 => ktr_units); k_whole); intro v1 v2 t9 t8 h9 tk9 n9 D9 e9 F9 N9 lo9; (try k_lt lo9); (try dsimp only); (try k_fold); (try k_sweep)))) | ((fail_if_success (with_reducible show wpAny _ _ (compareOp .NotEq (Value.ref _) (Value.ref _)) _ _ _)); (first | walk1 | (dsimp only; walk1) | (leave1; (try dsimp only)))) | fail "no step")
          rename Fr _ _ _ _ => lF
          rename News _ _ _ _ => lN
          k_dflt (refine' ne_pts (ps := ptsOf cs) ?jN ?ja ?jb ?jm ?jk ?ju ?j0 ?j1; (case jN => exact lN); (case ja => k_mem); (case jb => k_mem); (case ju => ktr_units))
          case jm =>
            intro e he
            have hent := hcm e ((List.mem_filter.mp he).1)
            exact .tail _ (.tail _ (.tail _ (.tail _ (.tail _ (.tail _ (.tail _ (.tail _ (.tail _ (.tail _ (.tail _ hent))))))))))
          case jk => exact fun e he => hcs e ((List.mem_filter.mp he).1)
          case j0 =>
            intro hp
            repeat' (first | (k_unfold; (try dsimp only)) | ((with_reducible show wpAny _ _ (call (Value.builtin "len") _) _ _ _); (k_here; (with_reducible show wpAny _ _ (call (Value.builtin "len") [Value.ref _]) _ _ _); k_dflt (refine' len_kl ?zzj1 ?zzj2 ?zzj3 ?_; (case zzj1 => k_asm); (case zzj2 => k_mem); (case zzj3 => assumption)); k_whole)) | ((with_reducible show wpAny _ _ (call (Value.type _) _) _ _ _); (k_here; (with_reducible show wpAny _ _ (call (Value.type _) [Value.ref _]) _ _ _); k_dflt (refine' kde_tupleOf ?zzk1 ?zzk2 ?zzk3 ?zzk4 ?zzk5 ?_; (case zzk1 => k_asm); (case zzk2 => k_asm); (case zzk3 => exact News.isList (by k_asm) (by k_mem)); (case zzk4 => (rw [List.size_toArray, List.length_map]; exact Nat.le_trans (by assumption : _ ≤ 3) (by decide))); (case zzk5 => exact List.toList_toArray ..); k_whole); intro D' h' F' N' l1; (try k_lt l1); (try k_sweep))) | ((with_reducible show wpAny _ _ (call (Value.ref _) _) _ _ _); (k_here; (k_dflt (refine' gdef_use ?zzk1 ?zzk2 ?zzk3 ?zzk4 ?zzk5 ?zzk6 ?zzk14 ?zzk15 ?_; (case zzk1 => k_asm); (case zzk2 => k_asm); (case zzk3 => k_asm); (case zzk4 => k_asm); (case zzk5 => k_asm); (case zzk6 => first | exact rfl | assumption); (case zzk14 => ktr_room); (case zzk15 => ktr_units); k_whole)); intro x9 dx9 d9 a1 a2 a3 a4 o9 t1 t2 t3 t4 t5 h9 tk9 F9 N9 lo9 lx9 ld9 ds9 i9; (try dsimp only); (try k_fold); (try k_sweep))) | ((with_reducible show wpAny _ _ (compareOp .NotEq (Value.ref _) (Value.ref _)) _ _ _); (k_here; first | (k_dflt (refine' ne_words ?zzN ?zza ?zzb ?zzsa ?zzsb ?zzp0 ?zzp1 ?zzp2 ?zzp3 ?zzhu ?_; (case zzN => k_asm); (case zza => k_mem); (case zzb => k_mem); (case zzsa => assumption); (case zzsb => assumption); (case zzp0 => assumption); (case zzp1 => assumption); (case zzp2 => assumption); (case zzp3 => assumption); (case zzhu => ktr_units)); (try dsimp only); (try k_fold)) | (k_dflt (refine' ne_pair ?zzN ?zza ?zzb ?zze1 ?zze2 ?zzhu ?_; (case zzN => k_asm); (case zza => k_mem); (case zzb => k_mem); (case zze1 => (first | exact pair_a (by assumption) (by assumption) | exact pair_b (by assumption) (by assumption) | exact pair_c (by assumption) (by assumption) (by assumption) | exact pair_d (by assumption) (by assumption) (by assumption))); (case zze2 => (first | exact pair_a (by assumption) (by assumption) | exact pair_b (by assumption) (by assumption) | exact pair_c (by assumption) (by assumption) (by assumption) | exact pair_d (by assumption) (by assumption) (by assumption))); (case zzhu => ktr_units)); (try dsimp only); (try k_fold)))) | ((with_reducible show wpAny _ _ (call (Value.type _) _) _ _ _); (k_here; (with_reducible show wpAny _ _ (call (Value.type _) [Value.ref _]) _ _ _); k_dflt (refine' kup_listOfT ?zzF ?zzN ?zzb ?zze ?_ ?zzz; (case zzF => k_asm); (case zzN => k_asm); (case zzb => k_mem); (case zze => exact List.toList_toArray ..); (case zzz => exact strs_size (by assumption))); intro D' c' h' F' N' l1; (try k_lt l1); (try k_sweep))) | ((with_reducible show wpAny _ _ (call (Value.ref _) _) _ _ _); (k_here; first | (k_dflt (refine' draw_use ?zzk1 ?zzk2 ?zzk3 ?zzk4 ?zzk5 ?zzk6 ?zzkD ?zzkc ?zzk7 ?zzk8 ?zzk9 ?zzk10 ?zzk11 ?zzk12 ?zzk13 ?zzk14 ?zzk15 ?_; (case zzk1 => k_asm); (case zzk2 => k_asm); (case zzk3 => k_asm); (case zzk4 => k_asm); (case zzk5 => k_asm); (case zzk6 => first | exact rfl | assumption); (case zzkD => (first | exact Del.head (by repeat' (first | exact List.forall_mem_nil _ | exact OwnOff.ne (by assumption) (by simp) | refine List.forall_mem_cons.mpr ⟨by k_ne, ?_⟩)) | exact Del.tail (by k_ne) (by first | exact Del.head (by repeat' (first | exact List.forall_mem_nil _ | exact OwnOff.ne (by assumption) (by simp) | refine List.forall_mem_cons.mpr ⟨by k_ne, ?_⟩)) | exact Del.tail (by k_ne) (by first | exact Del.head (by repeat' (first | exact List.forall_mem_nil _ | exact OwnOff.ne (by assumption) (by simp) | refine List.forall_mem_cons.mpr ⟨by k_ne, ?_⟩)) | exact Del.tail (by k_ne) (by first | exact Del.head (by repeat' (first | exact List.forall_mem_nil _ | exact OwnOff.ne (by assumption) (by simp) | refine List.forall_mem_cons.mpr ⟨by k_ne, ?_⟩)) | exact Del.tail (by k_ne) (by first | exact Del.head (by repeat' (first | exact List.forall_mem_nil _ | exact OwnOff.ne (by assumption) (by simp) | refine List.forall_mem_cons.mpr ⟨by k_ne, ?_⟩)) | exact Del.tail (by k_ne) (by first | exact Del.head (by repeat' (first | exact List.forall_mem_nil _ | exact OwnOff.ne (by assumption) (by simp) | refine List.forall_mem_cons.mpr ⟨by k_ne, ?_⟩)) | exact Del.tail (by k_ne) (by first | exact Del.head (by repeat' (first | exact List.forall_mem_nil _ | exact OwnOff.ne (by assumption) (by simp) | refine List.forall_mem_cons.mpr ⟨by k_ne, ?_⟩)) | exact Del.tail (by k_ne) (by first | exact Del.head (by repeat' (first | exact List.forall_mem_nil _ | exact OwnOff.ne (by assumption) (by simp) | refine List.forall_mem_cons.mpr ⟨by k_ne, ?_⟩)) | exact Del.tail (by k_ne) (by first | exact Del.head (by repeat' (first | exact List.forall_mem_nil _ | exact OwnOff.ne (by assumption) (by simp) | refine List.forall_mem_cons.mpr ⟨by k_ne, ?_⟩)) | exact Del.tail (by k_ne) (by exact Del.head (by repeat' (first | exact List.forall_mem_nil _ | exact OwnOff.ne (by assumption) (by simp) | refine List.forall_mem_cons.mpr ⟨by k_ne, ?_⟩))))))))))))); (case zzkc => k_mem); (case zzk7 => omega); (case zzk8 => assumption); (case zzk9 => assumption); (case zzk10 => assumption); (case zzk11 => omega); (case zzk12 => omega); (case zzk13 => decide); (case zzk14 => ktr_room); (case zzk15 => ktr_units); k_whole); intro r9 t9 t8 h9 tk9 n9 r0 r1 F9 N9; (try dsimp only); (try k_fold); (try k_sweep)) | (k_dflt (refine' words_use ?zzk1 ?zzk2 ?zzk3 ?zzk4 ?zzk5 ?zzk6 ?zzk7 ?zzk8 ?zzk9 ?zzk10 ?zzk14 ?zzk15 ?_; (case zzk1 => k_asm); (case zzk2 => k_asm); (case zzk3 => k_asm); (case zzk4 => k_asm); (case zzk5 => k_asm); (case zzk6 => first | exact rfl | assumption); (case zzk7 => assumption); (case zzk8 => assumption); (case zzk9 => assumption); (case zzk10 => assumption); (case zzk14 => ktr_room); (case zzk15 => ktr_units); k_whole); intro vs9 h9 tk9 n9 D9 S9 F9 N9 lo9; (try k_lt lo9); (try dsimp only); (try k_fold); (try k_sweep)) | (k_dflt (refine' lw_use ?zzk1 ?zzk2 ?zzk3 ?zzk4 ?zzk5 ?zzk6 ?zzk7 ?zzk8 ?zzk9 ?zzk10 ?zzk14 ?zzk15 ?_; (case zzk1 => k_asm); (case zzk2 => k_asm); (case zzk3 => k_asm); (case zzk4 => k_asm); (case zzk5 => k_asm); (case zzk6 => first | exact rfl | assumption); (case zzk7 => assumption); (case zzk8 => assumption); (case zzk9 => assumption); (case zzk10 => assumption); (case zzk14 => ktr_room); (case zzk15 => ktr_units); k_whole); intro vs9 h9 tk9 n9 D9 S9 F9 N9 lo9; (try k_lt lo9); (try dsimp only); (try k_fold); (try k_sweep)) | (k_dflt (refine' flag_use ?zzk1 ?zzk2 ?zzk3 ?zzk4 ?zzk5 ?zzk6 ?zzkl ?zzkO ?zzkS ?zzkh ?zzk14 ?zzk15 ?_; (case zzk1 => k_asm); (case zzk2 => k_asm); (case zzk3 => k_asm); (case zzk4 => k_asm); (case zzk5 => k_asm); (case zzk6 => first | exact rfl | assumption); (case zzkl => k_mem); (case zzkO => (first | exact ⟨_, .inl rfl⟩ | exact ⟨_, .inr rfl⟩)); (case zzkS => first | assumption | exact strs_rev (by assumption)); (case zzkh => first | assumption | exact ok_of_txt (by assumption)); (case zzk14 => ktr_room); (case zzk15 => ktr_units); k_whole); intro v1 v2 t9 t8 h9 tk9 n9 D9 e9 F9 N9 lo9; (try k_lt lo9); (try dsimp only); (try k_fold); (try k_sweep)) | (k_dflt (refine' read_use ?zzk1 ?zzk2 ?zzk3 ?zzk4 ?zzk5 ?zzk6 ?zzkl ?zzkh ?zzk14 ?zzk15 ?_; (case zzk1 => k_asm); (case zzk2 => k_asm); (case zzk3 => k_asm); (case zzk4 => k_asm); (case zzk5 => k_asm); (case zzk6 => first | exact rfl | assumption); (case zzkl => k_mem); (case zzkh => assumption); (case zzk14 => ktr_room); (case zzk15 => ktr_units); k_whole); intro v1 v2 t9 t8 h9 tk9 n9 D9 e9 F9 N9 lo9; (try k_lt lo9); (try dsimp only); (try k_fold); (try k_sweep)))) | walk1 | (dsimp only; walk1) | (leave1; (try dsimp only)) | fail "no step")
            exact hQ9 _ _ ⟨rfl, at_intro ⟨sa, ss, sn, sc⟩ (by assumption) (by assumption) (by kst_inAny) (by kst_all) ⟨hS, told_a hcs (by omega) hp hSP hSO⟩⟩
          case j1 =>
            intro hp
            repeat' (first | (k_unfold; (try dsimp only)) | ((with_reducible show wpAny _ _ (call (Value.builtin "len") _) _ _ _); (k_here; (with_reducible show wpAny _ _ (call (Value.builtin "len") [Value.ref _]) _ _ _); k_dflt (refine' len_kl ?zzj1 ?zzj2 ?zzj3 ?_; (case zzj1 => k_asm); (case zzj2 => k_mem); (case zzj3 => assumption)); k_whole)) | ((with_reducible show wpAny _ _ (call (Value.type _) _) _ _ _); (k_here; (with_reducible show wpAny _ _ (call (Value.type _) [Value.ref _]) _ _ _); k_dflt (refine' kde_tupleOf ?zzk1 ?zzk2 ?zzk3 ?zzk4 ?zzk5 ?_; (case zzk1 => k_asm); (case zzk2 => k_asm); (case zzk3 => exact News.isList (by k_asm) (by k_mem)); (case zzk4 => (rw [List.size_toArray, List.length_map]; exact Nat.le_trans (by assumption : _ ≤ 3) (by decide))); (case zzk5 => exact List.toList_toArray ..); k_whole); intro D' h' F' N' l1; (try k_lt l1); (try k_sweep))) | ((with_reducible show wpAny _ _ (call (Value.ref _) _) _ _ _); (k_here; (k_dflt (refine' gdef_use ?zzk1 ?zzk2 ?zzk3 ?zzk4 ?zzk5 ?zzk6 ?zzk14 ?zzk15 ?_; (case zzk1 => k_asm); (case zzk2 => k_asm); (case zzk3 => k_asm); (case zzk4 => k_asm); (case zzk5 => k_asm); (case zzk6 => first | exact rfl | assumption); (case zzk14 => ktr_room); (case zzk15 => ktr_units); k_whole)); intro x9 dx9 d9 a1 a2 a3 a4 o9 t1 t2 t3 t4 t5 h9 tk9 F9 N9 lo9 lx9 ld9 ds9 i9; (try dsimp only); (try k_fold); (try k_sweep))) | ((with_reducible show wpAny _ _ (compareOp .NotEq (Value.ref _) (Value.ref _)) _ _ _); (k_here; first | (k_dflt (refine' ne_words ?zzN ?zza ?zzb ?zzsa ?zzsb ?zzp0 ?zzp1 ?zzp2 ?zzp3 ?zzhu ?_; (case zzN => k_asm); (case zza => k_mem); (case zzb => k_mem); (case zzsa => assumption); (case zzsb => assumption); (case zzp0 => assumption); (case zzp1 => assumption); (case zzp2 => assumption); (case zzp3 => assumption); (case zzhu => ktr_units)); (try dsimp only); (try k_fold)) | (k_dflt (refine' ne_pair ?zzN ?zza ?zzb ?zze1 ?zze2 ?zzhu ?_; (case zzN => k_asm); (case zza => k_mem); (case zzb => k_mem); (case zze1 => (first | exact pair_a (by assumption) (by assumption) | exact pair_b (by assumption) (by assumption) | exact pair_c (by assumption) (by assumption) (by assumption) | exact pair_d (by assumption) (by assumption) (by assumption))); (case zze2 => (first | exact pair_a (by assumption) (by assumption) | exact pair_b (by assumption) (by assumption) | exact pair_c (by assumption) (by assumption) (by assumption) | exact pair_d (by assumption) (by assumption) (by assumption))); (case zzhu => ktr_units)); (try dsimp only); (try k_fold)))) | ((with_reducible show wpAny _ _ (call (Value.type _) _) _ _ _); (k_here; (with_reducible show wpAny _ _ (call (Value.type _) [Value.ref _]) _ _ _); k_dflt (refine' kup_listOfT ?zzF ?zzN ?zzb ?zze ?_ ?zzz; (case zzF => k_asm); (case zzN => k_asm); (case zzb => k_mem); (case zze => exact List.toList_toArray ..); (case zzz => exact strs_size (by assumption))); intro D' c' h' F' N' l1; (try k_lt l1); (try k_sweep))) | ((with_reducible show wpAny _ _ (call (Value.ref _) _) _ _ _); (k_here; first | (k_dflt (refine' draw_use ?zzk1 ?zzk2 ?zzk3 ?zzk4 ?zzk5 ?zzk6 ?zzkD ?zzkc ?zzk7 ?zzk8 ?zzk9 ?zzk10 ?zzk11 ?zzk12 ?zzk13 ?zzk14 ?zzk15 ?_; (case zzk1 => k_asm); (case zzk2 => k_asm); (case zzk3 => k_asm); (case zzk4 => k_asm); (case zzk5 => k_asm); (case zzk6 => first | exact rfl | assumption); (case zzkD => (first | exact Del.head (by repeat' (first | exact List.forall_mem_nil _ | exact OwnOff.ne (by assumption) (by simp) | refine List.forall_mem_cons.mpr ⟨by k_ne, ?_⟩)) | exact Del.tail (by k_ne) (by first | exact Del.head (by repeat' (first | exact List.forall_mem_nil _ | exact OwnOff.ne (by assumption) (by simp) | refine List.forall_mem_cons.mpr ⟨by k_ne, ?_⟩)) | exact Del.tail (by k_ne) (by first | exact Del.head (by repeat' (first | exact List.forall_mem_nil _ | exact OwnOff.ne (by assumption) (by simp) | refine List.forall_mem_cons.mpr ⟨by k_ne, ?_⟩)) | exact Del.tail (by k_ne) (by first | exact Del.head (by repeat' (first | exact List.forall_mem_nil _ | exact OwnOff.ne (by assumption) (by simp) | refine List.forall_mem_cons.mpr ⟨by k_ne, ?_⟩)) | exact Del.tail (by k_ne) (by first | exact Del.head (by repeat' (first | exact List.forall_mem_nil _ | exact OwnOff.ne (by assumption) (by simp) | refine List.forall_mem_cons.mpr ⟨by k_ne, ?_⟩)) | exact Del.tail (by k_ne) (by first | exact Del.head (by repeat' (first | exact List.forall_mem_nil _ | exact OwnOff.ne (by assumption) (by simp) | refine List.forall_mem_cons.mpr ⟨by k_ne, ?_⟩)) | exact Del.tail (by k_ne) (by first | exact Del.head (by repeat' (first | exact List.forall_mem_nil _ | exact OwnOff.ne (by assumption) (by simp) | refine List.forall_mem_cons.mpr ⟨by k_ne, ?_⟩)) | exact Del.tail (by k_ne) (by first | exact Del.head (by repeat' (first | exact List.forall_mem_nil _ | exact OwnOff.ne (by assumption) (by simp) | refine List.forall_mem_cons.mpr ⟨by k_ne, ?_⟩)) | exact Del.tail (by k_ne) (by first | exact Del.head (by repeat' (first | exact List.forall_mem_nil _ | exact OwnOff.ne (by assumption) (by simp) | refine List.forall_mem_cons.mpr ⟨by k_ne, ?_⟩)) | exact Del.tail (by k_ne) (by exact Del.head (by repeat' (first | exact List.forall_mem_nil _ | exact OwnOff.ne (by assumption) (by simp) | refine List.forall_mem_cons.mpr ⟨by k_ne, ?_⟩))))))))))))); (case zzkc => k_mem); (case zzk7 => omega); (case zzk8 => assumption); (case zzk9 => assumption); (case zzk10 => assumption); (case zzk11 => omega); (case zzk12 => omega); (case zzk13 => decide); (case zzk14 => ktr_room); (case zzk15 => ktr_units); k_whole); intro r9 t9 t8 h9 tk9 n9 r0 r1 F9 N9; (try dsimp only); (try k_fold); (try k_sweep)) | (k_dflt (refine' words_use ?zzk1 ?zzk2 ?zzk3 ?zzk4 ?zzk5 ?zzk6 ?zzk7 ?zzk8 ?zzk9 ?zzk10 ?zzk14 ?zzk15 ?_; (case zzk1 => k_asm); (case zzk2 => k_asm); (case zzk3 => k_asm); (case zzk4 => k_asm); (case zzk5 => k_asm); (case zzk6 => first | exact rfl | assumption); (case zzk7 => assumption); (case zzk8 => assumption); (case zzk9 => assumption); (case zzk10 => assumption); (case zzk14 => ktr_room); (case zzk15 => ktr_units); k_whole); intro vs9 h9 tk9 n9 D9 S9 F9 N9 lo9; (try k_lt lo9); (try dsimp only); (try k_fold); (try k_sweep)) | (k_dflt (refine' lw_use ?zzk1 ?zzk2 ?zzk3 ?zzk4 ?zzk5 ?zzk6 ?zzk7 ?zzk8 ?zzk9 ?zzk10 ?zzk14 ?zzk15 ?_; (case zzk1 => k_asm); (case zzk2 => k_asm); (case zzk3 => k_asm); (case zzk4 => k_asm); (case zzk5 => k_asm); (case zzk6 => first | exact rfl | assumption); (case zzk7 => assumption); (case zzk8 => assumption); (case zzk9 => assumption); (case zzk10 => assumption); (case zzk14 => ktr_room); (case zzk15 => ktr_units); k_whole); intro vs9 h9 tk9 n9 D9 S9 F9 N9 lo9; (try k_lt lo9); (try dsimp only); (try k_fold); (try k_sweep)) | (k_dflt (refine' flag_use ?zzk1 ?zzk2 ?zzk3 ?zzk4 ?zzk5 ?zzk6 ?zzkl ?zzkO ?zzkS ?zzkh ?zzk14 ?zzk15 ?_; (case zzk1 => k_asm); (case zzk2 => k_asm); (case zzk3 => k_asm); (case zzk4 => k_asm); (case zzk5 => k_asm); (case zzk6 => first | exact rfl | assumption); (case zzkl => k_mem); (case zzkO => (first | exact ⟨_, .inl rfl⟩ | exact ⟨_, .inr rfl⟩)); (case zzkS => first | assumption | exact strs_rev (by assumption)); (case zzkh => first | assumption | exact ok_of_txt (by assumption)); (case zzk14 => ktr_room); (case zzk15 => ktr_units); k_whole); intro v1 v2 t9 t8 h9 tk9 n9 D9 e9 F9 N9 lo9; (try k_lt lo9); (try dsimp only); (try k_fold); (try k_sweep)) | (k_dflt (refine' read_use ?zzk1 ?zzk2 ?zzk3 ?zzk4 ?zzk5 ?zzk6 ?zzkl ?zzkh ?zzk14 ?zzk15 ?_; (case zzk1 => k_asm); (case zzk2 => k_asm); (case zzk3 => k_asm); (case zzk4 => k_asm); (case zzk5 => k_asm); (case zzk6 => first | exact rfl | assumption); (case zzkl => k_mem); (case zzkh => assumption); (case zzk14 => ktr_room); (case zzk15 => ktr_units); k_whole); intro v1 v2 t9 t8 h9 tk9 n9 D9 e9 F9 N9 lo9; (try k_lt lo9); (try dsimp only); (try k_fold); (try k_sweep)))) | walk1 | (dsimp only; walk1) | (leave1; (try dsimp only)) | fail "no step")
            exact hQ9 _ _ ⟨rfl, at_intro ⟨ea, es, _, en⟩ (by assumption) (by assumption) (by kst_inAny) (by kst_all) ⟨hE, told_c hcs hp⟩⟩
    rintro ⟨sa2, ss2, sn2, sc2⟩ u14 h14 tk14 F14 N14 ⟨hS2, hR2⟩
    clear F13 N13 hS hSP hSO
    dsimp only at F14 N14 hS2 hR2 ⊢
    repeat' (first | (k_unfold; (try dsimp only)) | ((with_reducible show wpAny _ _ (call (Value.builtin "len") _) _ _ _); (k_here; (with_reducible show wpAny _ _ (call (Value.builtin "len") [Value.ref _]) _ _ _); k_dflt (refine' len_kl ?zzj1 ?zzj2 ?zzj3 ?_; (case zzj1 => k_asm); (case zzj2 => k_mem); (case zzj3 => assumption)); k_whole)) | ((with_reducible show wpAny _ _ (call (Value.type _) _) _ _ _); (k_here; (with_reducible show wpAny _ _ (call (Value.type _) [Value.ref _]) _ _ _); k_dflt (refine' kde_tupleOf ?zzk1 ?zzk2 ?zzk3 ?zzk4 ?zzk5 ?_; (case zzk1 => k_asm); (case zzk2 => k_asm); (case zzk3 => exact News.isList (by k_asm) (by k_mem)); (case zzk4 => (rw [List.size_toArray, List.length_map]; exact Nat.le_trans (by assumption : _ ≤ 3) (by decide))); (case zzk5 => exact List.toList_toArray ..); k_whole); intro D' h' F' N' l1; (try k_lt l1); (try k_sweep))) | ((with_reducible show wpAny _ _ (call (Value.ref _) _) _ _ _); (k_here; (k_dflt (refine' gdef_use ?zzk1 ?zzk2 ?zzk3 ?zzk4 ?zzk5 ?zzk6 ?zzk14 ?zzk15 ?_; (case zzk1 => k_asm); (case zzk2 => k_asm); (case zzk3 => k_asm); (case zzk4 => k_asm); (case zzk5 => k_asm); (case zzk6 => first | exact rfl | assumption); (case zzk14 => ktr_room); (case zzk15 => ktr_units); k_whole)); intro x9 dx9 d9 a1 a2 a3 a4 o9 t1 t2 t3 t4 t5 h9 tk9 F9 N9 lo9 lx9 ld9 ds9 i9; (try dsimp only); (try k_fold); (try k_sweep))) | ((with_reducible show wpAny _ _ (compareOp .NotEq (Value.ref _) (Value.ref _)) _ _ _); (k_here; first | (k_dflt (refine' ne_words ?zzN ?zza ?zzb ?zzsa ?zzsb ?zzp0 ?zzp1 ?zzp2 ?zzp3 ?zzhu ?_; (case zzN => k_asm); (case zza => k_mem); (case zzb => k_mem); (case zzsa => assumption); (case zzsb => assumption); (case zzp0 => assumption); (case zzp1 => assumption); (case zzp2 => assumption); (case zzp3 => assumption); (case zzhu => ktr_units)); (try dsimp only); (try k_fold)) | (k_dflt (refine' ne_pair ?zzN ?zza ?zzb ?zze1 ?zze2 ?zzhu ?_; (case zzN => k_asm); (case zza => k_mem); (case zzb => k_mem); (case zze1 => (first | exact pair_a (by assumption) (by assumption) | exact pair_b (by assumption) (by assumption) | exact pair_c (by assumption) (by assumption) (by assumption) | exact pair_d (by assumption) (by assumption) (by assumption))); (case zze2 => (first | exact pair_a (by assumption) (by assumption) | exact pair_b (by assumption) (by assumption) | exact pair_c (by assumption) (by assumption) (by assumption) | exact pair_d (by assumption) (by assumption) (by assumption))); (case zzhu => ktr_units)); (try dsimp only); (try k_fold)))) | ((with_reducible show wpAny _ _ (call (Value.type _) _) _ _ _); (k_here; (with_reducible show wpAny _ _ (call (Value.type _) [Value.ref _]) _ _ _); k_dflt (refine' kup_listOfT ?zzF ?zzN ?zzb ?zze ?_ ?zzz; (case zzF => k_asm); (case zzN => k_asm); (case zzb => k_mem); (case zze => exact List.toList_toArray ..); (case zzz => exact strs_size (by assumption))); intro D' c' h' F' N' l1; (try k_lt l1); (try k_sweep))) | ((with_reducible show wpAny _ _ (call (Value.ref _) _) _ _ _); (k_here; first | (k_dflt (refine' draw_use ?zzk1 ?zzk2 ?zzk3 ?zzk4 ?zzk5 ?zzk6 ?zzkD ?zzkc ?zzk7 ?zzk8 ?zzk9 ?zzk10 ?zzk11 ?zzk12 ?zzk13 ?zzk14 ?zzk15 ?_; (case zzk1 => k_asm); (case zzk2 => k_asm); (case zzk3 => k_asm); (case zzk4 => k_asm); (case zzk5 => k_asm); (case zzk6 => first | exact rfl | assumption); (case zzkD => (first | exact Del.head (by repeat' (first | exact List.forall_mem_nil _ | exact OwnOff.ne (by assumption) (by simp) | refine List.forall_mem_cons.mpr ⟨by k_ne, ?_⟩)) | exact Del.tail (by k_ne) (by first | exact Del.head (by repeat' (first | exact List.forall_mem_nil _ | exact OwnOff.ne (by assumption) (by simp) | refine List.forall_mem_cons.mpr ⟨by k_ne, ?_⟩)) | exact Del.tail (by k_ne) (by first | exact Del.head (by repeat' (first | exact List.forall_mem_nil _ | exact OwnOff.ne (by assumption) (by simp) | refine List.forall_mem_cons.mpr ⟨by k_ne, ?_⟩)) | exact Del.tail (by k_ne) (by first | exact Del.head (by repeat' (first | exact List.forall_mem_nil _ | exact OwnOff.ne (by assumption) (by simp) | refine List.forall_mem_cons.mpr ⟨by k_ne, ?_⟩)) | exact Del.tail (by k_ne) (by first | exact Del.head (by repeat' (first | exact List.forall_mem_nil _ | exact OwnOff.ne (by assumption) (by simp) | refine List.forall_mem_cons.mpr ⟨by k_ne, ?_⟩)) | exact Del.tail (by k_ne) (by first | exact Del.head (by repeat' (first | exact List.forall_mem_nil _ | exact OwnOff.ne (by assumption) (by simp) | refine List.forall_mem_cons.mpr ⟨by k_ne, ?_⟩)) | exact Del.tail (by k_ne) (by first | exact Del.head (by repeat' (first | exact List.forall_mem_nil _ | exact OwnOff.ne (by assumption) (by simp) | refine List.forall_mem_cons.mpr ⟨by k_ne, ?_⟩)) | exact Del.tail (by k_ne) (by first | exact Del.head (by repeat' (first | exact List.forall_mem_nil _ | exact OwnOff.ne (by assumption) (by simp) | refine List.forall_mem_cons.mpr ⟨by k_ne, ?_⟩)) | exact Del.tail (by k_ne) (by first | exact Del.head (by repeat' (first | exact List.forall_mem_nil _ | exact OwnOff.ne (by assumption) (by simp) | refine List.forall_mem_cons.mpr ⟨by k_ne, ?_⟩)) | exact Del.tail (by k_ne) (by exact Del.head (by repeat' (first | exact List.forall_mem_nil _ | exact OwnOff.ne (by assumption) (by simp) | refine List.forall_mem_cons.mpr ⟨by k_ne, ?_⟩))))))))))))); (case zzkc => k_mem); (case zzk7 => omega); (case zzk8 => assumption); (case zzk9 => assumption); (case zzk10 => assumption); (case zzk11 => omega); (case zzk12 => omega); (case zzk13 => decide); (case zzk14 => ktr_room); (case zzk15 => ktr_units); k_whole); intro r9 t9 t8 h9 tk9 n9 r0 r1 F9 N9; (try dsimp only); (try k_fold); (try k_sweep)) | (k_dflt (refine' words_use ?zzk1 ?zzk2 ?zzk3 ?zzk4 ?zzk5 ?zzk6 ?zzk7 ?zzk8 ?zzk9 ?zzk10 ?zzk14 ?zzk15 ?_; (case zzk1 => k_asm); (case zzk2 => k_asm); (case zzk3 => k_asm); (case zzk4 => k_asm); (case zzk5 => k_asm); (case zzk6 => first | exact rfl | assumption); (case zzk7 => assumption); (case zzk8 => assumption); (case zzk9 => assumption); (case zzk10 => assumption); (case zzk14 => ktr_room); (case zzk15 => ktr_units); k_whole); intro vs9 h9 tk9 n9 D9 S9 F9 N9 lo9; (try k_lt lo9); (try dsimp only); (try k_fold); (try k_sweep)) | (k_dflt (refine' lw_use ?zzk1 ?zzk2 ?zzk3 ?zzk4 ?zzk5 ?zzk6 ?zzk7 ?zzk8 ?zzk9 ?zzk10 ?zzk14 ?zzk15 ?_; (case zzk1 => k_asm); (case zzk2 => k_asm); (case zzk3 => k_asm); (case zzk4 => k_asm); (case zzk5 => k_asm); (case zzk6 => first | exact rfl | assumption); (case zzk7 => assumption); (case zzk8 => assumption); (case zzk9 => assumption); (case zzk10 => assumption); (case zzk14 => ktr_room); (case zzk15 => ktr_units); k_whole); intro vs9 h9 tk9 n9 D9 S9 F9 N9 lo9; (try k_lt lo9); (try dsimp only); (try k_fold); (try k_sweep)) | (k_dflt (refine' flag_use ?zzk1 ?zzk2 ?zzk3 ?zzk4 ?zzk5 ?zzk6 ?zzkl ?zzkO ?zzkS ?zzkh ?zzk14 ?zzk15 ?_; (case zzk1 => k_asm); (case zzk2 => k_asm); (case zzk3 => k_asm); (case zzk4 => k_asm); (case zzk5 => k_asm); (case zzk6 => first | exact rfl | assumption); (case zzkl => k_mem); (case zzkO => (first | exact ⟨_, .inl rfl⟩ | exact ⟨_, .inr rfl⟩)); (case zzkS => first | assumption | exact strs_rev (by assumption)); (case zzkh => first | assumption | exact ok_of_txt (by assumption)); (case zzk14 => ktr_room); (case zzk15 => ktr_units); k_whole); intro v1 v2 t9 t8 h9 tk9 n9 D9 e9 F9 N9 lo9; (try k_lt lo9); (try dsimp only); (try k_fold); (try k_sweep)) | (k_dflt (refine' read_use ?zzk1 ?zzk2 ?zzk3 ?zzk4 ?zzk5 ?zzk6 ?zzkl ?zzkh ?zzk14 ?zzk15 ?_; (case zzk1 => k_asm); (case zzk2 => k_asm); (case zzk3 => k_asm); (case zzk4 => k_asm); (case zzk5 => k_asm); (case zzk6 => first | exact rfl | assumption); (case zzkl => k_mem); (case zzkh => assumption); (case zzk14 => ktr_room); (case zzk15 => ktr_units); k_whole); intro v1 v2 t9 t8 h9 tk9 n9 D9 e9 F9 N9 lo9; (try k_lt lo9); (try dsimp only); (try k_fold); (try k_sweep)))) | ((fail_if_success (with_reducible show wpAny _ _ (call (Value.ref _) [Value.ref _, Value.int _ _, Value.int _ _, Value.int _ _]) _ _ _)); (first | walk1 | (dsimp only; walk1) | (leave1; (try dsimp only)))) | fail "no step")
    k_dflt (refine' stops_use (ks := cs) ?k1 ?k2 ?k3 ?k4 ?k5 ?k6 ?kx ?kg ?kd ?ko ?ks ?kr ?kl ?ke ?kk ?gl ?p0 ?p1 ?w0 ?w1 ?k14 ?k15 ?_; (case k1 => k_asm); (case k2 => k_asm); (case k3 => k_asm); (case k4 => k_asm); (case k5 => k_asm); (case k6 => first | exact rfl | assumption); (case kx => k_mem); (case kg => k_mem); (case kd => k_mem); (case ko => assumption); (case ks => assumption); (case kr => exact .inr ⟨_, _, rfl, .inr ⟨rfl, by k_mem⟩⟩); (case kl => exact hc3); (case ke => (intro e he; exact .tail _ (.tail _ (.tail _ (.tail _ (.tail _ (.tail _ (.tail _ (.tail _ (.tail _ (hcm e he))))))))))); (case kk => exact hcs); (case gl => first | exact .inl rfl | exact .inr rfl); (case p0 => assumption); (case p1 => assumption); (case w0 => assumption); (case w1 => assumption); (case k14 => ktr_room); (case k15 => ktr_units); k_whole)
    intro D7 vs7 ns7 n7 h7 tk7 i7 s7 F7 N7
    have e7 := stopsR_same s7 hR2
    subst e7
    clear s7
    (try dsimp only)
    repeat' (first | (k_unfold; (try dsimp only)) | ((with_reducible show wpAny _ _ (call (Value.builtin "len") _) _ _ _); (k_here; (with_reducible show wpAny _ _ (call (Value.builtin "len") [Value.ref _]) _ _ _); k_dflt (refine' len_kl ?zzj1 ?zzj2 ?zzj3 ?_; (case zzj1 => k_asm); (case zzj2 => k_mem); (case zzj3 => assumption)); k_whole)) | ((with_reducible show wpAny _ _ (call (Value.type _) _) _ _ _); (k_here; (with_reducible show wpAny _ _ (call (Value.type _) [Value.ref _]) _ _ _); k_dflt (refine' kde_tupleOf ?zzk1 ?zzk2 ?zzk3 ?zzk4 ?zzk5 ?_; (case zzk1 => k_asm); (case zzk2 => k_asm); (case zzk3 => exact News.isList (by k_asm) (by k_mem)); (case zzk4 => (rw [List.size_toArray, List.length_map]; exact Nat.le_trans (by assumption : _ ≤ 3) (by decide))); (case zzk5 => exact List.toList_toArray ..); k_whole); intro D' h' F' N' l1; (try k_lt l1); (try k_sweep))) | ((with_reducible show wpAny _ _ (call (Value.ref _) _) _ _ _); (k_here; (k_dflt (refine' gdef_use ?zzk1 ?zzk2 ?zzk3 ?zzk4 ?zzk5 ?zzk6 ?zzk14 ?zzk15 ?_; (case zzk1 => k_asm); (case zzk2 => k_asm); (case zzk3 => k_asm); (case zzk4 => k_asm); (case zzk5 => k_asm); (case zzk6 => first | exact rfl | assumption); (case zzk14 => ktr_room); (case zzk15 => ktr_units); k_whole)); intro x9 dx9 d9 a1 a2 a3 a4 o9 t1 t2 t3 t4 t5 h9 tk9 F9 N9 lo9 lx9 ld9 ds9 i9; (try dsimp only); (try k_fold); (try k_sweep))) | ((with_reducible show wpAny _ _ (compareOp .NotEq (Value.ref _) (Value.ref _)) _ _ _); (k_here; first | (k_dflt (refine' ne_words ?zzN ?zza ?zzb ?zzsa ?zzsb ?zzp0 ?zzp1 ?zzp2 ?zzp3 ?zzhu ?_; (case zzN => k_asm); (case zza => k_mem); (case zzb => k_mem); (case zzsa => assumption); (case zzsb => assumption); (case zzp0 => assumption); (case zzp1 => assumption); (case zzp2 => assumption); (case zzp3 => assumption); (case zzhu => ktr_units)); (try dsimp only); (try k_fold)) | (k_dflt (refine' ne_pair ?zzN ?zza ?zzb ?zze1 ?zze2 ?zzhu ?_; (case zzN => k_asm); (case zza => k_mem); (case zzb => k_mem); (case zze1 => (first | exact pair_a (by assumption) (by assumption) | exact pair_b (by assumption) (by assumption) | exact pair_c (by assumption) (by assumption) (by assumption) | exact pair_d (by assumption) (by assumption) (by assumption))); (case zze2 => (first | exact pair_a (by assumption) (by assumption) | exact pair_b (by assumption) (by assumption) | exact pair_c (by assumption) (by assumption) (by assumption) | exact pair_d (by assumption) (by assumption) (by assumption))); (case zzhu => ktr_units)); (try dsimp only); (try k_fold)))) | ((with_reducible show wpAny _ _ (call (Value.type _) _) _ _ _); (k_here; (with_reducible show wpAny _ _ (call (Value.type _) [Value.ref _]) _ _ _); k_dflt (refine' kup_listOfT ?zzF ?zzN ?zzb ?zze ?_ ?zzz; (case zzF => k_asm); (case zzN => k_asm); (case zzb => k_mem); (case zze => exact List.toList_toArray ..); (case zzz => exact strs_size (by assumption))); intro D' c' h' F' N' l1; (try k_lt l1); (try k_sweep))) | ((with_reducible show wpAny _ _ (call (Value.ref _) _) _ _ _); (k_here; first | (k_dflt (refine' draw_use ?zzk1 ?zzk2 ?zzk3 ?zzk4 ?zzk5 ?zzk6 ?zzkD ?zzkc ?zzk7 ?zzk8 ?zzk9 ?zzk10 ?zzk11 ?zzk12 ?zzk13 ?zzk14 ?zzk15 ?_; (case zzk1 => k_asm); (case zzk2 => k_asm); (case zzk3 => k_asm); (case zzk4 => k_asm); (case zzk5 => k_asm); (case zzk6 => first | exact rfl | assumption); (case zzkD => (first | exact Del.head (by repeat' (first | exact List.forall_mem_nil _ | exact OwnOff.ne (by assumption) (by simp) | refine List.forall_mem_cons.mpr ⟨by k_ne, ?_⟩)) | exact Del.tail (by k_ne) (by first | exact Del.head (by repeat' (first | exact List.forall_mem_nil _ | exact OwnOff.ne (by assumption) (by simp) | refine List.forall_mem_cons.mpr ⟨by k_ne, ?_⟩)) | exact Del.tail (by k_ne) (by first | exact Del.head (by repeat' (first | exact List.forall_mem_nil _ | exact OwnOff.ne (by assumption) (by simp) | refine List.forall_mem_cons.mpr ⟨by k_ne, ?_⟩)) | exact Del.tail (by k_ne) (by first | exact Del.head (by repeat' (first | exact List.forall_mem_nil _ | exact OwnOff.ne (by assumption) (by simp) | refine List.forall_mem_cons.mpr ⟨by k_ne, ?_⟩)) | exact Del.tail (by k_ne) (by first | exact Del.head (by repeat' (first | exact List.forall_mem_nil _ | exact OwnOff.ne (by assumption) (by simp) | refine List.forall_mem_cons.mpr ⟨by k_ne, ?_⟩)) | exact Del.tail (by k_ne) (by first | exact Del.head (by repeat' (first | exact List.forall_mem_nil _ | exact OwnOff.ne (by assumption) (by simp) | refine List.forall_mem_cons.mpr ⟨by k_ne, ?_⟩)) | exact Del.tail (by k_ne) (by first | exact Del.head (by repeat' (first | exact List.forall_mem_nil _ | exact OwnOff.ne (by assumption) (by simp) | refine List.forall_mem_cons.mpr ⟨by k_ne, ?_⟩)) | exact Del.tail (by k_ne) (by first | exact Del.head (by repeat' (first | exact List.forall_mem_nil _ | exact OwnOff.ne (by assumption) (by simp) | refine List.forall_mem_cons.mpr ⟨by k_ne, ?_⟩)) | exact Del.tail (by k_ne) (by first | exact Del.head (by repeat' (first | exact List.forall_mem_nil _ | exact OwnOff.ne (by assumption) (by simp) | refine List.forall_mem_cons.mpr ⟨by k_ne, ?_⟩)) | exact Del.tail (by k_ne) (by exact Del.head (by repeat' (first | exact List.forall_mem_nil _ | exact OwnOff.ne (by assumption) (by simp) | refine List.forall_mem_cons.mpr ⟨by k_ne, ?_⟩))))))))))))); (case zzkc => k_mem); (case zzk7 => omega); (case zzk8 => assumption); (case zzk9 => assumption); (case zzk10 => assumption); (case zzk11 => omega); (case zzk12 => omega); (case zzk13 => decide); (case zzk14 => ktr_room); (case zzk15 => ktr_units); k_whole); intro r9 t9 t8 h9 tk9 n9 r0 r1 F9 N9; (try dsimp only); (try k_fold); (try k_sweep)) | (k_dflt (refine' words_use ?zzk1 ?zzk2 ?zzk3 ?zzk4 ?zzk5 ?zzk6 ?zzk7 ?zzk8 ?zzk9 ?zzk10 ?zzk14 ?zzk15 ?_; (case zzk1 => k_asm); (case zzk2 => k_asm); (case zzk3 => k_asm); (case zzk4 => k_asm); (case zzk5 => k_asm); (case zzk6 => first | exact rfl | assumption); (case zzk7 => assumption); (case zzk8 => assumption); (case zzk9 => assumption); (case zzk10 => assumption); (case zzk14 => ktr_room); (case zzk15 => ktr_units); k_whole); intro vs9 h9 tk9 n9 D9 S9 F9 N9 lo9; (try k_lt lo9); (try dsimp only); (try k_fold); (try k_sweep)) | (k_dflt (refine' lw_use ?zzk1 ?zzk2 ?zzk3 ?zzk4 ?zzk5 ?zzk6 ?zzk7 ?zzk8 ?zzk9 ?zzk10 ?zzk14 ?zzk15 ?_; (case zzk1 => k_asm); (case zzk2 => k_asm); (case zzk3 => k_asm); (case zzk4 => k_asm); (case zzk5 => k_asm); (case zzk6 => first | exact rfl | assumption); (case zzk7 => assumption); (case zzk8 => assumption); (case zzk9 => assumption); (case zzk10 => assumption); (case zzk14 => ktr_room); (case zzk15 => ktr_units); k_whole); intro vs9 h9 tk9 n9 D9 S9 F9 N9 lo9; (try k_lt lo9); (try dsimp only); (try k_fold); (try k_sweep)) | (k_dflt (refine' flag_use ?zzk1 ?zzk2 ?zzk3 ?zzk4 ?zzk5 ?zzk6 ?zzkl ?zzkO ?zzkS ?zzkh ?zzk14 ?zzk15 ?_; (case zzk1 => k_asm); (case zzk2 => k_asm); (case zzk3 => k_asm); (case zzk4 => k_asm); (case zzk5 => k_asm); (case zzk6 => first | exact rfl | assumption); (case zzkl => k_mem); (case zzkO => (first | exact ⟨_, .inl rfl⟩ | exact ⟨_, .inr rfl⟩)); (case zzkS => first | assumption | exact strs_rev (by assumption)); (case zzkh => first | assumption | exact ok_of_txt (by assumption)); (case zzk14 => ktr_room); (case zzk15 => ktr_units); k_whole); intro v1 v2 t9 t8 h9 tk9 n9 D9 e9 F9 N9 lo9; (try k_lt lo9); (try dsimp only); (try k_fold); (try k_sweep)) | (k_dflt (refine' read_use ?zzk1 ?zzk2 ?zzk3 ?zzk4 ?zzk5 ?zzk6 ?zzkl ?zzkh ?zzk14 ?zzk15 ?_; (case zzk1 => k_asm); (case zzk2 => k_asm); (case zzk3 => k_asm); (case zzk4 => k_asm); (case zzk5 => k_asm); (case zzk6 => first | exact rfl | assumption); (case zzkl => k_mem); (case zzkh => assumption); (case zzk14 => ktr_room); (case zzk15 => ktr_units); k_whole); intro v1 v2 t9 t8 h9 tk9 n9 D9 e9 F9 N9 lo9; (try k_lt lo9); (try dsimp only); (try k_fold); (try k_sweep)))) | ((fail_if_success (with_reducible show wpAny _ _ (call (Value.ref _) [Value.ref _, Value.int _ _, Value.int _ _, Value.int _ _]) _ _ _)); (first | walk1 | (dsimp only; walk1) | (leave1; (try dsimp only)))) | fail "no step")
    k_dflt (refine' stops_use (ks := []) ?k1 ?k2 ?k3 ?k4 ?k5 ?k6 ?kx ?kg ?kd ?ko ?ks ?kr ?kl ?ke ?kk ?gl ?p0 ?p1 ?w0 ?w1 ?k14 ?k15 ?_; (case k1 => k_asm); (case k2 => k_asm); (case k3 => k_asm); (case k4 => k_asm); (case k5 => k_asm); (case k6 => first | exact rfl | assumption); (case kx => k_mem); (case kg => k_mem); (case kd => k_mem); (case ko => assumption); (case ks => assumption); (case kr => exact .inr ⟨_, 0, rfl, .inl ⟨rfl, rfl⟩⟩); (case kl => exact Nat.zero_le _); (case ke => exact fun e he => absurd he List.not_mem_nil); (case kk => exact fun e he => absurd he List.not_mem_nil); (case gl => first | exact .inl rfl | exact .inr rfl); (case p0 => assumption); (case p1 => assumption); (case w0 => assumption); (case w1 => assumption); (case k14 => ktr_room); (case k15 => ktr_units); k_whole)
    intro D8 vs8 ns8 n8 h8 tk8 i8 s8 F8 N8
    have e8 := stopsR_nil s8
    subst e8
    clear s8
    (try dsimp only)
    repeat' (first | (k_unfold; (try dsimp only)) | ((with_reducible show wpAny _ _ (call (Value.builtin "len") _) _ _ _); (k_here; (with_reducible show wpAny _ _ (call (Value.builtin "len") [Value.ref _]) _ _ _); k_dflt (refine' len_kl ?zzj1 ?zzj2 ?zzj3 ?_; (case zzj1 => k_asm); (case zzj2 => k_mem); (case zzj3 => assumption)); k_whole)) | ((with_reducible show wpAny _ _ (call (Value.type _) _) _ _ _); (k_here; (with_reducible show wpAny _ _ (call (Value.type _) [Value.ref _]) _ _ _); k_dflt (refine' kde_tupleOf ?zzk1 ?zzk2 ?zzk3 ?zzk4 ?zzk5 ?_; (case zzk1 => k_asm); (case zzk2 => k_asm); (case zzk3 => exact News.isList (by k_asm) (by k_mem)); (case zzk4 => (rw [List.size_toArray, List.length_map]; exact Nat.le_trans (by assumption : _ ≤ 3) (by decide))); (case zzk5 => exact List.toList_toArray ..); k_whole); intro D' h' F' N' l1; (try k_lt l1); (try k_sweep))) | ((with_reducible show wpAny _ _ (call (Value.ref _) _) _ _ _); (k_here; (k_dflt (refine' gdef_use ?zzk1 ?zzk2 ?zzk3 ?zzk4 ?zzk5 ?zzk6 ?zzk14 ?zzk15 ?_; (case zzk1 => k_asm); (case zzk2 => k_asm); (case zzk3 => k_asm); (case zzk4 => k_asm); (case zzk5 => k_asm); (case zzk6 => first | exact rfl | assumption); (case zzk14 => ktr_room); (case zzk15 => ktr_units); k_whole)); intro x9 dx9 d9 a1 a2 a3 a4 o9 t1 t2 t3 t4 t5 h9 tk9 F9 N9 lo9 lx9 ld9 ds9 i9; (try dsimp only); (try k_fold); (try k_sweep))) | ((with_reducible show wpAny _ _ (compareOp .NotEq (Value.ref _) (Value.ref _)) _ _ _); (k_here; first | (k_dflt (refine' ne_words ?zzN ?zza ?zzb ?zzsa ?zzsb ?zzp0 ?zzp1 ?zzp2 ?zzp3 ?zzhu ?_; (case zzN => k_asm); (case zza => k_mem); (case zzb => k_mem); (case zzsa => assumption); (case zzsb => assumption); (case zzp0 => assumption); (case zzp1 => assumption); (case zzp2 => assumption); (case zzp3 => assumption); (case zzhu => ktr_units)); (try dsimp only); (try k_fold)) | (k_dflt (refine' ne_pair ?zzN ?zza ?zzb ?zze1 ?zze2 ?zzhu ?_; (case zzN => k_asm); (case zza => k_mem); (case zzb => k_mem); (case zze1 => (first | exact pair_a (by assumption) (by assumption) | exact pair_b (by assumption) (by assumption) | exact pair_c (by assumption) (by assumption) (by assumption) | exact pair_d (by assumption) (by assumption) (by assumption))); (case zze2 => (first | exact pair_a (by assumption) (by assumption) | exact pair_b (by assumption) (by assumption) | exact pair_c (by assumption) (by assumption) (by assumption) | exact pair_d (by assumption) (by assumption) (by assumption))); (case zzhu => ktr_units)); (try dsimp only); (try k_fold)))) | ((with_reducible show wpAny _ _ (call (Value.type _) _) _ _ _); (k_here; (with_reducible show wpAny _ _ (call (Value.type _) [Value.ref _]) _ _ _); k_dflt (refine' kup_listOfT ?zzF ?zzN ?zzb ?zze ?_ ?zzz; (case zzF => k_asm); (case zzN => k_asm); (case zzb => k_mem); (case zze => exact List.toList_toArray ..); (case zzz => exact strs_size (by assumption))); intro D' c' h' F' N' l1; (try k_lt l1); (try k_sweep))) | ((with_reducible show wpAny _ _ (call (Value.ref _) _) _ _ _); (k_here; first | (k_dflt (refine' draw_use ?zzk1 ?zzk2 ?zzk3 ?zzk4 ?zzk5 ?zzk6 ?zzkD ?zzkc ?zzk7 ?zzk8 ?zzk9 ?zzk10 ?zzk11 ?zzk12 ?zzk13 ?zzk14 ?zzk15 ?_; (case zzk1 => k_asm); (case zzk2 => k_asm); (case zzk3 => k_asm); (case zzk4 => k_asm); (case zzk5 => k_asm); (case zzk6 => first | exact rfl | assumption); (case zzkD => (first | exact Del.head (by repeat' (first | exact List.forall_mem_nil _ | exact OwnOff.ne (by assumption) (by simp) | refine List.forall_mem_cons.mpr ⟨by k_ne, ?_⟩)) | exact Del.tail (by k_ne) (by first | exact Del.head (by repeat' (first | exact List.forall_mem_nil _ | exact OwnOff.ne (by assumption) (by simp) | refine List.forall_mem_cons.mpr ⟨by k_ne, ?_⟩)) | exact Del.tail (by k_ne) (by first | exact Del.head (by repeat' (first | exact List.forall_mem_nil _ | exact OwnOff.ne (by assumption) (by simp) | refine List.forall_mem_cons.mpr ⟨by k_ne, ?_⟩)) | exact Del.tail (by k_ne) (by first | exact Del.head (by repeat' (first | exact List.forall_mem_nil _ | exact OwnOff.ne (by assumption) (by simp) | refine List.forall_mem_cons.mpr ⟨by k_ne, ?_⟩)) | exact Del.tail (by k_ne) (by first | exact Del.head (by repeat' (first | exact List.forall_mem_nil _ | exact OwnOff.ne (by assumption) (by simp) | refine List.forall_mem_cons.mpr ⟨by k_ne, ?_⟩)) | exact Del.tail (by k_ne) (by first | exact Del.head (by repeat' (first | exact List.forall_mem_nil _ | exact OwnOff.ne (by assumption) (by simp) | refine List.forall_mem_cons.mpr ⟨by k_ne, ?_⟩)) | exact Del.tail (by k_ne) (by first | exact Del.head (by repeat' (first | exact List.forall_mem_nil _ | exact OwnOff.ne (by assumption) (by simp) | refine List.forall_mem_cons.mpr ⟨by k_ne, ?_⟩)) | exact Del.tail (by k_ne) (by first | exact Del.head (by repeat' (first | exact List.forall_mem_nil _ | exact OwnOff.ne (by assumption) (by simp) | refine List.forall_mem_cons.mpr ⟨by k_ne, ?_⟩)) | exact Del.tail (by k_ne) (by first | exact Del.head (by repeat' (first | exact List.forall_mem_nil _ | exact OwnOff.ne (by assumption) (by simp) | refine List.forall_mem_cons.mpr ⟨by k_ne, ?_⟩)) | exact Del.tail (by k_ne) (by exact Del.head (by repeat' (first | exact List.forall_mem_nil _ | exact OwnOff.ne (by assumption) (by simp) | refine List.forall_mem_cons.mpr ⟨by k_ne, ?_⟩))))))))))))); (case zzkc => k_mem); (case zzk7 => omega); (case zzk8 => assumption); (case zzk9 => assumption); (case zzk10 => assumption); (case zzk11 => omega); (case zzk12 => omega); (case zzk13 => decide); (case zzk14 => ktr_room); (case zzk15 => ktr_units); k_whole); intro r9 t9 t8 h9 tk9 n9 r0 r1 F9 N9; (try dsimp only); (try k_fold); (try k_sweep)) | (k_dflt (refine' words_use ?zzk1 ?zzk2 ?zzk3 ?zzk4 ?zzk5 ?zzk6 ?zzk7 ?zzk8 ?zzk9 ?zzk10 ?zzk14 ?zzk15 ?_; (case zzk1 => k_asm); (case zzk2 => k_asm); (case zzk3 => k_asm); (case zzk4 => k_asm); (case zzk5 => k_asm); (case zzk6 => first | exact rfl | assumption); (case zzk7 => assumption); (case zzk8 => assumption); (case zzk9 => assumption); (case zzk10 => assumption); (case zzk14 => ktr_room); (case zzk15 => ktr_units); k_whole); intro vs9 h9 tk9 n9 D9 S9 F9 N9 lo9; (try k_lt lo9); (try dsimp only); (try k_fold); (try k_sweep)) | (k_dflt (refine' lw_use ?zzk1 ?zzk2 ?zzk3 ?zzk4 ?zzk5 ?zzk6 ?zzk7 ?zzk8 ?zzk9 ?zzk10 ?zzk14 ?zzk15 ?_; (case zzk1 => k_asm); (case zzk2 => k_asm); (case zzk3 => k_asm); (case zzk4 => k_asm); (case zzk5 => k_asm); (case zzk6 => first | exact rfl | assumption); (case zzk7 => assumption); (case zzk8 => assumption); (case zzk9 => assumption); (case zzk10 => assumption); (case zzk14 => ktr_room); (case zzk15 => ktr_units); k_whole); intro vs9 h9 tk9 n9 D9 S9 F9 N9 lo9; (try k_lt lo9); (try dsimp only); (try k_fold); (try k_sweep)) | (k_dflt (refine' flag_use ?zzk1 ?zzk2 ?zzk3 ?zzk4 ?zzk5 ?zzk6 ?zzkl ?zzkO ?zzkS ?zzkh ?zzk14 ?zzk15 ?_; (case zzk1 => k_asm); (case zzk2 => k_asm); (case zzk3 => k_asm); (case zzk4 => k_asm); (case zzk5 => k_asm); (case zzk6 => first | exact rfl | assumption); (case zzkl => k_mem); (case zzkO => (first | exact ⟨_, .inl rfl⟩ | exact ⟨_, .inr rfl⟩)); (case zzkS => first | assumption | exact strs_rev (by assumption)); (case zzkh => first | assumption | exact ok_of_txt (by assumption)); (case zzk14 => ktr_room); (case zzk15 => ktr_units); k_whole); intro v1 v2 t9 t8 h9 tk9 n9 D9 e9 F9 N9 lo9; (try k_lt lo9); (try dsimp only); (try k_fold); (try k_sweep)) | (k_dflt (refine' read_use ?zzk1 ?zzk2 ?zzk3 ?zzk4 ?zzk5 ?zzk6 ?zzkl ?zzkh ?zzk14 ?zzk15 ?_; (case zzk1 => k_asm); (case zzk2 => k_asm); (case zzk3 => k_asm); (case zzk4 => k_asm); (case zzk5 => k_asm); (case zzk6 => first | exact rfl | assumption); (case zzkl => k_mem); (case zzkh => assumption); (case zzk14 => ktr_room); (case zzk15 => ktr_units); k_whole); intro v1 v2 t9 t8 h9 tk9 n9 D9 e9 F9 N9 lo9; (try k_lt lo9); (try dsimp only); (try k_fold); (try k_sweep)))) | walk1 | (dsimp only; walk1) | (leave1; (try dsimp only)) | fail "no step")
    all_goals refine hQ0 _ _ ?_
    all_goals (try dsimp only)
    all_goals wrow_close

)
end Nu
end
theorem PySem.Challenge.cw_nu0152_01_holds : PySem.Challenge.rw_nu0152_01.Holds := by
  exact Nu.main
