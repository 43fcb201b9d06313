import PyProof.Rows.All
import Wide.All
import OpenK.AllK
import Wide.FinOn
import PySem.Challenge.RW_on0101_01
open PySem PySem.W PyProof.Rows PySem.Calls PySem.Spec
set_option Elab.async false
namespace Mine
section
set_option maxRecDepth 100000 in
set_option maxHeartbeats 8000000 in
open_top hd for PySem.Challenge.rw_on0101_01
/-- the walk's lines of a top are for the last theorem alone -/
theorem top_off : True := by w_top off; trivial
end
section
theorem fillit : PySem.Challenge.rw_on0101_01 = PySem.Challenge.rw_on0101_01 ∧ hd.heap_39 = hd.heap_39 := by k_fill; exact ⟨rfl, rfl⟩
abbrev Ledger := List (Addr × Obj)
/-- a contract: what a call of the def at f does, for every caller -/
def Tel (prog : Program) (w : World) (D U : Nat) (f : Addr) (args : List Value) (news : Ledger) (Post : Value → Ledger → Prop) : Prop :=
  ∀ (dp un : Nat) (gd : Option (List Code)) (cn : Str) (cs : Scope) (a : Addr) (ccd : Value) (cl : List (Str × Addr)) (outer : List Env) (A₀ : Around) (base h₀ : Heap) (L : Addr) (m : Str → Option Value) (s : Shared)
    (p : Program) (loose : List Str) (mean : ExcName → Option Value) (mg mb : Str → Option Value) (Q E : Value → Shared → Prop),
    Below A₀ base outer h₀ → Fr h₀ L s.heap m → (hd.heap_39 w.params).In h₀ → News h₀ L s.heap news → Top p loose mean mg mb h₀ → cs.kind = .function → dp + D < recursionLimit → un + U < cLine →
    (∀ r news' h' tk', Post r news' → Fr h₀ L h' m → News h₀ L h' news' → Q r { s with heap := h', toks := tk' }) →
    wpAny (model prog w) (ktrTop dp un gd cn cs L a ccd cl outer) (call (.ref f) args) Q E s
theorem Tel.use {prog : Program} {w : World} {D U : Nat} {f : Addr} {args : List Value} {news : Ledger} {Post : Value → Ledger → Prop}
    {dp un : Nat} {gd : Option (List Code)} {cn : Str} {cs : Scope} {a : Addr} {ccd : Value} {cl : List (Str × Addr)} {outer : List Env} {A₀ : Around} {base h₀ : Heap} {L : Addr} {m : Str → Option Value} {s : Shared}
    {p : Program} {loose : List Str} {mean : ExcName → Option Value} {mg mb : Str → Option Value} {Q E : Value → Shared → Prop}
    (B : Below A₀ base outer h₀) (F : Fr h₀ L s.heap m) (X : (hd.heap_39 w.params).In h₀) (N : News h₀ L s.heap news) (T : Top p loose mean mg mb h₀) (hk : cs.kind = .function)
    (C : Tel prog w D U f args news Post) (hd : dp + D < recursionLimit) (hu : un + U < cLine)
    (ret : ∀ r news' h' tk', Post r news' → Fr h₀ L h' m → News h₀ L h' news' → Q r { s with heap := h', toks := tk' }) :
    wpAny (model prog w) (ktrTop dp un gd cn cs L a ccd cl outer) (call (.ref f) args) Q E s := C _ _ _ _ _ _ _ _ _ _ _ _ _ _ _ _ _ _ _ _ _ _ B F X N T hk hd hu ret
abbrev tupO (l : Int) (tl : Tok) (r : Int) (tr : Tok) : Obj := { cls := .type "tuple", data := .seq #[.int l tl, .int r tr] }
/-- the inverse of a literal -/
def neg (k : Int) : Int := k + 1 - 2 * (k % 2)
theorem xor_one (k : Int) : Builtin.bitXor k 1 = neg k := by rw [bitXor_and, bitAnd_m1]; unfold neg; omega
theorem room1 {d D D' : Nat} (h : d + D < recursionLimit) (he : 1 + D' ≤ D) : d + 1 + D' < recursionLimit := by omega
theorem room0 {d D : Nat} (h : d + D < recursionLimit) : d < recursionLimit := by omega
theorem unit3 {u U U' : Nat} (h : u + U < cLine) (he : 3 + U' ≤ U) : u + 3 + U' < cLine := by omega
theorem unit0 {u U k : Nat} (h : u + U < cLine) (he : k ≤ U) : u + k < cLine := by omega
end
section
/-- what the walk shall not enter -/
def Held (P : Prop) : Prop := P
theorem Held.out {P : Prop} (h : Held P) : P := h
theorem Held.take {P : Prop} (h : P) : Held P := h
theorem ex3 {α : Sort _} {p q r : α → Prop} {P : Prop} (h : ∃ x, p x ∧ q x ∧ r x) (k : ∀ x, p x → q x → r x → P) : P :=
  let ⟨x, a, b, c⟩ := h; k x a b c
theorem ex5 {α β : Sort _} {p q r t : α → β → Prop} {P : Prop} (h : ∃ x y, p x y ∧ q x y ∧ r x y ∧ t x y) (k : ∀ x y, p x y → q x y → r x y → t x y → P) : P :=
  let ⟨x, y, a, b, c, d⟩ := h; k x y a b c d
theorem ex6 {α β : Sort _} {e : Prop} {f : α → Prop} {p q r : β → Prop} {P : Prop} (h : e ∧ (∃ x, f x) ∧ ∃ y, p y ∧ q y ∧ r y) (k : ∀ x y, e → f x → p y → q y → r y → P) : P :=
  let ⟨a, ⟨x, b⟩, y, c, d, g⟩ := h; k x y a b c d g
theorem ex1 {α : Sort _} {p : α → Prop} {P : Prop} (h : ∃ x, p x) (k : ∀ x, p x → P) : P :=
  let ⟨x, a⟩ := h; k x a
theorem ex23a {α β γ : Sort _} {a b : Prop} {p q r : α → β → γ → Prop} {P : Prop} (h : a ∧ b ∧ ∃ x y z, p x y z ∧ q x y z ∧ r x y z) (k : ∀ x y z, a → b → p x y z → q x y z → r x y z → P) : P :=
  let ⟨h1, h2, x, y, z, h3, h4, h5⟩ := h; k x y z h1 h2 h3 h4 h5
theorem ex34 {α β γ : Sort _} {p q r t : α → β → γ → Prop} {P : Prop} (h : ∃ x y z, p x y z ∧ q x y z ∧ r x y z ∧ t x y z) (k : ∀ x y z, p x y z → q x y z → r x y z → t x y z → P) : P :=
  let ⟨x, y, z, a, b, c, d⟩ := h; k x y z a b c d
theorem ex35 {α β γ : Sort _} {p q r t u : α → β → γ → Prop} {P : Prop} (h : ∃ x y z, p x y z ∧ q x y z ∧ r x y z ∧ t x y z ∧ u x y z) (k : ∀ x y z, p x y z → q x y z → r x y z → t x y z → u x y z → P) : P :=
  let ⟨x, y, z, a, b, c, d, e⟩ := h; k x y z a b c d e
theorem ex45 {α β γ δ : Sort _} {p q r t u : α → β → γ → δ → Prop} {P : Prop} (h : ∃ x y z w, p x y z w ∧ q x y z w ∧ r x y z w ∧ t x y z w ∧ u x y z w) (k : ∀ x y z w, p x y z w → q x y z w → r x y z w → t x y z w → u x y z w → P) : P :=
  let ⟨x, y, z, w, a, b, c, d, e⟩ := h; k x y z w a b c d e
theorem ex_cols {α β γ δ ε : Sort _} {a b c d : Prop} {o n : α → β → Prop} {p q r t : γ → δ → ε → Prop} {P : Prop} (h : a ∧ b ∧ c ∧ d ∧ (∃ x y, o x y ∧ n x y) ∧ ∃ x y z, p x y z ∧ q x y z ∧ r x y z ∧ t x y z)
    (k : ∀ v w x y z, a → b → c → d → o v w → n v w → p x y z → q x y z → r x y z → t x y z → P) : P :=
  let ⟨h1, h2, h3, h4, ⟨v, w, h5, h6⟩, x, y, z, h7, h8, h9, h10⟩ := h; k v w x y z h1 h2 h3 h4 h5 h6 h7 h8 h9 h10
theorem ex_sup {α β γ δ ε : Sort _} {a b c : Prop} {o : α → β → Prop} {p q r t : γ → δ → ε → Prop} {P : Prop} (h : a ∧ b ∧ c ∧ (∃ x y, o x y) ∧ ∃ x y z, p x y z ∧ q x y z ∧ r x y z ∧ t x y z)
    (k : ∀ v w x y z, a → b → c → o v w → p x y z → q x y z → r x y z → t x y z → P) : P :=
  let ⟨h1, h2, h3, ⟨v, w, h4⟩, x, y, z, h5, h6, h7, h8⟩ := h; k v w x y z h1 h2 h3 h4 h5 h6 h7 h8
theorem ex23 {α β : Sort _} {p q r : α → β → Prop} {P : Prop} (h : ∃ x y, p x y ∧ q x y ∧ r x y) (k : ∀ x y, p x y → q x y → r x y → P) : P :=
  let ⟨x, y, a, b, c⟩ := h; k x y a b c
section
variable {prog : Program} {w : World} {A : Around} {E : Value → Shared → Prop} {s : Shared} {env : Env} {h₀ : Heap} {x : Str} {body : List Stmt} {Q : Flow → Shared → Prop}
section
variable {h : Heap} {L : Addr} {m : Str → Option Value}
theorem fr_name {k : Str} {v : Option Value} (e : m k = v) (F : Fr h₀ L h m) : Fr h₀ L h (fun y => if y = k then v else m y) := by
  have e' : (fun y => if y = k then v else m y) = m := by
    funext y
    by_cases hy : y = k
    · rw [if_pos hy, hy, e]
    · rw [if_neg hy]
  rw [e']; exact F
theorem fr_names4 {k1 k2 k3 k4 : Str} {v1 v2 v3 v4 : Option Value} (e1 : m k1 = v1) (e2 : m k2 = v2) (e3 : m k3 = v3) (e4 : m k4 = v4) (F : Fr h₀ L h m) :
    Fr h₀ L h (fun y => if y = k1 then v1 else if y = k2 then v2 else if y = k3 then v3 else if y = k4 then v4 else m y) := by
  have e' : (fun y => if y = k1 then v1 else if y = k2 then v2 else if y = k3 then v3 else if y = k4 then v4 else m y) = m := by
    funext y
    by_cases h1 : y = k1
    · rw [if_pos h1, h1, e1]
    · rw [if_neg h1]
      by_cases h2 : y = k2
      · rw [if_pos h2, h2, e2]
      · rw [if_neg h2]
        by_cases h3 : y = k3
        · rw [if_pos h3, h3, e3]
        · rw [if_neg h3]
          by_cases h4 : y = k4
          · rw [if_pos h4, h4, e4]
          · rw [if_neg h4]
  rw [e']; exact F
theorem fr_names5 {k1 k2 k3 k4 k5 : Str} {v1 v2 v3 v4 v5 : Option Value} (e1 : m k1 = v1) (e2 : m k2 = v2) (e3 : m k3 = v3) (e4 : m k4 = v4) (e5 : m k5 = v5) (F : Fr h₀ L h m) :
    Fr h₀ L h (fun y => if y = k1 then v1 else if y = k2 then v2 else if y = k3 then v3 else if y = k4 then v4 else if y = k5 then v5 else m y) := by
  have F' := fr_name e5 F
  have e' : (fun y => if y = k1 then v1 else if y = k2 then v2 else if y = k3 then v3 else if y = k4 then v4 else if y = k5 then v5 else m y) = fun y => if y = k5 then v5 else m y := by
    funext y
    by_cases h1 : y = k1
    · rw [if_pos h1, h1]; by_cases h : k1 = k5
      · rw [if_pos h, ← e1, h, e5]
      · rw [if_neg h, e1]
    · rw [if_neg h1]
      by_cases h2 : y = k2
      · rw [if_pos h2, h2]; by_cases h : k2 = k5
        · rw [if_pos h, ← e2, h, e5]
        · rw [if_neg h, e2]
      · rw [if_neg h2]
        by_cases h3 : y = k3
        · rw [if_pos h3, h3]; by_cases h : k3 = k5
          · rw [if_pos h, ← e3, h, e5]
          · rw [if_neg h, e3]
        · rw [if_neg h3]
          by_cases h4 : y = k4
          · rw [if_pos h4, h4]; by_cases h : k4 = k5
            · rw [if_pos h, ← e4, h, e5]
            · rw [if_neg h, e4]
          · rw [if_neg h4]
  rw [e']; exact F'
theorem fr_names3 {k1 k2 k3 : Str} {v1 v2 v3 : Option Value} (F : Fr h₀ L h m) (e1 : m k1 = v1) (e2 : m k2 = v2) (e3 : m k3 = v3) :
    Fr h₀ L h (fun y => if y = k1 then v1 else if y = k2 then v2 else if y = k3 then v3 else m y) := fr_names4 e1 e2 e3 (k4 := k3) (v4 := v3) e3 F |> fun F' => by
  have e' : (fun y => if y = k1 then v1 else if y = k2 then v2 else if y = k3 then v3 else m y) = fun y => if y = k1 then v1 else if y = k2 then v2 else if y = k3 then v3 else if y = k3 then v3 else m y := by
    funext y
    by_cases h : y = k3
    · simp only [if_pos h]
    · simp only [if_neg h]
  rw [e']; exact F'
end
abbrev tupOf (vs : List Value) (n : Nat) : Obj := { cls := .type "tuple", data := .seq vs.toArray n }
set_option maxHeartbeats 3200000 in
/-- a loop over a tuple of the ledger, by any word J over the turn, the names and the ledger -/
theorem tup_loop {t : Addr} {vs : List Value} {nn : Nat} {m₀ : Str → Option Value} {news : Ledger} (J : Nat → (Str → Option Value) → Ledger → Prop)
    (hh : A.handled = none) (hl : (t, tupOf vs nn) ∈ news) (F : Fr h₀ env.locals s.heap m₀) (N : News h₀ env.locals s.heap news) (hj : J 0 m₀ news)
    (turn : ∀ i v m₁ nx h tk own, vs[i]? = some v → OwnOff own (nx.map (·.1)) → (t, tupOf vs nn) ∈ nx → J i m₁ nx → Fr h₀ env.locals h (fun y => if y = x then some v else m₁ y) → News h₀ env.locals h (nx ++ own) →
      wpAny (model prog w) A (execs body env) (InvPostG h₀ env.locals (fun m' nx => (t, tupOf vs nn) ∈ nx ∧ J (i + 1) m' nx) own { s with heap := h, toks := tk } Q) E { s with heap := h, toks := tk })
    (done : ∀ m₁ nx h tk, (t, tupOf vs nn) ∈ nx → J vs.length m₁ nx → Fr h₀ env.locals h m₁ → News h₀ env.locals h nx → Q .next { s with heap := h, toks := tk }) :
    wpAny (model prog w) A (pyIter (.ref t)) (fun it s₂ => LoopAtV prog w A h₀ env x body Q E it s₂) E s := by
  have hg : s.heap.get? t = some (tupOf vs nn) := (N _ hl).1
  have hls : s.heap.IsTuple t vs.toArray := ⟨_, hg, rfl, nn, rfl⟩
  have hne : t ≠ s.heap.objs.size := Nat.ne_of_lt (Heap.lt_size hg)
  refine wpAny_pyIter_tuple hls ?_
  have W := Walks.tuple (prog := prog) (w := w) hh s.heap.objs.size t hne vs.toArray
  have hlen : vs.toArray.size = vs.length := by simp
  rw [hlen] at W
  refine ⟨_, _, _, vs.length, _, _, m₀, news, (fun i m nx => (t, tupOf vs nn) ∈ nx ∧ J i m nx), rfl, W, ?_, ?_, ?_, ⟨⟨_, Heap.get?_push_size _ rfl, rfl, rfl⟩, hls.at fun o e => Heap.get?_push_of_some _ e⟩, F.push _, (fun p hp => ⟨Heap.get?_push_of_some _ (N p hp).1, (N p hp).2⟩), ⟨hl, hj⟩, ?_, ?_⟩
  · intro hm
    rcases List.mem_cons.mp hm with e | hm
    · exact absurd F.ns.lt (e ▸ Nat.lt_irrefl _)
    · exact (N _ hl).2.1 ((List.mem_singleton.mp hm).symm)
  · intro b hb
    rw [List.mem_singleton.mp hb]
    exact next_is_new F
  · intro p hp hI
    exact absurd (Heap.lt_size (N p hp).1) ((List.mem_singleton.mp hI) ▸ Nat.lt_irrefl _)
  · rintro i v m₁ nx s₁ own ⟨hh', tk', rfl⟩ hin hP ⟨hl₁, hJ⟩ hoff hown hget hfp hst F₁ N₁
    have hP' : vs[i]? = some v := by simpa using hP
    obtain ⟨⟨oI, hoI, _⟩, _⟩ := id hst
    have mI : (s.heap.objs.size, oI) ∈ own := hfp _ (List.mem_cons.mpr (.inl rfl)) (next_is_new F) _ hoI
    have sep : OwnOff [(s.heap.objs.size, oI)] (nx.map (·.1)) := by
      intro p hp b hb e
      obtain ⟨q, hq, rfl⟩ := List.mem_map.mp hb
      rw [List.mem_singleton.mp hp] at e
      exact hoff q hq (List.mem_singleton.mpr e.symm)
    have N₂ : News h₀ env.locals hh' (nx ++ [(s.heap.objs.size, oI)]) := fun p hp => N₁ p ((List.mem_append.mp hp).elim (fun h => List.mem_append.mpr (.inr h)) fun h => List.mem_append.mpr (.inl ((List.mem_singleton.mp h) ▸ mI)))
    have hlo : hh'.get? t = some (tupOf vs nn) := (N₁ _ (List.mem_append.mpr (.inr hl₁))).1
    refine wpAny_mono (turn i v m₁ nx hh' tk' _ hP' sep hl₁ hJ F₁ N₂) (fun f s₂ p => ?_) fun _ _ e => e
    have fin : InvEndG h₀ env.locals (fun m' nx => (t, tupOf vs nn) ∈ nx ∧ J (i + 1) m' nx) [(s.heap.objs.size, oI)] { s with heap := hh', toks := tk' } s₂ →
        LoopStepU h₀ env.locals [s.heap.objs.size] own (fun m nx => (t, tupOf vs nn) ∈ nx ∧ J (i + 1) m nx) { s with heap := hh', toks := tk' } .next s₂ := by
      rintro ⟨h', tk, m', news', ny, e, F', N', hn, ho, ha, hm⟩
      refine ⟨rfl, h', tk, m', ny, e, F', fun p hp => ?_, fun p hp hq => ?_, hm⟩
      · rcases List.mem_append.mp hp with h | h
        · rcases List.mem_cons.mp (hown p h) with h2 | h2
          · have h3 : hh'.get? p.1 = some p.2 := hget p h
            have h4 : p = (s.heap.objs.size, oI) := Prod.ext h2 (by rw [h2, hoI] at h3; exact (Option.some.inj h3).symm)
            rw [h4]; exact N' _ (ho _ (List.mem_singleton.mpr rfl))
          · have h1 := List.mem_singleton.mp h2
            have h3 : hh'.get? p.1 = some p.2 := hget p h
            have h4 : p = (t, tupOf vs nn) := Prod.ext h1 (by rw [h1, hlo] at h3; exact (Option.some.inj h3).symm)
            rw [h4]; exact N' _ (hn _ hm.1)
        · exact N' p (hn p h)
      · exact ha _ (List.mem_singleton.mpr rfl) p.1 (List.mem_map.mpr ⟨p, hp, rfl⟩) (List.mem_singleton.mp hq).symm
    cases f with
    | ret v => exact .ret p
    | brk => exact .brk p
    | next => exact .next (fin p)
    | cont => exact .cont (fin p)
  · rintro h' tk m' nx F' N' _ ⟨hl', hJ⟩
    exact done m' nx h' tk hl' hJ F' N'
set_option maxHeartbeats 3200000 in
/-- a loop over a tuple of the ledger whose target is no plain name, by any word J -/
theorem tup_turns {target : Expr} {t : Addr} {vs : List Value} {nn : Nat} {m₀ : Str → Option Value} {news : Ledger} (J : Nat → (Str → Option Value) → Ledger → Prop)
    (hh : A.handled = none) (hl : (t, tupOf vs nn) ∈ news) (F : Fr h₀ env.locals s.heap m₀) (N : News h₀ env.locals s.heap news) (hj : J 0 m₀ news)
    (turn : ∀ i v m₁ nx h tk own, vs[i]? = some v → OwnOff own (nx.map (·.1)) → (∀ p ∈ own, p.2.cls = .type "tuple_iterator") → (t, tupOf vs nn) ∈ nx → J i m₁ nx → Fr h₀ env.locals h m₁ → News h₀ env.locals h (nx ++ own) →
      wpAny (model prog w) A (assign target env v) (fun _ s₂ => wpAny (model prog w) A (execs body env) (InvPostG h₀ env.locals (fun m' nx => (t, tupOf vs nn) ∈ nx ∧ J (i + 1) m' nx) own { s with heap := h, toks := tk } Q) E s₂) E { s with heap := h, toks := tk })
    (done : ∀ m₁ nx h tk, (t, tupOf vs nn) ∈ nx → J vs.length m₁ nx → Fr h₀ env.locals h m₁ → News h₀ env.locals h nx → Q .next { s with heap := h, toks := tk }) :
    wpAny (model prog w) A (pyIter (.ref t)) (fun it s₂ => TurnsAt prog w A h₀ env target body Q E it s₂) E s := by
  have hg : s.heap.get? t = some (tupOf vs nn) := (N _ hl).1
  have hls : s.heap.IsTuple t vs.toArray := ⟨_, hg, rfl, nn, rfl⟩
  have hne : t ≠ s.heap.objs.size := Nat.ne_of_lt (Heap.lt_size hg)
  refine wpAny_pyIter_tuple hls ?_
  have W := KTurns.ofWalks (target := target) (Walks.tuple (prog := prog) (w := w) hh s.heap.objs.size t hne vs.toArray) fun i v s Q E st q => letGo_tupleiter st.1 q
  have hlen : vs.toArray.size = vs.length := by simp
  rw [hlen] at W
  refine ⟨_, _, _, vs.length, _, _, _, m₀, news, (fun i m nx => (t, tupOf vs nn) ∈ nx ∧ J i m nx), rfl, W, ?_, ?_, ?_, ⟨⟨_, Heap.get?_push_size _ rfl, rfl, rfl⟩, hls.at fun o e => Heap.get?_push_of_some _ e⟩, F.push _, (fun p hp => ⟨Heap.get?_push_of_some _ (N p hp).1, (N p hp).2⟩), ⟨hl, hj⟩, ?_, ?_⟩
  · intro hm
    rcases List.mem_cons.mp hm with e | hm
    · exact absurd F.ns.lt (e ▸ Nat.lt_irrefl _)
    · exact (N _ hl).2.1 ((List.mem_singleton.mp hm).symm)
  · intro b hb
    rw [List.mem_singleton.mp hb]
    exact next_is_new F
  · intro p hp hI
    exact absurd (Heap.lt_size (N p hp).1) ((List.mem_singleton.mp hI) ▸ Nat.lt_irrefl _)
  · rintro i v m₁ nx hh' tk' own hin hP ⟨hl₁, hJ⟩ hoff hown hget hfp hst F₁ N₁
    have hP' : vs[i]? = some v := by simpa using hP
    obtain ⟨⟨oI, hoI, hcI, _⟩, _⟩ := id hst
    have mI : (s.heap.objs.size, oI) ∈ own := hfp _ (List.mem_cons.mpr (.inl rfl)) (next_is_new F) _ hoI
    have sep : OwnOff [(s.heap.objs.size, oI)] (nx.map (·.1)) := by
      intro p hp b hb e
      obtain ⟨q, hq, rfl⟩ := List.mem_map.mp hb
      rw [List.mem_singleton.mp hp] at e
      exact hoff q hq (List.mem_singleton.mpr e.symm)
    have N₂ : News h₀ env.locals hh' (nx ++ [(s.heap.objs.size, oI)]) := fun p hp => N₁ p ((List.mem_append.mp hp).elim (fun h => List.mem_append.mpr (.inr h)) fun h => List.mem_append.mpr (.inl ((List.mem_singleton.mp h) ▸ mI)))
    have hlo : hh'.get? t = some (tupOf vs nn) := (N₁ _ (List.mem_append.mpr (.inr hl₁))).1
    refine wpAny_mono (turn i v m₁ nx hh' tk' _ hP' sep (fun p hp => by rw [List.mem_singleton.mp hp]; exact hcI) hl₁ hJ F₁ N₂) (fun _ s₂ q => wpAny_mono q (fun f s₃ p => ?_) fun _ _ e => e) fun _ _ e => e
    have fin : InvEndG h₀ env.locals (fun m' nx => (t, tupOf vs nn) ∈ nx ∧ J (i + 1) m' nx) [(s.heap.objs.size, oI)] { s with heap := hh', toks := tk' } s₃ →
        LoopStepU h₀ env.locals [s.heap.objs.size] own (fun m nx => (t, tupOf vs nn) ∈ nx ∧ J (i + 1) m nx) { s with heap := hh', toks := tk' } .next s₃ := by
      rintro ⟨h', tk, m', news', ny, e, F', N', hn, ho, ha, hm⟩
      refine ⟨rfl, h', tk, m', ny, e, F', fun p hp => ?_, fun p hp hq => ?_, hm⟩
      · rcases List.mem_append.mp hp with h | h
        · rcases List.mem_cons.mp (hown p h) with h2 | h2
          · have h3 : hh'.get? p.1 = some p.2 := hget p h
            have h4 : p = (s.heap.objs.size, oI) := Prod.ext h2 (by rw [h2, hoI] at h3; exact (Option.some.inj h3).symm)
            rw [h4]; exact N' _ (ho _ (List.mem_singleton.mpr rfl))
          · have h1 := List.mem_singleton.mp h2
            have h3 : hh'.get? p.1 = some p.2 := hget p h
            have h4 : p = (t, tupOf vs nn) := Prod.ext h1 (by rw [h1, hlo] at h3; exact (Option.some.inj h3).symm)
            rw [h4]; exact N' _ (hn _ hm.1)
        · exact N' p (hn p h)
      · exact ha _ (List.mem_singleton.mpr rfl) p.1 (List.mem_map.mpr ⟨p, hp, rfl⟩) (List.mem_singleton.mp hq).symm
    cases f with
    | ret v => exact .ret p
    | brk => exact .brk p
    | next => exact .next (fin p)
    | cont => exact .cont (fin p)
  · rintro h' tk m' nx F' N' _ ⟨hl', hJ⟩
    exact done m' nx h' tk hl' hJ F' N'
theorem fits_long {i : Int} (h0 : -1000000 ≤ i) (h1 : i ≤ 1000000) : Builtin.Range.rangeFitsLong i = true := by
  unfold Builtin.Range.rangeFitsLong
  rw [Bool.and_eq_true, decide_eq_true_eq, decide_eq_true_eq]
  omega
theorem range_small (n : Nat) (h : n ≤ 1000) : Builtin.Range.small 0 (n : Int) 1 = true ∧ Builtin.Range.rangeSize 0 (n : Int) 1 = (n : Int) := by
  have hsz : Builtin.Range.rangeSize 0 (n : Int) 1 = (n : Int) := by
    unfold Builtin.Range.rangeSize
    rw [if_pos (by decide)]
    split <;> omega
  refine ⟨?_, hsz⟩
  unfold Builtin.Range.small
  rw [hsz, fits_long (by omega) (by omega), fits_long (by omega) (by omega), fits_long (by omega) (by omega), if_pos (by decide), fits_long (by omega) (by omega)]
  simp
set_option maxHeartbeats 3200000 in
/-- a loop over range(n), by any word J -/
theorem range_loop {rA : Addr} {n : Nat} {t₀ u₀ v₀ : Tok} {m₀ : Str → Option Value} {news : Ledger} (J : Nat → (Str → Option Value) → Ledger → Prop)
    (hh : A.handled = none) (hr : IsRange s.heap rA 0 (n : Int) 1 t₀ u₀ v₀) (hn : n ≤ 1000) (F : Fr h₀ env.locals s.heap m₀) (N : News h₀ env.locals s.heap news) (hj : J 0 m₀ news)
    (turn : ∀ (i : Nat) t m₁ nx h tk own, i < n → OwnOff own (nx.map (·.1)) → (∀ p ∈ own, p.2.cls = .type "range_iterator") → J i m₁ nx → Fr h₀ env.locals h (fun y => if y = x then some (.int (i : Int) t) else m₁ y) → News h₀ env.locals h (nx ++ own) →
      wpAny (model prog w) A (execs body env) (InvPostG h₀ env.locals (J (i + 1)) own { s with heap := h, toks := tk } Q) E { s with heap := h, toks := tk })
    (done : ∀ m₁ nx h tk, J n m₁ nx → Fr h₀ env.locals h m₁ → News h₀ env.locals h nx → Q .next { s with heap := h, toks := tk }) :
    wpAny (model prog w) A (pyIter (.ref rA)) (fun it s₂ => LoopAtV prog w A h₀ env x body Q E it s₂) E s := by
  obtain ⟨hsm, hsz⟩ := range_small n hn
  refine wpAny_pyIter_range hr hsm ?_
  have W := (Walks.range (prog := prog) (w := w) hh s.heap.objs.size 0 1 n)
  refine ⟨_, _, _, n, _, _, m₀, news, J, rfl, W, ?_, ?_, ?_, ?_, F.push _, (fun p hp => ⟨Heap.get?_push_of_some _ (N p hp).1, (N p hp).2⟩), hj, ?_, ?_⟩
  · intro hm
    exact absurd F.ns.lt ((List.mem_singleton.mp hm) ▸ Nat.lt_irrefl _)
  · intro b hb
    rw [List.mem_singleton.mp hb]
    exact next_is_new F
  · intro p hp hI
    exact absurd (Heap.lt_size (N p hp).1) ((List.mem_singleton.mp hI) ▸ Nat.lt_irrefl _)
  · show IsRangeIter _ _ _ _ _
    rw [hsz]
    simpa using Heap.get?_push_size _ rfl
  · rintro i v m₁ nx s₁ own ⟨hh', tk', rfl⟩ hin ⟨t, rfl⟩ hJ hoff hown hget hfp hst F₁ N₁
    have hoI : hh'.get? s.heap.objs.size = some _ := hst
    have mI := hfp _ (List.mem_singleton.mpr rfl) (next_is_new F) _ hoI
    have only : ∀ p ∈ own, p.2.cls = .type "range_iterator" := fun p hp => by
      have h3 := hget p hp
      rw [List.mem_singleton.mp (hown p hp), hoI] at h3
      rw [← Option.some.inj h3]
    have sep : OwnOff own (nx.map (·.1)) := by
      intro p hp b hb e
      obtain ⟨q, hq, rfl⟩ := List.mem_map.mp hb
      exact hoff q hq (e ▸ hown p hp)
    have N₂ : News h₀ env.locals hh' (nx ++ own) := fun p hp => N₁ p ((List.mem_append.mp hp).elim (fun h => List.mem_append.mpr (.inr h)) fun h => List.mem_append.mpr (.inl h))
    have F₂ : Fr h₀ env.locals hh' (fun y => if y = x then some (.int (i : Int) t) else m₁ y) := by
      have e : (0 : Int) + (i : Int) * 1 = (i : Int) := by omega
      rw [e] at F₁; exact F₁
    refine wpAny_mono (turn i t m₁ nx hh' tk' own hin sep only hJ F₂ N₂) (fun f s₂ p => ?_) fun _ _ e => e
    have fin : InvEndG h₀ env.locals (J (i + 1)) own { s with heap := hh', toks := tk' } s₂ → LoopStepU h₀ env.locals [s.heap.objs.size] own (J (i + 1)) { s with heap := hh', toks := tk' } .next s₂ := by
      rintro ⟨h', tk, m', news', ny, e, F', N', hn', ho, ha, hm⟩
      refine ⟨rfl, h', tk, m', ny, e, F', fun p hp => N' p ((List.mem_append.mp hp).elim (ho p) (hn' p)), fun p hp hq => ?_, hm⟩
      exact ha _ mI p.1 (List.mem_map.mpr ⟨p, hp, rfl⟩) (List.mem_singleton.mp hq).symm
    cases f with
    | ret v => exact .ret p
    | brk => exact .brk p
    | next => exact .next (fin p)
    | cont => exact .cont (fin p)
  · rintro h' tk m' nx F' N' _ hJ
    exact done m' nx h' tk hJ F' N'
/-- a search through a tuple of two ints: P holds of each item that is passed -/
theorem pair_search {t : Addr} {l r : Int} {tl tr : Tok} {m₀ : Str → Option Value} {news : Ledger} (P : Int → Prop)
    (hh : A.handled = none) (hl : (t, tupO l tl r tr) ∈ news) (F : Fr h₀ env.locals s.heap m₀) (N : News h₀ env.locals s.heap news)
    (turn : ∀ k u h tk own, (k = l ∨ (k = r ∧ P l)) → OwnOff own (news.map (·.1)) → Fr h₀ env.locals h (fun y => if y = x then some (.int k u) else m₀ y) → News h₀ env.locals h (news ++ own) →
      wpAny (model prog w) A (execs body env) (InvPostG h₀ env.locals (fun m' nx => nx = news ∧ P k ∧ ∀ z, z ≠ x → m' z = m₀ z) own { s with heap := h, toks := tk } Q) E { s with heap := h, toks := tk })
    (done : ∀ (u : Str → Option Value) h tk, P l → P r → Fr h₀ env.locals h (fun y => if y = x then u y else m₀ y) → News h₀ env.locals h news → Q .next { s with heap := h, toks := tk }) :
    wpAny (model prog w) A (pyIter (.ref t)) (fun it s₂ => LoopAtV prog w A h₀ env x body Q E it s₂) E s := by
  have fr : ∀ {h : Heap} {m₁ : Str → Option Value} {v : Option Value}, (∀ z, z ≠ x → m₁ z = m₀ z) → Fr h₀ env.locals h (fun y => if y = x then v else m₁ y) → Fr h₀ env.locals h (fun y => if y = x then v else m₀ y) := by
    intro h m₁ v hm F'
    have e : (fun y => if y = x then v else m₁ y) = (fun y => if y = x then v else m₀ y) := by
      funext y
      by_cases hy : y = x
      · simp [hy]
      · simp only [if_neg hy]; exact hm y hy
    rw [e] at F'; exact F'
  refine tup_loop (vs := [.int l tl, .int r tr]) (nn := 0) (fun i m nx => nx = news ∧ (1 ≤ i → P l) ∧ (2 ≤ i → P r) ∧ ∀ z, z ≠ x → m z = m₀ z) hh hl F N ⟨rfl, fun h => by omega, fun h => by omega, fun _ _ => rfl⟩ ?_ ?_
  · rintro i v m₁ nx h tk own hv hoff _ ⟨rfl, p1, p2, hm⟩ F₁ N₁
    have go : ∀ k u, v = .int k u → (k = l ∨ (k = r ∧ P l)) → (P k → (1 ≤ i + 1 → P l) ∧ (2 ≤ i + 1 → P r)) → wpAny (model prog w) A (execs body env) (InvPostG h₀ env.locals (fun m' ny => (t, tupOf [.int l tl, .int r tr] 0) ∈ ny ∧ ny = nx ∧ (1 ≤ i + 1 → P l) ∧ (2 ≤ i + 1 → P r) ∧ ∀ z, z ≠ x → m' z = m₀ z) own { s with heap := h, toks := tk } Q) E { s with heap := h, toks := tk } := by
      rintro k u rfl hk hp
      refine wpAny_mono (turn k u h tk own hk hoff (fr hm F₁) N₁) (fun f s₂ q => ?_) fun _ _ e => e
      have fin : InvEndG h₀ env.locals (fun m' ny => ny = nx ∧ P k ∧ ∀ z, z ≠ x → m' z = m₀ z) own { s with heap := h, toks := tk } s₂ →
          InvEndG h₀ env.locals (fun m' ny => (t, tupOf [.int l tl, .int r tr] 0) ∈ ny ∧ ny = nx ∧ (1 ≤ i + 1 → P l) ∧ (2 ≤ i + 1 → P r) ∧ ∀ z, z ≠ x → m' z = m₀ z) own { s with heap := h, toks := tk } s₂ := by
        rintro ⟨h', tk', m', news', ny, e, F', N', a, b, c, rfl, d1, d2⟩
        exact ⟨h', tk', m', news', ny, e, F', N', a, b, c, hl, rfl, (hp d1).1, (hp d1).2, d2⟩
      cases f with
      | ret v => exact q
      | brk => exact q
      | next => exact fin q
      | cont => exact fin q
    match i, hv with
    | 0, hv => exact go l tl (by simpa using hv.symm) (.inl rfl) fun h => ⟨fun _ => h, fun h2 => by omega⟩
    | 1, hv => exact go r tr (by simpa using hv.symm) (.inr ⟨rfl, p1 (Nat.le_refl _)⟩) fun h => ⟨fun _ => p1 (Nat.le_refl _), fun _ => h⟩
    | i + 2, hv => simp at hv
  · rintro m₁ nx h tk _ ⟨rfl, p1, p2, hm⟩ F₁ N₁
    refine done m₁ h tk (p1 (by simp)) (p2 (by simp)) ?_ N₁
    have e : (fun y => if y = x then m₁ y else m₀ y) = m₁ := by
      funext y
      by_cases hy : y = x
      · simp [hy]
      · simp only [if_neg hy]; exact (hm y hy).symm
    rw [e]; exact F₁
end
end
local macro_rules | `(tactic| k_mem) => `(tactic| (refine' List.mem_cons_of_mem _ ?_; k_mem))
local macro_rules | `(tactic| ktr_room) => `(tactic| first | exact room1 (by assumption) (by decide) | exact room0 (by assumption) | exact Nat.le_of_ble_eq_true rfl | ((try simp only [depth_under_make, depth_under_kw, depth_in1, depth_deeper, depth_caller] at *); (try dsimp only [ktrTop] at *); (simp only [recursionLimit] at *); omega))
local macro_rules | `(tactic| ktr_units) => `(tactic| first | exact unit3 (by assumption) (by decide) | exact unit0 (by assumption) (by decide) | exact Nat.le_of_ble_eq_true rfl | (have hcL9 := cLine_is; (try simp only [units_in1, Around.deeper_units, Around.mark_units] at *); (try dsimp only [ktrTop] at *); omega))
local macro_rules | `(tactic| ktr_rel) => `(tactic| (
  (case k1 => k_asm); (case k2 => k_asm); (case k3 => k_asm); (case k4 => k_asm); (case k5 => k_asm);
  (case kK => first | exact rfl | assumption); (case kd => ktr_room); (case ku => ktr_units)))
local macro_rules | `(tactic| walk_at $s:str) => `(tactic| k_extra $s)
section
theorem off_B1 : True := by w_top off; trivial
def opp (l r k : Int) : Bool := decide (l = neg k) || decide (r = neg k)
def oth (l r k : Int) : Int := if l = k then r else l
theorem opp_a {l r k : Int} (h : l = Builtin.bitXor k 1) : (l == Builtin.bitXor k 1) = opp l r k := by rw [xor_one] at *; simp [opp, h]
theorem opp_b {l r k : Int} (h : ¬ l = Builtin.bitXor k 1) : (r == Builtin.bitXor k 1) = opp l r k := by
  rw [xor_one] at *; simp only [opp, decide_eq_false h, Bool.false_or]; by_cases hh : r = neg k <;> simp [hh]
set_option maxRecDepth 100000 in
set_option maxHeartbeats 8000000 in
theorem opposed_ok {prog : Program} {w : World} {news : Ledger} {v : Value} {pr : Addr} {l r k : Int} {tl tr tk : Tok} (hm : (pr, tupO l tl r tr) ∈ news) :
    Tel prog w 1 3 28 [v, .ref pr, .int k tk] news (fun q news' => news = news' ∧ Value.bool (opp l r k) = q) := by
  k_with_none
  unfold Tel
  intro dp un gd cn cs a ccd cl outer A₀ base h₀ L m s p loose mean mg mb Q E B F X N T hk hd hu hret
  refine wpAny_call ?_
  k_dflt ktr_enter
  k_steps
  · exact hret _ _ _ _ ⟨rfl, congrArg Value.bool (opp_a (by assumption)).symm⟩ (by k_asm) (by k_asm)
  · exact hret _ _ _ _ ⟨rfl, congrArg Value.bool (opp_b (by assumption)).symm⟩ (by k_asm) (by k_asm)
set_option maxRecDepth 100000 in
set_option maxHeartbeats 8000000 in
theorem other_ok {prog : Program} {w : World} {news : Ledger} {pr : Addr} {l r k : Int} {tl tr tk : Tok} (hm : (pr, tupO l tl r tr) ∈ news) :
    Tel prog w 1 3 35 [.ref pr, .int k tk] news (fun q news' => news = news' ∧ ∃ t, Value.int (oth l r k) t = q) := by
  k_with_none
  unfold Tel
  intro dp un gd cn cs a ccd cl outer A₀ base h₀ L m s p loose mean mg mb Q E B F X N T hk hd hu hret
  refine wpAny_call ?_
  k_dflt ktr_enter
  k_steps
  · exact hret _ _ _ _ ⟨rfl, _, by rw [oth, if_pos (by assumption)]⟩ (by k_asm) (by k_asm)
  · exact hret _ _ _ _ ⟨rfl, _, by rw [oth, if_neg (by assumption)]⟩ (by k_asm) (by k_asm)
end
section
theorem off_B2 : True := by w_top off; trivial
def rp (l r a b : Int) (gb : Option (Int × Int)) : Option Int :=
  if b = l ∨ b = r then some a else if opp l r b then some 0 else match gb with
    | none => none
    | some (l2, r2) => if Builtin.bitAnd b 1 = 0 then (if opp l r l2 then some 0 else if opp l r r2 then some 0 else none) else none
def NodeIs (news : Ledger) (v : Value) : Option (Int × Int) → Prop
  | none => v = .none
  | some (l, r) => ∃ t tl tr, v = .ref t ∧ (t, tupO l tl r tr) ∈ news
theorem shr1 (a : Int) : a.fdiv (2 ^ Int.toNat 1) = a / 2 := by
  show a.fdiv 2 = a / 2
  exact Int.fdiv_eq_ediv_of_nonneg a (by decide)
theorem idx_half {prog : Program} {w : World} {A : Around} {E : Value → Shared → Prop} {s : Shared} {value slice : PySem.Expr} {h₀ : Heap} {L nA : Addr} {news : Ledger} {nv : List Value} {nn : Nat} {k a : Int} {u : Tok} {v : Value} {Q : Value → Shared → Prop}
    (N : News h₀ L s.heap news) (hm : (nA, listOf nv.toArray nn) ∈ news) (hk : k = a / 2) (hlen : nv.length < 1000) (h0 : 0 ≤ a) (hx : nv[(a / 2).toNat]? = some v) (h : Q v s)
    (hs : subscripted slice false (.ref nA) (.int k u) = operate [.ref nA, .int k u] (getItem (.ref nA) (.int k u)) := by with_unfolding_all rfl) :
    wpAny (model prog w) A (subscriptTail value slice (.ref nA) (.int k u)) Q E s := by
  have hL : s.heap.IsList nA nv.toArray := ⟨_, (N _ hm).1, rfl, nn, rfl⟩
  have hlt : (a / 2).toNat < nv.length := (List.getElem?_eq_some_iff.mp hx).1
  subst hk
  exact tail_any hL.typeIs slot_list_getitem.lookup (wpAny_getItem_list hL (by omega) (by omega) (by simpa using hx) h) hs
theorem in_pair {prog : Program} {w : World} {A : Around} {E : Value → Shared → Prop} {s : Shared} {h₀ : Heap} {L t : Addr} {news : Ledger} {k l r : Int} {u tl tr : Tok} {Q : Value → Shared → Prop}
    (N : News h₀ L s.heap news) (hm : (t, tupO l tl r tr) ∈ news) (h : Q (.bool (decide (k = l ∨ k = r))) s) : wpAny (model prog w) A (compareOp .In (.int k u) (.ref t)) Q E s := by
  refine in_tuple_ints (ns := [l, r]) (items := #[.int l tl, .int r tr]) ⟨_, (N _ hm).1, rfl, _, rfl⟩ (.cons _ _ (.cons _ _ .nil)) ?_
  have e : ([l, r].any (· == k)) = decide (k = l ∨ k = r) := by
    simp only [List.any_cons, List.any_nil, Bool.or_false]
    rw [Bool.eq_iff_iff]; simp only [Bool.or_eq_true, beq_iff_eq, decide_eq_true_eq]; omega
  rw [e]; exact h
theorem nodup_room {d D : Nat} (h : d + D < recursionLimit) (n : Nat) (hn : n ≤ D) : d + n < recursionLimit := by omega
abbrev keyE (h : Int) (x : String) (t : Tok) (v : Value) : DictEntry := ⟨h, .str (Str.ofString x) t, v⟩
abbrev aigD (h1 h2 h3 h4 : Int) (t1 t2 t3 t4 : Tok) (nA iA oA tA : Addr) (n : Nat) : Obj :=
  dictOf [keyE h1 "nodes" t1 (.ref nA), keyE h2 "inputs" t2 (.ref iA), keyE h3 "outputs" t3 (.ref oA), keyE h4 "table" t4 (.ref tA)] n
theorem rp_none {l r a b : Int} : rp l r a b none = if b = l ∨ b = r then some a else if opp l r b then some 0 else none := rfl
set_option maxRecDepth 100000 in
set_option maxHeartbeats 8000000 in
theorem rpos_ok {prog : Program} {w : World} {news : Ledger} {x dx nA iA oA tA pr : Addr} {h1 h2 h3 h4 : Int} {t1 t2 t3 t4 : Tok} {dn nn : Nat} {nv : List Value} {a b l r : Int} {ta tb tl tr : Tok} {vb : Value} {gb : Option (Int × Int)}
    (hx : (x, instObj 152 dx) ∈ news) (hdx : (dx, aigD h1 h2 h3 h4 t1 t2 t3 t4 nA iA oA tA dn) ∈ news) (hn : (nA, listOf nv.toArray nn) ∈ news) (hm : (pr, tupO l tl r tr) ∈ news)
    (ha0 : 0 ≤ a) (hb0 : 0 ≤ b) (hlen : nv.length < 1000) (ha : nv[(a / 2).toNat]? = some (.ref pr)) (hb : nv[(b / 2).toNat]? = some vb) (hgb : NodeIs news vb gb) :
    Tel prog w 3 20 42 [.ref x, .int a ta, .int b tb] news (fun q news' => news = news' ∧ match rp l r a b gb with | none => Value.none = q | some k => ∃ t, Value.int k t = q) := by
  k_with_none
  k_with "subscriptTail" => (k_here; (with_reducible show wpAny _ _ (subscriptTail _ _ (Value.ref _) (Value.int (Int.fdiv _ _) _)) _ _ _); k_dflt (refine' idx_half ?N ?hm ?hk ?hl ?h0 ?hx ?_ ?hs; (case N => k_asm); (case hm => k_mem); (case hk => exact shr1 _); (case hl => assumption); (case h0 => assumption); (case hx => assumption); (case hs => with_unfolding_all rfl); k_whole))
  k_with "compareOp In int ref" => (k_here; k_dflt (refine' in_pair ?N ?hm ?_; (case N => k_asm); (case hm => k_mem)))
  k_with "call ref" => (k_here; k_dflt (refine' Tel.use ?k1 ?k2 ?k3 ?k4 ?k5 ?kK (opposed_ok ?hm) ?kd ?ku ?_; ktr_rel; (case hm => k_mem); intro q9 n9 h9 tk9 p9 F9 N9; obtain ⟨e1, e2⟩ := p9; subst e1; subst e2; (try dsimp only); (try k_fold)))
  unfold Tel
  intro dp un gd cn cs ad ccd cl outer A₀ base h₀ L m s p loose mean mg mb Q E B F X N T hk hd hu hret
  refine wpAny_call ?_
  k_dflt ktr_enter
  k_steps
  rotate_left
  rotate_left
  · rcases gb with _ | ⟨l2, r2⟩
    · obtain rfl : vb = .none := hgb
      k_steps
      all_goals clear B F N X T
      all_goals (refine hret _ _ _ _ ⟨rfl, ?_⟩ (by k_asm) (by k_asm); clear hret)
      all_goals (simp [rp, *]; done)
    · obtain ⟨pb, tl2, tr2, rfl, hpb⟩ := hgb
      k_steps
      all_goals clear B F N X T
      all_goals (refine hret _ _ _ _ ⟨rfl, ?_⟩ (by k_asm) (by k_asm); clear hret)
      all_goals (simp [rp, *]; done)
  all_goals clear B F N X T
  all_goals (refine hret _ _ _ _ ⟨rfl, ?_⟩ (by k_asm) (by k_asm); clear hret)
  all_goals (simp [rp, *]; done)
end
section
theorem off_B3 : True := by w_top off; trivial
inductive Stp where
  | no
  | is (k : Int)
  | an (a b : Int)
def rn (l r b : Int) (gb : Option (Int × Int)) : Stp :=
  if opp l r b then .is b else if b = l ∨ b = r then .an b (Builtin.bitXor (oth l r b) 1) else match gb with
    | none => .no
    | some (l2, r2) => if Builtin.bitAnd b 1 = 0 then
        (if opp l r l2 then .is b else if opp l r r2 then .is b else if l2 = l ∨ l2 = r then .an b (Builtin.bitXor (oth l r l2) 1) else if r2 = l ∨ r2 = r then .an b (Builtin.bitXor (oth l r r2) 1) else .no)
      else if (l2 = l ∨ l2 = r) ∧ oth l r l2 = Builtin.bitXor (oth l2 r2 l2) 1 then .is (Builtin.bitXor l2 1)
        else if (r2 = l ∨ r2 = r) ∧ oth l r r2 = Builtin.bitXor (oth l2 r2 r2) 1 then .is (Builtin.bitXor r2 1) else .no
def StpIs (news : Ledger) (q : Value) (news' : Ledger) : Stp → Prop
  | .no => news = news' ∧ Value.none = q
  | .is k => ∃ t t1 t2, (t, ({ cls := .type "tuple", data := .seq #[.str (Str.ofString "is") t1, .int k t2] } : Obj)) :: news = news' ∧ Value.ref t = q
  | .an a b => ∃ t t1 t2 t3, (t, ({ cls := .type "tuple", data := .seq #[.str (Str.ofString "and") t1, .int a t2, .int b t3] } : Obj)) :: news = news' ∧ Value.ref t = q
section
variable {h₀ h' : Heap} {L : Addr} {m : Str → Option Value} {s : Shared} {Q : Value → Shared → Prop} {news led : Ledger} {tk' : Nat} {S : Stp}
theorem stp_no (hret : ∀ r news' h' tk', StpIs news r news' S → Fr h₀ L h' m → News h₀ L h' news' → Q r { s with heap := h', toks := tk' })
    (e : S = .no) (F : Fr h₀ L h' m) (N : News h₀ L h' led) (h2 : ∀ p ∈ news, p ∈ led) : Q .none { s with heap := h', toks := tk' } := by
  subst e
  exact hret _ news _ _ ⟨rfl, rfl⟩ F (cb_drop N h2)
theorem stp_is {k : Int} {t : Addr} {t1 t2 : Tok} (hret : ∀ r news' h' tk', StpIs news r news' S → Fr h₀ L h' m → News h₀ L h' news' → Q r { s with heap := h', toks := tk' })
    (e : S = .is k) (F : Fr h₀ L h' m) (N : News h₀ L h' led) (h1 : (t, ({ cls := .type "tuple", data := .seq #[.str (Str.ofString "is") t1, .int k t2] } : Obj)) ∈ led) (h2 : ∀ p ∈ news, p ∈ led) : Q (.ref t) { s with heap := h', toks := tk' } := by
  subst e
  exact hret _ _ _ _ ⟨t, t1, t2, rfl, rfl⟩ F (cb_drop N (List.forall_mem_cons.mpr ⟨h1, h2⟩))
theorem stp_an {a b : Int} {t : Addr} {t1 t2 t3 : Tok} (hret : ∀ r news' h' tk', StpIs news r news' S → Fr h₀ L h' m → News h₀ L h' news' → Q r { s with heap := h', toks := tk' })
    (e : S = .an a b) (F : Fr h₀ L h' m) (N : News h₀ L h' led) (h1 : (t, ({ cls := .type "tuple", data := .seq #[.str (Str.ofString "and") t1, .int a t2, .int b t3] } : Obj)) ∈ led) (h2 : ∀ p ∈ news, p ∈ led) : Q (.ref t) { s with heap := h', toks := tk' } := by
  subst e
  exact hret _ _ _ _ ⟨t, t1, t2, t3, rfl, rfl⟩ F (cb_drop N (List.forall_mem_cons.mpr ⟨h1, h2⟩))
end
set_option maxRecDepth 100000 in
set_option maxHeartbeats 8000000 in
theorem rneg_ok {prog : Program} {w : World} {news : Ledger} {x dx nA iA oA tA pr : Addr} {h1 h2 h3 h4 : Int} {t1 t2 t3 t4 : Tok} {dn nn : Nat} {nv : List Value} {a b l r : Int} {ta tb tl tr : Tok} {vb : Value} {gb : Option (Int × Int)}
    (hx : (x, instObj 152 dx) ∈ news) (hdx : (dx, aigD h1 h2 h3 h4 t1 t2 t3 t4 nA iA oA tA dn) ∈ news) (hn : (nA, listOf nv.toArray nn) ∈ news) (hm : (pr, tupO l tl r tr) ∈ news)
    (ha0 : 0 ≤ a) (hb0 : 0 ≤ b) (hlen : nv.length < 1000) (ha : nv[(a / 2).toNat]? = some (.ref pr)) (hb : nv[(b / 2).toNat]? = some vb) (hgb : NodeIs news vb gb) :
    Tel prog w 3 20 49 [.ref x, .int a ta, .int b tb] news (fun q news' => StpIs news q news' (rn l r b gb)) := by
  k_with_none
  k_with "subscriptTail" => (k_here; (with_reducible show wpAny _ _ (subscriptTail _ _ (Value.ref _) (Value.int (Int.fdiv _ _) _)) _ _ _); k_dflt (refine' idx_half ?N ?hm ?hk ?hl ?h0 ?hx ?_ ?hs; (case N => k_asm); (case hm => k_mem); (case hk => exact shr1 _); (case hl => assumption); (case h0 => assumption); (case hx => assumption); (case hs => with_unfolding_all rfl); k_whole))
  k_with "compareOp In int ref" => (k_here; k_dflt (refine' in_pair ?N ?hm ?_; (case N => k_asm); (case hm => k_mem)))
  k_with "call ref" => (k_here; k_dflt (refine' Tel.use ?k1 ?k2 ?k3 ?k4 ?k5 ?kK (opposed_ok ?hm) ?kd ?ku ?_; ktr_rel; (case hm => k_mem); intro q9 n9 h9 tk9 p9 F9 N9; obtain ⟨e1, e2⟩ := p9; subst e1; subst e2; (try dsimp only); (try k_fold)))
  k_with "call ref" => (k_here; k_dflt (refine' Tel.use ?k1 ?k2 ?k3 ?k4 ?k5 ?kK (other_ok ?hm) ?kd ?ku ?_; ktr_rel; (case hm => k_mem); intro q9 n9 h9 tk9 p9 F9 N9; obtain ⟨e1, t9, e2⟩ := p9; subst e1; subst e2; (try dsimp only); (try k_fold)))
  k_with "exec For Name Name cons nil" => (k_here; (rename Fr _ _ _ _ => lF'); (with_unfolding_all refine' For_invVF lF' ?k1 ?k2 ?_; (case k1 => exact rfl); (case k2 => exact rfl); k_whole))
  unfold Tel
  intro dp un gd cn cs ad ccd cl outer A₀ base h₀ L m s p loose mean mg mb Q E B F X N T hk hd hu hret
  refine wpAny_call ?_
  k_dflt ktr_enter
  k_steps
  · clear B F N X T
    exact stp_is (k := b) hret (by simp [rn, *]) (by k_asm) (by assumption) List.mem_cons_self (by intro p hp; first | exact hp | exact List.mem_append_left _ hp | exact List.mem_cons_of_mem _ hp | exact List.mem_cons_of_mem _ (List.mem_append_left _ hp))
  · clear B F N X T
    exact stp_an (a := b) (b := (Builtin.bitXor (oth l r b) 1)) hret (by simp [rn, *]) (by k_asm) (by assumption) List.mem_cons_self (by intro p hp; first | exact hp | exact List.mem_append_left _ hp | exact List.mem_cons_of_mem _ hp | exact List.mem_cons_of_mem _ (List.mem_append_left _ hp))
  · rcases gb with _ | ⟨l2, r2⟩
    · obtain rfl : vb = .none := hgb
      k_steps
      clear B F N X T
      exact stp_no hret (by simp [rn, *]) (by k_asm) (by assumption) (by intro p hp; first | exact hp | exact List.mem_append_left _ hp | exact List.mem_cons_of_mem _ hp | exact List.mem_cons_of_mem _ (List.mem_append_left _ hp))
    · obtain ⟨pb, tl2, tr2, rfl, hpb⟩ := hgb
      k_steps
      · with_unfolding_all refine pair_search (fun k => opp l r k = false) rfl hpb (by assumption) (by assumption) (fun k u h9 tk9 own9 hk9 hoff9 F9 N9 => ?_) (fun u h9 tk9 hl9 hr9 F9 N9 => ?_)
        · try k_fold
          k_steps
          · clear B F N X T
            rcases hk9 with rfl | ⟨rfl, hp9⟩
            · exact stp_is (k := b) hret (by simp [rn, *]) (by k_asm) (by assumption) List.mem_cons_self (by intro p hp; first | exact hp | exact List.mem_append_left _ hp | exact List.mem_cons_of_mem _ hp | exact List.mem_cons_of_mem _ (List.mem_append_left _ hp))
            · exact stp_is (k := b) hret (by simp [rn, *]) (by k_asm) (by assumption) List.mem_cons_self (by intro p hp; first | exact hp | exact List.mem_append_left _ hp | exact List.mem_cons_of_mem _ hp | exact List.mem_cons_of_mem _ (List.mem_append_left _ hp))
          · exact InvEndG.intro (by k_asm) (by k_asm) ⟨rfl, by assumption, fun z hz => if_neg hz⟩ hoff9 (fun p hp => List.mem_append_left _ hp) (fun p hp => List.mem_append_right _ hp)
        · try k_fold
          k_steps
          with_unfolding_all refine pair_search (fun k => ¬ (k = l ∨ k = r)) rfl hpb (by assumption) (by assumption) (fun k u h9 tk9 own9 hk9 hoff9 F9 N9 => ?_) (fun u h9 tk9 hl8 hr8 F9 N9 => ?_)
          · try k_fold
            k_steps
            · clear B F N X T
              rcases hk9 with rfl | ⟨rfl, hp9⟩
              · exact stp_an (a := b) (b := (Builtin.bitXor (oth l r k) 1)) hret (by simp [rn, *]) (by k_asm) (by assumption) List.mem_cons_self (by intro p hp; first | exact hp | exact List.mem_append_left _ hp | exact List.mem_cons_of_mem _ hp | exact List.mem_cons_of_mem _ (List.mem_append_left _ hp))
              · exact stp_an (a := b) (b := (Builtin.bitXor (oth l r k) 1)) hret (by simp [rn, *]) (by k_asm) (by assumption) List.mem_cons_self (by intro p hp; first | exact hp | exact List.mem_append_left _ hp | exact List.mem_cons_of_mem _ hp | exact List.mem_cons_of_mem _ (List.mem_append_left _ hp))
            · exact InvEndG.intro (by k_asm) (by k_asm) ⟨rfl, by assumption, fun z hz => if_neg hz⟩ hoff9 (fun p hp => List.mem_append_left _ hp) (fun p hp => List.mem_append_right _ hp)
          · try k_fold
            k_steps
            clear B F N X T
            exact stp_no hret (by simp [rn, *]) (by k_asm) (by assumption) (by intro p hp; first | exact hp | exact List.mem_append_left _ hp | exact List.mem_cons_of_mem _ hp | exact List.mem_cons_of_mem _ (List.mem_append_left _ hp))
      · with_unfolding_all refine pair_search (fun k => ¬ ((k = l ∨ k = r) ∧ oth l r k = Builtin.bitXor (oth l2 r2 k) 1)) rfl hpb (by assumption) (by assumption) (fun k u h9 tk9 own9 hk9 hoff9 F9 N9 => ?_) (fun u h9 tk9 hl8 hr8 F9 N9 => ?_)
        · try k_fold
          k_steps
          · clear B F N X T
            rcases hk9 with rfl | ⟨rfl, hp9⟩
            · exact stp_is (k := Builtin.bitXor k 1) hret (by simp [rn, *]) (by k_asm) (by assumption) List.mem_cons_self (by intro p hp; first | exact hp | exact List.mem_append_left _ hp | exact List.mem_cons_of_mem _ hp | exact List.mem_cons_of_mem _ (List.mem_append_left _ hp))
            · exact stp_is (k := Builtin.bitXor k 1) hret (by simp [rn, *]) (by k_asm) (by assumption) List.mem_cons_self (by intro p hp; first | exact hp | exact List.mem_append_left _ hp | exact List.mem_cons_of_mem _ hp | exact List.mem_cons_of_mem _ (List.mem_append_left _ hp))
          · exact InvEndG.intro (by k_asm) (by k_asm) ⟨rfl, fun hh => absurd hh.2 (by assumption), fun z hz => if_neg hz⟩ hoff9 (fun p hp => List.mem_append_left _ hp) (fun p hp => List.mem_append_right _ hp)
          · exact InvEndG.intro (by k_asm) (by k_asm) ⟨rfl, fun hh => absurd hh.1 (by assumption), fun z hz => if_neg hz⟩ hoff9 (fun p hp => List.mem_append_left _ hp) (fun p hp => List.mem_append_right _ hp)
        · try k_fold
          k_steps
          clear B F N X T
          exact stp_no hret (by simp [rn, *]) (by k_asm) (by assumption) (by intro p hp; first | exact hp | exact List.mem_append_left _ hp | exact List.mem_cons_of_mem _ hp | exact List.mem_cons_of_mem _ (List.mem_append_left _ hp))
end
section
/-! the ledger under a change -/
section
variable {prog : Program} {w : World} {A : Around} {E : Value → Shared → Prop} {s : Shared} {h₀ h h' : Heap} {L : Addr} {m : Str → Option Value} {news : Ledger}
theorem ne_of_cls {a b : Addr} {o o' : Obj} (N : News h₀ L h news) (h1 : (a, o) ∈ news) (h2 : (b, o') ∈ news) (hc : o.cls ≠ o'.cls) : a ≠ b := by
  rintro rfl
  have e := (N _ h1).1.symm.trans (N _ h2).1
  exact hc (congrArg Obj.cls (Option.some.inj e))
theorem news_upd {d : Addr} {o o' : Obj} (N : News h₀ L h news) (hd : (d, o) ∈ news) (hs : Heap.SameBut d h h') (ho : h'.get? d = some o') :
    News h₀ L h' ((d, o') :: news.filter fun p => decide (p.1 ≠ d)) := by
  intro p hp
  rcases List.mem_cons.mp hp with rfl | hp
  · exact ⟨ho, (N _ hd).2.1, (N _ hd).2.2⟩
  · have h1 := List.mem_filter.mp hp
    have h2 : p.1 ≠ d := by simpa using h1.2
    exact ⟨(hs.2 p.1 h2).trans (N p h1.1).1, (N p h1.1).2⟩
def put (nx : Ledger) (c : Addr) (o : Obj) : Ledger := (c, o) :: nx.filter fun p => decide (p.1 ≠ c)
theorem put_self {nx : Ledger} {c : Addr} {o : Obj} : (c, o) ∈ put nx c o := List.mem_cons_self
theorem put_mem {nx : Ledger} {c : Addr} {o : Obj} {p : Addr × Obj} (h : p ∈ nx) (hne : p.1 ≠ c) : p ∈ put nx c o := List.mem_cons_of_mem _ (List.mem_filter.mpr ⟨h, by simpa using hne⟩)
theorem put_sub {nx led : Ledger} {c : Addr} {o : Obj} (h : (c, o) ∈ led) (k : ∀ p ∈ nx, p.1 ≠ c → p ∈ led) : ∀ p ∈ put nx c o, p ∈ led := by
  intro p hp
  rcases List.mem_cons.mp hp with rfl | hp
  · exact h
  · exact k p (List.mem_filter.mp hp).1 (by simpa using (List.mem_filter.mp hp).2)
theorem put_off {own nx : Ledger} {c : Addr} {o o' : Obj} (off : OwnOff own (nx.map (·.1))) (hc : (c, o') ∈ nx) : OwnOff own ((put nx c o).map (·.1)) := by
  intro p hp b hb
  obtain ⟨q, hq, rfl⟩ := List.mem_map.mp hb
  rcases List.mem_cons.mp hq with rfl | hq
  · exact off p hp c (List.mem_map.mpr ⟨(c, o'), hc, rfl⟩)
  · exact off p hp q.1 (List.mem_map.mpr ⟨q, (List.mem_filter.mp hq).1, rfl⟩)
theorem own_ne {own nx : Ledger} {c : Addr} {o : Obj} (off : OwnOff own (nx.map (·.1))) (hc : (c, o) ∈ nx) : ∀ p ∈ own, p.1 ≠ c := fun p hp => off p hp c (List.mem_map.mpr ⟨(c, o), hc, rfl⟩)
theorem app_ok {l : Addr} {vs : List Value} {n : Nat} {v : Value} {Q : Value → Shared → Prop} (F : Fr h₀ L s.heap m) (N : News h₀ L s.heap news) (hm : (l, listOf vs.toArray n) ∈ news) (hsz : vs.length ≤ 1000)
    (k : ∀ h' news', Fr h₀ L h' m → News h₀ L h' news' → (∀ p ∈ news, p.1 ≠ l → p ∈ news') → (l, listOf (vs ++ [v]).toArray (n + 1)) ∈ news' → Q .none { s with heap := h' }) :
    wpAny (model prog w) A (call (.builtin "list.append") [.ref l, v]) Q E s := by
  have z := N _ hm
  refine append_K (news := (l, listOf vs.toArray n) :: news.filter fun p => decide (p.1 ≠ l)) F (fun p hp => ?_) (Upd.head fun p hp => ?_) (fun h' F' N' => k h' _ F' N' (fun p hp hne => ?_) ?_) ?_
  · rcases List.mem_cons.mp hp with rfl | hp
    · exact z
    · exact N p (List.mem_filter.mp hp).1
  · simpa using (List.mem_filter.mp hp).2
  · exact List.mem_cons_of_mem _ (List.mem_filter.mpr ⟨hp, by simpa using hne⟩)
  · have e : vs.toArray.push v = (vs ++ [v]).toArray := by simp
    rw [e]; exact List.mem_cons_self
  · rw [List.size_toArray, sizeLine_eq]; omega
theorem cell_ok {cn : Str} {cs : Scope} {a : Addr} {ccd : Value} {cl : List (Str × Addr)} {x : Str} {v : Value} {c : Addr} {o : Obj} {v₀ : Option Value} {Q : Unit → Shared → Prop} (F : Fr h₀ L s.heap m) (N : News h₀ L s.heap news) (hc : cl.lookup x = some c) (hm : (c, o) ∈ news) (hd : o.data = .cell v₀)
    (k : ∀ h' news' o', Fr h₀ L h' m → News h₀ L h' news' → (∀ p ∈ news, p.1 ≠ c → p ∈ news') → (c, o') ∈ news' → o'.data = .cell (some v) → Q () { s with heap := h' })
    (hk : cs.kind = .function := by rfl) (hx : (envX cn cs L a ccd cl).kindOf x = some .cell := by rfl) : wpAny (model prog w) A (storeName (envX cn cs L a ccd cl) x v) Q E s := by
  have z := N _ hm
  refine storeX_C (news := (c, o) :: news.filter fun p => decide (p.1 ≠ c)) F (fun p hp => ?_) hc (UpdF.head fun p hp => ?_) hd (fun h' o' F' N' hd' => k h' _ o' F' N' (fun p hp hne => ?_) List.mem_cons_self hd') hk hx
  · rcases List.mem_cons.mp hp with rfl | hp
    · exact z
    · exact N p (List.mem_filter.mp hp).1
  · simpa using (List.mem_filter.mp hp).2
  · exact List.mem_cons_of_mem _ (List.mem_filter.mpr ⟨hp, by simpa using hne⟩)
theorem in_ints_t {l : Addr} {vs : List Value} {ns : List Int} {n : Nat} {k : Int} {t : Tok} {Q : Value → Shared → Prop} (N : News h₀ L s.heap news) (hm : (l, listOf vs.toArray n) ∈ news) (hi : IntsAre vs ns) (hk : k ∈ ns) (q : Q (.bool true) s) :
    wpAny (model prog w) A (compareOp .In (.int k t) (.ref l)) Q E s :=
  in_list_ints (vs := vs) ⟨_, (N _ hm).1, rfl, _, rfl⟩ hi (by
    have e : ns.any (· == k) = true := List.any_eq_true.mpr ⟨k, hk, by simp⟩
    rw [e]; exact q)
theorem in_ints_f {l : Addr} {vs : List Value} {ns : List Int} {n : Nat} {k : Int} {t : Tok} {Q : Value → Shared → Prop} (N : News h₀ L s.heap news) (hm : (l, listOf vs.toArray n) ∈ news) (hi : IntsAre vs ns) (hk : k ∉ ns) (q : Q (.bool false) s) :
    wpAny (model prog w) A (compareOp .In (.int k t) (.ref l)) Q E s :=
  in_list_ints (vs := vs) ⟨_, (N _ hm).1, rfl, _, rfl⟩ hi (by
    have e : ns.any (· == k) = false := by
      rw [List.any_eq_false]
      intro x hx hxk
      exact hk (by simpa using (eq_of_beq hxk) ▸ hx)
    rw [e]; exact q)
theorem first_at {k : Int} : ∀ {ns : List Int}, k ∈ ns → ∃ j : Nat, ns[j]? = some k ∧ ∀ i, i < j → ns[i]? ≠ some k
  | n :: r, h => by
    by_cases e : n = k
    · exact ⟨0, by simp [e], fun i hi => by omega⟩
    · have h' : k ∈ r := by
        rcases List.mem_cons.mp h with rfl | h
        · exact absurd rfl e
        · exact h
      obtain ⟨j, h1, h2⟩ := first_at h'
      refine ⟨j + 1, by simpa using h1, fun i hi => ?_⟩
      cases i with
      | zero => simpa using e
      | succ i => simpa using h2 i (by omega)
theorem index_ok {l : Addr} {vs : List Value} {ns : List Int} {n : Nat} {k : Int} {t : Tok} {Q : Value → Shared → Prop} (N : News h₀ L s.heap news) (hm : (l, listOf vs.toArray n) ∈ news) (hi : IntsAre vs ns) (hk : k ∈ ns) (hz : ns.length ≤ 1000)
    (q : ∀ (j : Nat) tk tk', j < ns.length → Q (.int (j : Int) tk) { s with toks := tk' }) : wpAny (model prog w) A (call (.builtin "list.index") [.ref l, .int k t]) Q E s := by
  obtain ⟨j, h1, h2⟩ := first_at hk
  have hj : j < ns.length := (List.getElem?_eq_some_iff.mp h1).1
  have hl := hi.length
  have at_ : ∀ (i : Nat) (hi' : i < vs.length), isInt k vs[i] = decide (ns[i]? = some k) := by
    intro i hi'
    have hn : i < ns.length := by omega
    obtain ⟨u, e⟩ := hi.get i ns[i] (List.getElem?_eq_getElem hn)
    rw [List.getElem?_eq_getElem hi'] at e
    rw [Option.some.inj e, List.getElem?_eq_getElem hn]
    show (ns[i] == k) = _
    by_cases h : ns[i] = k <;> simp [h]
  refine call_meets PySem.F.slot_list_index ⟨_, (N _ hm).1, rfl⟩ PySem.F.entry_list_index (PySem.F.args_list_index_2 _ _)
    (MeetsSeq.list_index l vs.toArray n (.int k t) (isInt k) (fun y hy => eq_isInt k t hi y (by simpa using hy)) j (by simp; omega) (by simp; omega) ?_ (fun i hi' hlt => ?_)) ⟨(N _ hm).1, q j _ _ hj⟩
  · have := at_ j (by omega)
    rw [h1] at this
    simpa using this
  · have := at_ i (by simpa using hi')
    rw [decide_eq_false (h2 i hlt)] at this
    simpa using this
theorem sum_ok {l : Addr} {vs : List Value} {ns : List Int} {n : Nat} {Q : Value → Shared → Prop} (hh : A.handled = none) (F : Fr h₀ L s.heap m) (N : News h₀ L s.heap news) (hm : (l, listOf vs.toArray n) ∈ news) (hi : IntsAre vs ns)
    (k : ∀ h' tk t', Fr h₀ L h' m → News h₀ L h' news → Q (.int ns.sum t') { s with heap := h', toks := tk }) : wpAny (model prog w) A (call (.builtin "sum") [.ref l]) Q E s :=
  sumK hh F N ⟨_, (N _ hm).1, rfl, n, rfl⟩ hi k
theorem pop_ok {l : Addr} {vs : List Value} {v : Value} {n : Nat} {Q : Value → Shared → Prop} (F : Fr h₀ L s.heap m) (N : News h₀ L s.heap news) (hm : (l, listOf (vs ++ [v]).toArray n) ∈ news) (hsz : vs.length ≤ 1000)
    (k : ∀ h' news', Fr h₀ L h' m → News h₀ L h' news' → (∀ p ∈ news, p.1 ≠ l → p ∈ news') → (l, listOf vs.toArray (n + 1)) ∈ news' → Q v { s with heap := h' }) :
    wpAny (model prog w) A (call (.builtin "list.pop") [.ref l]) Q E s := by
  have z := N _ hm
  refine kl_pop (its := (vs ++ [v]).toArray) (n := n) (news := (l, listOf (vs ++ [v]).toArray n) :: news.filter fun p => decide (p.1 ≠ l)) F (fun p hp => ?_) (kpa_last v vs) (Upd.head fun p hp => ?_) ?_ (fun h' F' N' => k h' _ F' N' (fun p hp hne => ?_) List.mem_cons_self)
  · rcases List.mem_cons.mp hp with rfl | hp
    · exact z
    · exact N p (List.mem_filter.mp hp).1
  · simpa using (List.mem_filter.mp hp).2
  · rw [sizeLine_eq]; simp; omega
  · exact List.mem_cons_of_mem _ (List.mem_filter.mpr ⟨hp, by simpa using hne⟩)
theorem ne_nil_f {a b : Addr} {n n' : Nat} {Q : Value → Shared → Prop} (N : News h₀ L s.heap news) (ha : (a, listOf ([] : List Value).toArray n) ∈ news) (hb : (b, listOf ([] : List Value).toArray n') ∈ news) (hu : A.units + 64 < cLine) (k : Q (.bool false) s) :
    wpAny (model prog w) A (compareOp .NotEq (.ref a) (.ref b)) Q E s :=
  ne_intsK (vs := []) (us := []) (ns := []) (ms := []) ⟨_, (N _ ha).1, rfl, _, rfl⟩ .nil ⟨_, (N _ hb).1, rfl, _, rfl⟩ .nil hu k
theorem ne_nil_t {a b : Addr} {n n' : Nat} {vs : List Value} {v : Value} {ns : List Int} {Q : Value → Shared → Prop} (N : News h₀ L s.heap news) (ha : (a, listOf (vs ++ [v]).toArray n) ∈ news) (hi : IntsAre (vs ++ [v]) ns) (hb : (b, listOf ([] : List Value).toArray n') ∈ news) (hu : A.units + 64 < cLine) (k : Q (.bool true) s) :
    wpAny (model prog w) A (compareOp .NotEq (.ref a) (.ref b)) Q E s := by
  refine ne_intsK (vs := vs ++ [v]) (us := []) (ns := ns) (ms := []) ⟨_, (N _ ha).1, rfl, _, rfl⟩ hi ⟨_, (N _ hb).1, rfl, _, rfl⟩ .nil hu ?_
  have hl := hi.length
  have e : decide (ns = []) = false := by
    apply decide_eq_false
    rintro rfl
    simp at hl
  rw [e]; exact k
theorem len_ok {l : Addr} {vs : List Value} {n : Nat} {Q : Value → Shared → Prop} (N : News h₀ L s.heap news) (hm : (l, listOf vs.toArray n) ∈ news) (hz : vs.length ≤ 1000)
    (k : Q (.int (vs.length : Int) (s.toks + 1)) { s with toks := s.toks + 1 + 1 }) : wpAny (model prog w) A (call (.builtin "len") [.ref l]) Q E s := by
  refine call_len_list (items := vs.toArray) ⟨_, (N _ hm).1, rfl, n, rfl⟩ ?_ ?_
  · rw [List.size_toArray]; omega
  · rw [List.size_toArray]; exact k
theorem key_is {t : Addr} {l r : Int} {tl tr : Tok} (N : News h₀ L h news) (hm : (t, tupO l tl r tr) ∈ news) : (tupleKind (intKind prog w)).is h [l, r] t :=
  ⟨_, _, _, (N _ hm).1, rfl, rfl, .cons (intKind_is prog w l tl) (.cons (intKind_is prog w r tr) .nil)⟩
theorem tget_meth {d : Addr} {o : Obj} {pl : Sem Bool} {Q : Value × List Value → Shared → Prop} (N : News h₀ L s.heap news) (hd : (d, o) ∈ news) (he : o.ExactDict) (k : Q (.builtin "dict.get", [.ref d]) s) :
    wpAny (model prog w) A (getMethod (.ref d) "get" pl) Q E s :=
  getMethod_builtin ⟨_, (N _ hd).1, he.1⟩ PySem.F.plainAttrs_dict PySem.F.slot_dict_get PySem.F.type_dict_get (fun a e => by cases e; exact ⟨_, (N _ hd).1, he.2.1⟩) k
end
theorem ints_append {vs us : List Value} {ns ms : List Int} (h : IntsAre vs ns) (k : IntsAre us ms) : IntsAre (vs ++ us) (ns ++ ms) := by
  induction h with
  | nil => exact k
  | cons n t _ ih => exact .cons n t ih
/-! the graph -/
abbrev Graph := List (Option (Int × Int))
def NodesAre (news : Ledger) (nv : List Value) (G : Graph) : Prop := nv.length = G.length ∧ ∀ (i : Nat) g, G[i]? = some g → ∃ v, nv[i]? = some v ∧ NodeIs news v g
def TabOK (prog : Program) (w : World) (news : Ledger) (ot : Obj) (G : Graph) : Prop :=
  ∃ es ep, ∃ xs : List (List Int × Addr × Value), ot.ExactDict ∧ ot.data = .dict es ep ∧ es.toList = xs.map (entryOfKey (tupleKind (intKind prog w))) ∧ (xs.map (·.1)).Nodup ∧ xs.length ≤ G.length ∧
    ∀ y ∈ xs, ∃ l r tl tr i ti, y.1 = [l, r] ∧ y.2.2 = .int i ti ∧ (y.2.1, tupO l tl r tr) ∈ news ∧ 0 ≤ i ∧ G[i.toNat]? = some (some (l, r))
section
variable {prog : Program} {w : World} {A : Around} {E : Value → Shared → Prop} {s : Shared} {h₀ h h' : Heap} {L : Addr} {m : Str → Option Value} {news news' : Ledger} {G G' : Graph}
theorem NodeIs.mono {v : Value} {g : Option (Int × Int)} (hs : ∀ p ∈ news, p.2.cls = .type "tuple" → p ∈ news') (x : NodeIs news v g) : NodeIs news' v g := by
  rcases g with _ | ⟨l, r⟩
  · exact x
  · obtain ⟨t, tl, tr, e, hm⟩ := x
    exact ⟨t, tl, tr, e, hs _ hm rfl⟩
theorem NodesAre.mono {nv : List Value} (hs : ∀ p ∈ news, p.2.cls = .type "tuple" → p ∈ news') (x : NodesAre news nv G) : NodesAre news' nv G :=
  ⟨x.1, fun i g e => let ⟨v, h1, h2⟩ := x.2 i g e; ⟨v, h1, h2.mono hs⟩⟩
theorem TabOK.mono {ot : Obj} (hs : ∀ p ∈ news, p.2.cls = .type "tuple" → p ∈ news') (hg : ∀ (i : Nat) g, G[i]? = some g → G'[i]? = some g) (hl : G.length ≤ G'.length) (x : TabOK prog w news ot G) : TabOK prog w news' ot G' := by
  obtain ⟨es, ep, xs, a, b, c, d, e, f⟩ := x
  refine ⟨es, ep, xs, a, b, c, d, Nat.le_trans e hl, fun y hy => ?_⟩
  obtain ⟨l, r, tl, tr, i, ti, f1, f2, f3, f4, f5⟩ := f y hy
  exact ⟨l, r, tl, tr, i, ti, f1, f2, hs _ f3 rfl, f4, hg _ _ f5⟩
theorem TabOK.dict {d : Addr} {ot : Obj} (N : News h₀ L h news) (hd : (d, ot) ∈ news) (T : TabOK prog w news ot G) :
    ∃ xs : List (List Int × Addr × Value), h.DictOfH (tupleKind (intKind prog w)) d xs ∧ xs.length ≤ G.length ∧ ∀ y ∈ xs, ∃ l r tl tr i ti, y.1 = [l, r] ∧ y.2.2 = .int i ti ∧ (y.2.1, tupO l tl r tr) ∈ news ∧ 0 ≤ i ∧ G[i.toNat]? = some (some (l, r)) := by
  obtain ⟨es, ep, xs, a, b, c, e, f, g⟩ := T
  refine ⟨xs, ⟨ot, es, ep, (N _ hd).1, a, b, c, fun y hy => ?_, e⟩, f, g⟩
  obtain ⟨l, r, tl, tr, i, ti, f1, f2, f3, f4, f5⟩ := g y hy
  rw [f1]; exact key_is N f3
theorem tget_ok {d t : Addr} {ot : Obj} {l r : Int} {tl tr : Tok} {dflt : Value} {Q : Value → Shared → Prop} (hu : A.units + 1 < cLine) (N : News h₀ L s.heap news) (hd : (d, ot) ∈ news) (T₀ : TabOK prog w news' ot G) (hsub : ∀ p ∈ news', p ∈ news) (lo : (d == sysModules) = false)
    (hk : (t, tupO l tl r tr) ∈ news) (k1 : ∀ tk, Q dflt { s with toks := tk }) (k2 : ∀ i ti tk, 0 ≤ i → G[i.toNat]? = some (some (l, r)) → Q (.int i ti) { s with toks := tk }) :
    wpAny (model prog w) A (call (.builtin "dict.get") [.ref d, .ref t, dflt]) Q E s := by
  obtain ⟨xs, hD, _, hx⟩ := (T₀.mono (fun p hp _ => hsub p hp) (fun _ _ e => e) (Nat.le_refl _)).dict N hd
  refine call_meetsIn PySem.F.slot_dict_get hD.typeIs PySem.F.entry_dict_get (PySem.F.args_dict_get_3 _ _ _) (meetsH_dict_get_default (tupleKind (intKind prog w)) d t lo dflt) ⟨hu, [l, r], xs, key_is N hk, hD, ?_⟩
  cases e : atKey xs [l, r] with
  | none => exact k1 _
  | some p =>
    unfold atKey at e
    obtain ⟨y, hy, rfl⟩ := Option.map_eq_some_iff.mp e
    have h1 := List.find?_some hy
    obtain ⟨l', r', tl', tr', i, ti, f1, f2, f3, f4, f5⟩ := hx y (List.mem_of_find?_eq_some hy)
    have h2 : y.1 = [l, r] := by simpa using h1
    rw [f1] at h2
    simp only [List.cons.injEq, and_true] at h2
    obtain ⟨rfl, rfl⟩ := h2
    show Q (y.2.2) _
    rw [f2]
    exact k2 i ti _ f4 f5
theorem tset_ok {d t : Addr} {ot : Obj} {l r i : Int} {tl tr ti : Tok} {Q : Unit → Shared → Prop} (hu : A.units + 1 < cLine) (F : Fr h₀ L s.heap m) (N : News h₀ L s.heap news) (hd : (d, ot) ∈ news) (T : TabOK prog w news ot G)
    (hk : (t, tupO l tl r tr) ∈ news) (hi : 0 ≤ i) (hG : G'[i.toNat]? = some (some (l, r))) (hg : ∀ (i : Nat) g, G[i]? = some g → G'[i]? = some g) (hl : G.length + 1 ≤ G'.length) (hz : G.length ≤ 1000)
    (k : ∀ h' news' ot' tk, Fr h₀ L h' m → News h₀ L h' news' → (∀ p ∈ news, p.1 ≠ d → p ∈ news') → (d, ot') ∈ news' → TabOK prog w news' ot' G' → Q () { s with heap := h', toks := tk }) :
    wpAny (model prog w) A (setItem (.ref d) (.ref t) (.int i ti)) Q E s := by
  obtain ⟨xs, hD, hlen, hx⟩ := T.dict N hd
  have hcls : ot.cls = .type "dict" := T.choose_spec.choose_spec.choose_spec.1.1
  refine wpAny_setItem_heap (hsz := by rw [sizeLine_eq]; omega) (knd := tupleKind (intKind prog w)) hu (key_is N hk) hD fun h' hD' hs => ?_
  obtain ⟨o', es', ep', ho', x1, x2, x3, x4, x5⟩ := hD'
  have keep : ∀ p ∈ news, p.1 ≠ d → p ∈ (d, o') :: news.filter fun p => decide (p.1 ≠ d) := fun p hp hne => List.mem_cons_of_mem _ (List.mem_filter.mpr ⟨hp, by simpa using hne⟩)
  have tup : ∀ p ∈ news, p.2.cls = .type "tuple" → p ∈ (d, o') :: news.filter fun p => decide (p.1 ≠ d) := fun p hp hc => keep p hp (ne_of_cls N (o := p.2) hp hd (by rw [hc, hcls]; decide))
  refine k h' _ o' _ (F.change hs (N _ hd).2.1 (N _ hd).2.2) (news_upd N hd hs ho') keep List.mem_cons_self ⟨es', ep', _, x1, x2, x3, x5, ?_, ?_⟩
  · unfold storedH
    split
    · rw [List.length_map]; omega
    · rw [List.length_append, List.length_singleton]; omega
  · intro y hy
    unfold storedH at hy
    split at hy
    · obtain ⟨z, hz, rfl⟩ := List.mem_map.mp hy
      obtain ⟨l', r', tl', tr', i', ti', f1, f2, f3, f4, f5⟩ := hx z hz
      unfold putAt
      split
      · rename_i e
        rw [f1] at e
        simp only [List.cons.injEq, and_true] at e
        obtain ⟨rfl, rfl⟩ := e
        exact ⟨l', r', tl', tr', i, ti, f1, rfl, tup _ f3 rfl, hi, hG⟩
      · exact ⟨l', r', tl', tr', i', ti', f1, f2, tup _ f3 rfl, f4, hg _ _ f5⟩
    · rcases List.mem_append.mp hy with hy | hy
      · obtain ⟨l', r', tl', tr', i', ti', f1, f2, f3, f4, f5⟩ := hx y hy
        exact ⟨l', r', tl', tr', i', ti', f1, f2, tup _ f3 rfl, f4, hg _ _ f5⟩
      · rw [List.mem_singleton.mp hy]
        exact ⟨l, r, tl, tr, i, ti, rfl, rfl, tup _ hk rfl, hi, hG⟩
end
structure GA where
  (x dx nA iA oA tA : Addr) (h1 h2 h3 h4 : Int) (t1 t2 t3 t4 : Tok) (dn : Nat)
structure Gr (prog : Program) (w : World) (a : GA) (news : Ledger) (G : Graph) (ins : List Int) : Prop where
  hx : (a.x, instObj 152 a.dx) ∈ news
  hdx : (a.dx, aigD a.h1 a.h2 a.h3 a.h4 a.t1 a.t2 a.t3 a.t4 a.nA a.iA a.oA a.tA a.dn) ∈ news
  nodes : ∃ nv nn, (a.nA, listOf nv.toArray nn) ∈ news ∧ NodesAre news nv G
  inps : ∃ iv inn, (a.iA, listOf iv.toArray inn) ∈ news ∧ IntsAre iv ins
  tab : ∃ ot, (a.tA, ot) ∈ news ∧ TabOK prog w news ot G
  apart : a.nA ≠ a.iA
  apart2 : a.dx ≠ a.tA
  lo : (a.tA == sysModules) = false
theorem Gr.nod {prog : Program} {w : World} {a : GA} {news : Ledger} {G : Graph} {ins : List Int} {P : Prop} (g : Gr prog w a news G ins)
    (k : ∀ nv nn, (a.x, instObj 152 a.dx) ∈ news → (a.dx, aigD a.h1 a.h2 a.h3 a.h4 a.t1 a.t2 a.t3 a.t4 a.nA a.iA a.oA a.tA a.dn) ∈ news → (a.nA, listOf nv.toArray nn) ∈ news → NodesAre news nv G → P) : P :=
  let ⟨nv, nn, h1, h2⟩ := g.nodes; k nv nn g.hx g.hdx h1 h2
theorem Gr.mono {prog : Program} {w : World} {a : GA} {news news' : Ledger} {G : Graph} {ins : List Int} (g : Gr prog w a news G ins)
    (hs : ∀ p ∈ news, (p.1 = a.x ∨ p.1 = a.dx ∨ p.1 = a.nA ∨ p.1 = a.iA ∨ p.1 = a.tA ∨ p.2.cls = .type "tuple") → p ∈ news') : Gr prog w a news' G ins where
  hx := hs _ g.hx (.inl rfl)
  hdx := hs _ g.hdx (.inr (.inl rfl))
  nodes := let ⟨nv, nn, h1, h2⟩ := g.nodes; ⟨nv, nn, hs _ h1 (.inr (.inr (.inl rfl))), h2.mono fun p hp hc => hs p hp (.inr (.inr (.inr (.inr (.inr hc)))))⟩
  inps := let ⟨iv, inn, h1, h2⟩ := g.inps; ⟨iv, inn, hs _ h1 (.inr (.inr (.inr (.inl rfl)))), h2⟩
  tab := let ⟨ot, h1, h2⟩ := g.tab; ⟨ot, hs _ h1 (.inr (.inr (.inr (.inr (.inl rfl))))), h2.mono (fun p hp hc => hs p hp (.inr (.inr (.inr (.inr (.inr hc)))))) (fun _ _ e => e) (Nat.le_refl _)⟩
  apart := g.apart
  apart2 := g.apart2
  lo := g.lo
theorem NodesAre.snoc {news : Ledger} {nv : List Value} {G : Graph} (x : NodesAre news nv G) {v : Value} {g : Option (Int × Int)} (hv : NodeIs news v g) : NodesAre news (nv ++ [v]) (G ++ [g]) := by
  refine ⟨by rw [List.length_append, List.length_append, x.1]; rfl, fun i q e => ?_⟩
  rcases Nat.lt_trichotomy i G.length with hi | hi | hi
  · rw [List.getElem?_append_left hi] at e
    obtain ⟨u, h1, h2⟩ := x.2 i q e
    exact ⟨u, by rw [List.getElem?_append_left (by rw [x.1]; exact hi)]; exact h1, h2⟩
  · subst hi
    rw [List.getElem?_append_right (Nat.le_refl _)] at e
    simp only [Nat.sub_self, List.getElem?_cons_zero, Option.some.injEq] at e
    subst e
    exact ⟨v, by rw [List.getElem?_append_right (Nat.le_of_eq x.1), x.1]; simp, hv⟩
  · rw [List.getElem?_eq_none (by simp; omega)] at e; cases e
theorem Gr.grow {prog : Program} {w : World} {a : GA} {news newsB : Ledger} {G : Graph} {ins : List Int} {h₀ h : Heap} {L D : Addr} {nv : List Value} {nn n2 : Nat} {ll rr : Int} {tl tr : Tok} {ot' : Obj} (g : Gr prog w a news G ins) (N : News h₀ L h news)
    (hn : (a.nA, listOf nv.toArray nn) ∈ news) (hv : NodesAre news nv G) (sub : ∀ p ∈ news, p.1 ≠ a.nA → p.1 ≠ a.tA → p ∈ newsB)
    (hn' : (a.nA, listOf (nv ++ [Value.ref D]).toArray n2) ∈ newsB) (hD : (D, tupO ll tl rr tr) ∈ newsB) (ht' : (a.tA, ot') ∈ newsB) (hT : TabOK prog w newsB ot' (G ++ [some (ll, rr)])) : Gr prog w a newsB (G ++ [some (ll, rr)]) ins := by
  obtain ⟨ot, hot, hTo⟩ := g.tab
  have hex : ot.ExactDict := hTo.choose_spec.choose_spec.choose_spec.1
  have tup : ∀ p ∈ news, p.2.cls = .type "tuple" → p ∈ newsB := fun p hp hc => sub p hp (ne_of_cls N (o := p.2) hp hn (by rw [hc]; show Value.type _ ≠ Value.type _; decide)) (ne_of_cls N (o := p.2) hp hot (by rw [hc, hex.1]; decide))
  obtain ⟨iv, inn, hi, hints⟩ := g.inps
  exact {
    hx := sub _ g.hx (ne_of_cls N g.hx hn (fun h => nomatch h)) (ne_of_cls N g.hx hot (by rw [hex.1]; exact fun h => nomatch h))
    hdx := sub _ g.hdx (ne_of_cls N g.hdx hn (by show Value.type _ ≠ Value.type _; decide)) g.apart2
    nodes := ⟨_, _, hn', (hv.mono tup).snoc ⟨D, tl, tr, rfl, hD⟩⟩
    inps := ⟨iv, inn, sub _ hi g.apart.symm (ne_of_cls N hi hot (by rw [hex.1]; show Value.type _ ≠ Value.type _; decide)), hints⟩
    tab := ⟨ot', ht', hT⟩
    apart := g.apart
    apart2 := g.apart2
    lo := g.lo }
/-- the list of the nodes has grown at its end alone -/
def Grew (a : GA) (news news' : Ledger) : Prop := ∃ nv nn nv' nn', (a.nA, listOf nv.toArray nn) ∈ news ∧ (a.nA, listOf nv'.toArray nn') ∈ news' ∧ nv <+: nv'
theorem Grew.out {a : GA} {news news' : Ledger} {P : Prop} (h : Grew a news news') (k : ∀ nv nn nv' nn', (a.nA, listOf nv.toArray nn) ∈ news → (a.nA, listOf nv'.toArray nn') ∈ news' → nv <+: nv' → P) : P :=
  let ⟨nv, nn, nv', nn', a, b, c⟩ := h; k nv nn nv' nn' a b c
theorem listOf_inj {h₀ h : Heap} {L a : Addr} {news : Ledger} {vs us : List Value} {n k : Nat} (N : News h₀ L h news) (h1 : (a, listOf vs.toArray n) ∈ news) (h2 : (a, listOf us.toArray k) ∈ news) : vs = us ∧ n = k := by
  have e := Option.some.inj ((N _ h1).1.symm.trans (N _ h2).1)
  have e2 := congrArg Obj.data e
  injection e2 with e3 e4
  exact ⟨by simpa using congrArg Array.toList e3, e4⟩
section
variable {prog : Program} {w : World} {A : Around} {E : Value → Shared → Prop} {s : Shared} {h₀ : Heap} {L : Addr} {news : Ledger}
theorem copy_ok {m : Str → Option Value} {l : Addr} {vs : List Value} {n : Nat} {Q : Value → Shared → Prop} (F : Fr h₀ L s.heap m) (N : News h₀ L s.heap news) (hm : (l, listOf vs.toArray n) ∈ news) (hz : vs.length ≤ 1000)
    (k : ∀ D c h', Fr h₀ L h' m → News h₀ L h' ((D, listOf vs.toArray c) :: news) → (∀ q ∈ news, q.1 < D) → Q (.ref D) { s with heap := h' }) : wpAny (model prog w) A (call (.type "list") [.ref l]) Q E s :=
  list_copyK F N ⟨_, (N _ hm).1, rfl, _, rfl⟩ k (by rw [List.size_toArray, sizeLine_eq]; omega)
theorem slice_pre {m : Str → Option Value} {l : Addr} {vs ws : List Value} {n : Nat} {u : Tok} {value slice : PySem.Expr} {Q : Value → Shared → Prop} (F : Fr h₀ L s.heap m) (N : News h₀ L s.heap news) (hm : (l, listOf vs.toArray n) ∈ news) (hp : ws <+: vs) (hz : vs.length ≤ 1000)
    (k : ∀ D h', Fr h₀ L h' m → News h₀ L h' ((D, listOf ws.toArray 0) :: news) → (∀ p ∈ news, p.1 < D) → Q (.ref D) { s with heap := h' })
    (hs : subscripted slice false (.ref l) (.ref s.heap.objs.size) = operate [.ref s.heap.objs.size, .ref l] (getItem (.ref l) (.ref s.heap.objs.size))) (ht : ∀ r, letTemporaryGo value (.ref l) r = pure ()) :
    wpAny (model prog w) A (subscriptTail value slice (.ref l) (.ref s.heap.objs.size)) Q E { s with heap := s.heap.push { cls := .type "slice", data := .fields #[.none, .int (ws.length : Int) u, .none] } } := by
  refine kmk_slice_lit F N (its := vs.toArray) ⟨_, (N _ hm).1, rfl, _, rfl⟩ IsPart.none (IsPart.int _ _) ?_ k hs ht (by rw [List.size_toArray, sizeLine_eq]; omega)
  have hle : ws.length ≤ vs.length := hp.length_le
  have e : sliceBounds none (some (ws.length : Int)) none vs.toArray.size = (((0 : Nat) : Int), ((ws.length : Nat) : Int), 1) := by
    simp only [sliceBounds, Option.getD_none, show (1 : Int) > 0 by decide, if_true, if_neg (show ¬ ((ws.length : Int) < 0) by omega), List.size_toArray]
    congr 1
    congr 1
    omega
  rw [kmk_pick_nat _ e]
  show (vs.drop 0).take (ws.length - 0) = ws
  rw [List.drop_zero, Nat.sub_zero]
  exact (List.prefix_iff_eq_take.mp hp).symm
open PySem.SeqAt in
theorem ne_same {a b : Addr} {vs : List Value} {n k : Nat} {Q : Value → Shared → Prop} (N : News h₀ L s.heap news) (ha : (a, listOf vs.toArray n) ∈ news) (hb : (b, listOf vs.toArray k) ∈ news) (hu : A.units < cLine) (q : Q (.bool false) s) :
    wpAny (model prog w) A (compareOp .NotEq (.ref a) (.ref b)) Q E s := by
  refine cmp_ofNotEq (RcNeAt.lists (e := fun _ => true) (items := vs.toArray) (items2 := vs.toArray) ⟨_, (N _ ha).1, rfl, _, rfl⟩ ⟨_, (N _ hb).1, rfl, _, rfl⟩ rfl hu (fun j h1 h2 => EqAt.same _) prog w E Q ?_)
  have e : (!(List.range vs.toArray.size).all fun _ => true) = false := by simp
  rw [e]; exact q
end
end
section
theorem off_B5 : True := by w_top off; trivial
/-! what a literal is worth -/
def lit (β : Nat → Bool) (k : Int) : Bool := (β (k / 2).toNat) != (decide (k % 2 = 1))
structure WF (G : Graph) : Prop where
  zero : G[0]? = some none
  node : ∀ (i : Nat) l r, G[i]? = some (some (l, r)) → 2 ≤ l ∧ l < r ∧ r < 2 * i ∧ r ≠ neg l
def Fits (β : Nat → Bool) (G : Graph) : Prop := β 0 = false ∧ ∀ (i : Nat) l r, G[i]? = some (some (l, r)) → β i = (lit β l && lit β r)
theorem lit_neg (β : Nat → Bool) (k : Int) : lit β (neg k) = !lit β k := by
  unfold lit neg
  have h1 : (k + 1 - 2 * (k % 2)) / 2 = k / 2 := by omega
  rw [h1]
  by_cases h : k % 2 = 1
  · rw [decide_eq_true h, decide_eq_false (by omega)]; cases β (k / 2).toNat <;> rfl
  · rw [decide_eq_false h, decide_eq_true (by omega)]; cases β (k / 2).toNat <;> rfl
theorem neg_neg (k : Int) : neg (neg k) = k := by unfold neg; omega
theorem lit_zero {β : Nat → Bool} {G : Graph} (h : Fits β G) : lit β 0 = false := by unfold lit; rw [show ((0 : Int) / 2).toNat = 0 from rfl, h.1]; rfl
theorem lit_one {β : Nat → Bool} {G : Graph} (h : Fits β G) : lit β 1 = true := by unfold lit; rw [show ((1 : Int) / 2).toNat = 0 from rfl, h.1]; rfl
theorem lit_node {β : Nat → Bool} {G : Graph} (h : Fits β G) {i : Nat} {l r : Int} (e : G[i]? = some (some (l, r))) : lit β (2 * i) = (lit β l && lit β r) := by
  rw [← h.2 i l r e]
  unfold lit
  rw [show ((2 : Int) * (i : Int) / 2).toNat = i by omega, decide_eq_false (by omega)]
  cases β i <;> rfl
theorem get_pre {G G' : Graph} (h : G <+: G') (i : Nat) (g : Option (Int × Int)) (e : G[i]? = some g) : G'[i]? = some g := by
  obtain ⟨t, rfl⟩ := h
  rw [List.getElem?_append_left (List.getElem?_eq_some_iff.mp e).1, e]
theorem Fits.pre {β : Nat → Bool} {G G' : Graph} (h : Fits β G') (p : G <+: G') : Fits β G := ⟨h.1, fun i l r e => h.2 i l r (get_pre p i _ e)⟩
structure Land (G : Graph) (l r k : Int) (G' : Graph) : Prop where
  wf : WF G'
  pre : G <+: G'
  len : G'.length ≤ G.length + 1
  k0 : 0 ≤ k
  k1 : k < 2 * G'.length
  val : ∀ β, Fits β G' → lit β k = (lit β l && lit β r)
theorem WF.snoc {G : Graph} (h : WF G) {l r : Int} (h1 : 2 ≤ l) (h2 : l < r) (h3 : r < 2 * G.length) (h4 : r ≠ neg l) : WF (G ++ [some (l, r)]) where
  zero := by
    have := (List.getElem?_eq_some_iff.mp h.zero).1
    rw [List.getElem?_append_left this, h.zero]
  node := by
    intro i l' r' e
    rcases Nat.lt_trichotomy i G.length with hi | hi | hi
    · rw [List.getElem?_append_left hi] at e; exact h.node i l' r' e
    · subst hi
      rw [List.getElem?_append_right (Nat.le_refl _)] at e
      simp only [Nat.sub_self, List.getElem?_cons_zero, Option.some.injEq, Prod.mk.injEq] at e
      obtain ⟨rfl, rfl⟩ := e
      exact ⟨h1, h2, h3, h4⟩
    · rw [List.getElem?_eq_none (by simp; omega)] at e; cases e
theorem land_zero {G : Graph} {l r : Int} (wf : WF G) (hl : l = 0 ∨ l = neg r) : Land G l r 0 G where
  wf := wf
  pre := List.prefix_refl _
  len := by omega
  k0 := by omega
  k1 := by have := (List.getElem?_eq_some_iff.mp wf.zero).1; omega
  val := fun β h => by
    rw [lit_zero h]
    rcases hl with rfl | rfl
    · rw [lit_zero h]; rfl
    · rw [lit_neg]; cases lit β r <;> rfl
theorem land_right {G : Graph} {l r : Int} (wf : WF G) (hl : l = 1 ∨ l = r) (h0 : 0 ≤ r) (h1 : r < 2 * G.length) : Land G l r r G where
  wf := wf
  pre := List.prefix_refl _
  len := by omega
  k0 := h0
  k1 := h1
  val := fun β h => by
    rcases hl with rfl | rfl
    · rw [lit_one h]; cases lit β r <;> rfl
    · cases lit β l <;> rfl
theorem land_old {G : Graph} {l r i : Int} (wf : WF G) (h0 : 0 ≤ i) (e : G[i.toNat]? = some (some (l, r))) : Land G l r (2 * i) G where
  wf := wf
  pre := List.prefix_refl _
  len := by omega
  k0 := by omega
  k1 := by have := (List.getElem?_eq_some_iff.mp e).1; omega
  val := fun β h => by
    have := lit_node h e
    rw [Int.toNat_of_nonneg h0] at this
    exact this
theorem land_new {G : Graph} {l r : Int} (wf : WF G) (h1 : 2 ≤ l) (h2 : l < r) (h3 : r < 2 * G.length) (h4 : r ≠ neg l) : Land G l r (2 * (G.length : Int)) (G ++ [some (l, r)]) where
  wf := wf.snoc h1 h2 h3 h4
  pre := List.prefix_append _ _
  len := by simp
  k0 := by omega
  k1 := by simp; omega
  val := fun β h => lit_node h (by rw [List.getElem?_append_right (Nat.le_refl _)]; simp)
theorem Land.swap {G G' : Graph} {l r k : Int} (h : Land G l r k G') : Land G r l k G' :=
  ⟨h.wf, h.pre, h.len, h.k0, h.k1, fun β hb => by rw [h.val β hb]; cases lit β l <;> cases lit β r <;> rfl⟩
/-- behind the first statement of land: the two literals in order -/
def LandMid (news : Ledger) (x : Addr) (l r : Int) (g' : Heap) (L' : Addr) (s : Shared) (f : Flow) (s' : Shared) : Prop :=
  f = .next ∧ ∃ (l' r' : Int) (tl' tr' : Tok) (hh : Heap) (tk : Nat) (mm : Str → Option Value), s' = { s with heap := hh, toks := tk } ∧ Fr g' L' hh (fun y => if y = Str.ofString "self" then some (Value.ref x) else if y = Str.ofString "l" then some (Value.int l' tl') else if y = Str.ofString "r" then some (Value.int r' tr') else mm y) ∧ News g' L' hh news ∧ l' ≤ r' ∧ ((l' = l ∧ r' = r) ∨ (l' = r ∧ r' = l))
set_option maxRecDepth 100000 in
set_option maxHeartbeats 8000000 in
theorem land_ok {prog : Program} {w : World} {a : GA} {news : Ledger} {G : Graph} {ins : List Int} {l r : Int} {tl tr : Tok} (g : Gr prog w a news G ins) (wf : WF G) (hl0 : 0 ≤ l) (hl : l < 2 * G.length) (hr0 : 0 ≤ r) (hr : r < 2 * G.length) (hG : G.length ≤ 400) :
    Tel prog w 3 20 99 [.ref a.x, .int l tl, .int r tr] news (fun q news' => ∃ G' k t, Value.int k t = q ∧ Gr prog w a news' G' ins ∧ Land G l r k G' ∧ (∀ p ∈ news, p.1 ≠ a.nA → p.1 ≠ a.tA → p ∈ news') ∧ Grew a news news') := by
  k_with_none
  k_with "subscriptTail" => (k_here; (with_reducible show wpAny _ _ (subscriptTail _ _ (Value.ref _) (Value.int (Int.fdiv _ _) _)) _ _ _); k_dflt (refine' idx_half ?N ?hm ?hk ?hl ?h0 ?hx ?_ ?hs; (case N => k_asm); (case hm => k_mem); (case hk => exact shr1 _); (case hl => assumption); (case h0 => assumption); (case hx => assumption); (case hs => with_unfolding_all rfl); k_whole))
  k_with "compareOp In int ref" => (k_here; k_dflt (refine' in_pair ?N ?hm ?_; (case N => k_asm); (case hm => k_mem)))
  k_with "call builtin:len" => (k_here; (with_reducible show wpAny _ _ (call (Value.builtin "len") [Value.ref _]) _ _ _); k_dflt (refine' len_ok ?N ?hm ?hz ?_; (case N => k_asm); (case hm => k_mem); (case hz => omega)))
  k_with "getMethod ref" => (k_here; (with_reducible show wpAny _ _ (getMethod (Value.ref _) (PySem.Str.ofString "get") _) _ _ _); k_dflt (refine' tget_meth ?N ?hd ?he ?_; (case N => k_asm); (case hd => k_mem); (case he => assumption)))
  k_with "call builtin:dict.get" => (k_here; k_dflt (refine' tget_ok ?hu ?N ?hd ?T ?hsub ?lo ?hk ?_ ?_; (case hu => ktr_units); (case N => k_asm); (case hd => k_mem); (case T => assumption); (case hsub => exact (by intro p9 hp9; repeat (first | exact hp9 | refine List.mem_cons_of_mem _ ?_ | refine List.mem_append_left _ ?_))); (case lo => assumption); (case hk => k_mem)); (all_goals (intros; (try dsimp only); (try k_fold))))
  obtain ⟨x, dx, nA, iA, oA, tA, h1, h2, h3, h4, t1, t2, t3, t4, dn⟩ := a
  have gg := g
  obtain ⟨hx, hdx, ⟨nv, nn, hn, hnodes⟩, ⟨iv, inn, hi, hints⟩, ⟨ot, ht, hT⟩, hap, hap2, lo⟩ := g
  dsimp only at hx hdx hn hi ht hap hap2 lo ⊢
  have hex : ot.ExactDict := hT.choose_spec.choose_spec.choose_spec.1
  have hnl : nv.length ≤ 400 := by rw [hnodes.1]; exact hG
  unfold Tel
  intro dp un gd cn cs ad ccd cl outer A₀ base h₀ L m s p loose mean mg mb Q E B F X N T hk hd hu hret
  refine wpAny_call ?_
  k_dflt (refine' code_def ?k1 ?k2 ?k3 ?k4 ?k5 ?kA ?kF ?kK ?k6 ?k7 ?k8 ?k9 ?kB ?_ ?c2 ?c3 ?c4 ?c5; (case kA => exact rfl); (case kF => exact rfl); (case kK => assumption); (case k1 => k_asm); (case k2 => k_asm); (case k3 => k_asm); (case k4 => k_asm); (case k5 => k_asm); (case k6 => k_is); (case k7 => k_is); (case k8 => ktr_room); (case k9 => first | exact BindsTo.of_eq rfl | exact binds_K (by k_in) rfl (by k_is) rfl rfl rfl); (case c5 => decide); (case kB => exact locs rfl); (case c2 => exact rfl); (case c3 => exact rfl); (case c4 => exact rfl); k_whole; intro g' L' h' FG' F' N' B' X' T'; (try dsimp only); (try k_fold))
  have nxn : x ≠ nA := ne_of_cls N hx hn (fun h => nomatch h)
  have ndn : dx ≠ nA := ne_of_cls N hdx hn (by show Value.type _ ≠ Value.type _; decide)
  have ntn : tA ≠ nA := ne_of_cls N ht hn (by rw [hex.1]; show Value.type _ ≠ Value.type _; decide)
  refine wpAny_execs_cons ?_
  refine wpAny_mono (Q := LandMid news x l r g' L' s) (E := ek) ?_ ?_ (fun _ _ e => e)
  · (try dsimp only); (try k_fold)
    k_steps
    · exact ⟨rfl, r, l, _, _, _, _, _, rfl, fr_names3 (by k_asm) (by with_unfolding_all rfl) (by with_unfolding_all rfl) (by with_unfolding_all rfl), cb_drop (by assumption) (by intro p9 hp9; repeat (first | exact hp9 | refine List.mem_cons_of_mem _ ?_ | refine List.mem_append_left _ ?_)), by omega, .inr ⟨rfl, rfl⟩⟩
    · exact ⟨rfl, l, r, _, _, _, _, _, rfl, fr_names3 (by k_asm) (by with_unfolding_all rfl) (by with_unfolding_all rfl) (by with_unfolding_all rfl), cb_drop (by assumption) (by intro p9 hp9; repeat (first | exact hp9 | refine List.mem_cons_of_mem _ ?_ | refine List.mem_append_left _ ?_)), by omega, .inl ⟨rfl, rfl⟩⟩
  · rintro f s' ⟨rfl, l', r', tl', tr', hh, tk, mm, rfl, F1, N1, hlr, hsw⟩
    obtain ⟨b1, b2, b3, b4⟩ : 0 ≤ l' ∧ l' < 2 * (G.length : Int) ∧ 0 ≤ r' ∧ r' < 2 * (G.length : Int) := by
      rcases hsw with ⟨rfl, rfl⟩ | ⟨rfl, rfl⟩
      · exact ⟨hl0, hl, hr0, hr⟩
      · exact ⟨hr0, hr, hl0, hl⟩
    have conv : ∀ {k G'}, Land G l' r' k G' → Land G l r k G' := by
      rcases hsw with ⟨rfl, rfl⟩ | ⟨rfl, rfl⟩
      · exact fun h => h
      · exact fun h => h.swap
    clear hsw hl0 hl hr0 hr F' N'
    dsimp only
    (try k_fold)
    k_steps
    · exact hret _ news _ _ ⟨G, _, _, rfl, gg, conv (land_zero wf (.inl (by assumption))), (fun p hp _ _ => hp), ⟨nv, nn, nv, nn, hn, hn, List.prefix_refl _⟩⟩ (by k_asm) (cb_drop (by assumption) (by intro p9 hp9; repeat (first | exact hp9 | refine List.mem_cons_of_mem _ ?_ | refine List.mem_append_left _ ?_)))
    · exact hret _ news _ _ ⟨G, _, _, rfl, gg, conv (land_zero wf (.inr (by rw [← xor_one]; assumption))), (fun p hp _ _ => hp), ⟨nv, nn, nv, nn, hn, hn, List.prefix_refl _⟩⟩ (by k_asm) (cb_drop (by assumption) (by intro p9 hp9; repeat (first | exact hp9 | refine List.mem_cons_of_mem _ ?_ | refine List.mem_append_left _ ?_)))
    · exact hret _ news _ _ ⟨G, _, _, rfl, gg, conv (land_right wf (.inl (by assumption)) b3 b4), (fun p hp _ _ => hp), ⟨nv, nn, nv, nn, hn, hn, List.prefix_refl _⟩⟩ (by k_asm) (cb_drop (by assumption) (by intro p9 hp9; repeat (first | exact hp9 | refine List.mem_cons_of_mem _ ?_ | refine List.mem_append_left _ ?_)))
    · exact hret _ news _ _ ⟨G, _, _, rfl, gg, conv (land_right wf (.inr (by assumption)) b3 b4), (fun p hp _ _ => hp), ⟨nv, nn, nv, nn, hn, hn, List.prefix_refl _⟩⟩ (by k_asm) (cb_drop (by assumption) (by intro p9 hp9; repeat (first | exact hp9 | refine List.mem_cons_of_mem _ ?_ | refine List.mem_append_left _ ?_)))
    · (with_reducible rename News _ _ _ _ => N9); (with_reducible rename Fr _ _ _ _ => F9)
      with_unfolding_all refine app_ok F9 N9 (by k_mem) (by omega) (fun hA newsA FA NA keepA inA => ?_)
      have subA : ∀ p ∈ news, p.1 ≠ nA → p ∈ newsA := fun p hp hne => keepA p (by repeat (first | exact hp | refine List.mem_cons_of_mem _ ?_)) hne
      have hxA := subA _ hx nxn
      have hdxA := subA _ hdx ndn
      have htA := subA _ ht ntn
      have hkA := keepA _ List.mem_cons_self (ne_of_cls N9 List.mem_cons_self (o' := listOf nv.toArray nn) (by k_mem) (by show Value.type _ ≠ Value.type _; decide))
      have tupA : ∀ p ∈ news, p.2.cls = .type "tuple" → p ∈ newsA := fun p hp hc => subA p hp (ne_of_cls N (o := p.2) hp hn (by rw [hc]; show Value.type _ ≠ Value.type _; decide))
      (try dsimp only); (try k_fold)
      k_steps
      (with_reducible rename News _ _ _ _ => N9'); (with_reducible rename Fr _ _ _ _ => F9')
      with_unfolding_all refine tset_ok (G := G) (G' := G ++ [some (l', r')]) ?hu F9' N9' (by k_mem) (hT.mono (fun p hp hc => (List.mem_cons_of_mem _ (tupA p hp hc))) (fun _ _ e => e) (Nat.le_refl _)) (by k_mem) (by omega) ?hG (fun i g e => get_pre (List.prefix_append _ _) i g e) (by simp) (by omega) (fun hB newsB otB tkB FB NB keepB inB TB => ?_)
      case hu => ktr_units
      case hG => (rw [Int.toNat_natCast, hnodes.1, List.getElem?_append_right (Nat.le_refl _)]; simp)
      (try dsimp only); (try k_fold)
      have subB : ∀ p ∈ news, p.1 ≠ nA → p.1 ≠ tA → p ∈ newsB := fun p hp h1 h2 => keepB p (List.mem_cons_of_mem _ (subA p hp h1)) h2
      have hnB := keepB _ (List.mem_cons_of_mem _ inA) ntn.symm
      have hkB := keepB _ (List.mem_cons_of_mem _ hkA) (ne_of_cls N9' (List.mem_cons_of_mem _ hkA) (o' := ot) (by k_mem) (by rw [hex.1]; show Value.type _ ≠ Value.type _; decide))
      have hland : Land G l' r' (2 * (nv.length : Int)) (G ++ [some (l', r')]) := by
        rw [hnodes.1]
        exact land_new wf (by omega) (by omega) (by assumption) (fun e => absurd (by rw [xor_one, e, neg_neg] : l' = Builtin.bitXor r' 1) (by assumption))
      k_steps
      exact hret _ newsB _ _ ⟨G ++ [some (l', r')], _, _, rfl, Gr.grow gg N hn hnodes subB hnB hkB inB TB, conv hland, subB, ⟨nv, nn, _, _, hn, hnB, List.prefix_append _ _⟩⟩ (by k_asm) (by k_asm)
    · exact hret _ news _ _ ⟨G, _, _, rfl, gg, conv (land_old wf (by assumption) (by assumption)), (fun p hp _ _ => hp), ⟨nv, nn, nv, nn, hn, hn, List.prefix_refl _⟩⟩ (by k_asm) (cb_drop (by assumption) (by intro p9 hp9; repeat (first | exact hp9 | refine List.mem_cons_of_mem _ ?_ | refine List.mem_append_left _ ?_)))
end
section
/-- what the law asks by name of a conjunction and a side of it -/
def sp (G : Graph) (a b : Int) : Option Int := match G[(a / 2).toNat]? with
  | some (some (l, r)) => if a % 2 = 0 then (if b = l ∨ b = r then some a else if b = neg l ∨ b = neg r then some 0 else none) else (if b = neg l ∨ b = neg r then some b else none)
  | _ => none
structure Smart (G : Graph) (a b k : Int) (G' : Graph) : Prop where
  land : Land G a b k G'
  named : ∀ v, sp G a b = some v → k = v ∧ G' = G
def stp1 (gc gd : Option (Int × Int)) (c d : Int) : Stp := match gc with
  | none => .no
  | some (l1, r1) => if Builtin.bitAnd c 1 = 0 then (match rp l1 r1 c d gd with | some k => .is k | none => .no) else rn l1 r1 d gd
def nxt (S T : Stp) : Stp := match S with
  | .no => T
  | S => S
def StpOK (G : Graph) (c d : Int) : Stp → Prop
  | .no => True
  | .is k => 0 ≤ k ∧ k < 2 * G.length ∧ ∀ β, Fits β G → lit β k = (lit β c && lit β d)
  | .an a b => (0 ≤ a ∧ a < 2 * G.length) ∧ (0 ≤ b ∧ b < 2 * G.length) ∧ ∀ β, Fits β G → (lit β a && lit β b) = (lit β c && lit β d)
theorem nxt_ok {G : Graph} {c d : Int} {S T : Stp} (h1 : StpOK G c d S) (h2 : StpOK G c d T) : StpOK G c d (nxt S T) := by
  cases S <;> first | exact h2 | exact h1
theorem stp_swap {G : Graph} {c d : Int} {S : Stp} (h : StpOK G c d S) : StpOK G d c S := by
  cases S with
  | no => trivial
  | is k => exact ⟨h.1, h.2.1, fun β f => by rw [h.2.2 β f]; cases lit β c <;> cases lit β d <;> rfl⟩
  | an a b => exact ⟨h.1, h.2.1, fun β f => by rw [h.2.2 β f]; cases lit β c <;> cases lit β d <;> rfl⟩
theorem lit_even {β : Nat → Bool} {G : Graph} (h : Fits β G) {c l r : Int} (e : G[(c / 2).toNat]? = some (some (l, r))) (hc : c % 2 = 0) : lit β c = (lit β l && lit β r) := by
  rw [← h.2 _ l r e]; unfold lit; rw [decide_eq_false (by omega)]; cases β (c / 2).toNat <;> rfl
theorem lit_odd {β : Nat → Bool} {G : Graph} (h : Fits β G) {c l r : Int} (e : G[(c / 2).toNat]? = some (some (l, r))) (hc : ¬ c % 2 = 0) : lit β c = !(lit β l && lit β r) := by
  rw [← h.2 _ l r e]; unfold lit; rw [decide_eq_true (by omega)]; cases β (c / 2).toNat <;> rfl
theorem neg_nonneg {k : Int} (h : 0 ≤ k) : 0 ≤ neg k := by unfold neg; omega
theorem neg_lt {k n : Int} (h : k < 2 * n) : neg k < 2 * n := by unfold neg; omega
theorem in_range {G : Graph} {c : Int} {g : Option (Int × Int)} (e : G[(c / 2).toNat]? = some g) (h : 0 ≤ c) : c < 2 * G.length := by
  have := (List.getElem?_eq_some_iff.mp e).1; omega
theorem opp_true {l r k : Int} {β : Nat → Bool} (h : opp l r k = true) : lit β l = !lit β k ∨ lit β r = !lit β k := by
  simp only [opp, Bool.or_eq_true, decide_eq_true_eq] at h
  rcases h with rfl | rfl
  · exact .inl (lit_neg β k)
  · exact .inr (lit_neg β k)
theorem oth_lit {l r k : Int} {β : Nat → Bool} (h : k = l ∨ k = r) : (lit β l && lit β r) = (lit β k && lit β (oth l r k)) := by
  unfold oth
  split
  · rename_i e; rw [e]
  · rename_i e
    rcases h with rfl | rfl
    · exact absurd rfl e
    · cases lit β l <;> cases lit β k <;> rfl
theorem oth_mem {l r k : Int} : oth l r k = l ∨ oth l r k = r := by unfold oth; split <;> simp
theorem stp1_ok {G : Graph} (wf : WF G) {c d : Int} {gc gd : Option (Int × Int)} (hc : G[(c / 2).toNat]? = some gc) (hd : G[(d / 2).toNat]? = some gd) (c0 : 0 ≤ c) (d0 : 0 ≤ d) : StpOK G c d (stp1 gc gd c d) := by
  have c1 := in_range hc c0
  have d1 := in_range hd d0
  rcases gc with _ | ⟨l, r⟩
  · trivial
  obtain ⟨w1, w2, w3, w4⟩ := wf.node _ l r hc
  have hlen := (List.getElem?_eq_some_iff.mp hc).1
  have z0 : 0 < G.length := (List.getElem?_eq_some_iff.mp wf.zero).1
  simp only [stp1, bitAnd_m1]
  split
  · rename_i ev
    have fin : ∀ k, rp l r c d gd = some k → StpOK G c d (.is k) := by
      intro k hk
      unfold rp at hk
      split at hk
      · rename_i h
        cases hk
        refine ⟨c0, c1, fun β f => ?_⟩
        rw [lit_even f hc ev, oth_lit (β := β) h]
        cases lit β d <;> simp
      split at hk
      · rename_i h
        cases hk
        refine ⟨by omega, by omega, fun β f => ?_⟩
        rw [lit_zero f, lit_even f hc ev]
        rcases opp_true (β := β) h with e | e <;> rw [e] <;> cases lit β d <;> simp
      rcases gd with _ | ⟨l2, r2⟩
      · cases hk
      simp only [bitAnd_m1] at hk
      split at hk
      · rename_i ev2
        split at hk
        · rename_i h
          cases hk
          refine ⟨by omega, by omega, fun β f => ?_⟩
          rw [lit_zero f, lit_even f hc ev, lit_even f hd ev2]
          rcases opp_true (β := β) h with e | e <;> rw [e] <;> cases lit β l2 <;> simp
        split at hk
        · rename_i h
          cases hk
          refine ⟨by omega, by omega, fun β f => ?_⟩
          rw [lit_zero f, lit_even f hc ev, lit_even f hd ev2]
          rcases opp_true (β := β) h with e | e <;> rw [e] <;> cases lit β r2 <;> simp
        · cases hk
      · cases hk
    split
    · rename_i k hk; exact fin k hk
    · trivial
  · rename_i od
    unfold rn
    simp only [xor_one, bitAnd_m1]
    have bo : ∀ k, (0 ≤ neg (oth l r k) ∧ neg (oth l r k) < 2 * (G.length : Int)) := by
      intro k
      rcases @oth_mem l r k with e | e <;> rw [e] <;> exact ⟨neg_nonneg (by omega), neg_lt (by omega)⟩
    split
    · rename_i h
      refine ⟨d0, d1, fun β f => ?_⟩
      rw [lit_odd f hc od]
      rcases opp_true (β := β) h with e | e <;> rw [e] <;> cases lit β d <;> simp
    split
    · rename_i h
      refine ⟨⟨d0, d1⟩, bo d, fun β f => ?_⟩
      rw [lit_odd f hc od, oth_lit (β := β) h, lit_neg]
      cases lit β d <;> simp
    rcases gd with _ | ⟨l2, r2⟩
    · trivial
    obtain ⟨v1, v2, v3, v4⟩ := wf.node _ l2 r2 hd
    have hlen2 := (List.getElem?_eq_some_iff.mp hd).1
    dsimp only
    split
    · rename_i ev2
      split
      · rename_i h
        refine ⟨d0, d1, fun β f => ?_⟩
        rw [lit_odd f hc od, lit_even f hd ev2]
        rcases opp_true (β := β) h with e | e <;> rw [e] <;> cases lit β l2 <;> simp
      split
      · rename_i h
        refine ⟨d0, d1, fun β f => ?_⟩
        rw [lit_odd f hc od, lit_even f hd ev2]
        rcases opp_true (β := β) h with e | e <;> rw [e] <;> cases lit β r2 <;> simp
      split
      · rename_i h
        refine ⟨⟨d0, d1⟩, bo l2, fun β f => ?_⟩
        rw [lit_odd f hc od, lit_even f hd ev2, oth_lit (β := β) h, lit_neg]
        cases lit β l2 <;> simp
        cases lit β r2 <;> simp
      split
      · rename_i h
        refine ⟨⟨d0, d1⟩, bo r2, fun β f => ?_⟩
        rw [lit_odd f hc od, lit_even f hd ev2, oth_lit (β := β) h, lit_neg]
        cases lit β l2 <;> cases lit β r2 <;> simp
      · trivial
    · rename_i od2
      split
      · rename_i h
        refine ⟨neg_nonneg (by omega), neg_lt (by omega), fun β f => ?_⟩
        rw [lit_odd f hc od, lit_odd f hd od2, oth_lit (β := β) h.1, h.2, lit_neg, lit_neg, oth_lit (β := β) (k := l2) (l := l2) (r := r2) (.inl rfl)]
        cases lit β l2 <;> simp
      split
      · rename_i h
        refine ⟨neg_nonneg (by omega), neg_lt (by omega), fun β f => ?_⟩
        rw [lit_odd f hc od, lit_odd f hd od2, oth_lit (β := β) h.1, h.2, lit_neg, lit_neg, oth_lit (β := β) (k := r2) (l := l2) (r := r2) (.inr rfl)]
        cases lit β r2 <;> simp
      · trivial
/-- where the law asks by name, the first turn answers -/
theorem sp_first {G : Graph} (wf : WF G) {c d v : Int} {gc gd : Option (Int × Int)} (hc : G[(c / 2).toNat]? = some gc) (c0 : 0 ≤ c) (d0 : 0 ≤ d) (h : sp G c d = some v) :
    stp1 gc gd c d = .is v ∧ 2 ≤ c ∧ 2 ≤ d ∧ c / 2 ≠ d / 2 := by
  unfold sp at h
  rw [hc] at h
  rcases gc with _ | ⟨l, r⟩
  · cases h
  obtain ⟨w1, w2, w3, w4⟩ := wf.node _ l r hc
  have n1 : neg l / 2 = l / 2 := by unfold neg; omega
  have n2 : neg r / 2 = r / 2 := by unfold neg; omega
  dsimp only at h
  have side : ((d = l ∨ d = r) ∨ d = neg l ∨ d = neg r) → 2 ≤ c ∧ 2 ≤ d ∧ c / 2 ≠ d / 2 := by
    intro hd
    have e1 : d / 2 = l / 2 ∨ d / 2 = r / 2 := by
      rcases hd with (rfl | rfl) | rfl | rfl
      · exact .inl rfl
      · exact .inr rfl
      · exact .inl n1
      · exact .inr n2
    omega
  simp only [stp1, bitAnd_m1]
  split at h
  · rename_i ev
    rw [if_pos ev]
    split at h
    · rename_i hd
      cases h
      refine ⟨?_, side (.inl hd)⟩
      have e : rp l r c d gd = some c := by unfold rp; rw [if_pos hd]
      rw [e]
    split at h
    · rename_i hn hd
      cases h
      refine ⟨?_, side (.inr hd)⟩
      have e : rp l r c d gd = some 0 := by
        unfold rp
        rw [if_neg hn, if_pos]
        rcases hd with rfl | rfl <;> simp [opp, neg_neg]
      rw [e]
    · cases h
  · rename_i od
    rw [if_neg od]
    split at h
    · rename_i hd
      cases h
      refine ⟨?_, side (.inr hd)⟩
      unfold rn
      rw [if_pos]
      rcases hd with rfl | rfl <;> simp [opp, neg_neg]
    · cases h
end
section
theorem off_B6 : True := by w_top off; trivial
section
variable {prog : Program} {w : World} {A : Around} {E : Value → Shared → Prop} {Q : Flow → Shared → Prop} {s : Shared} {env : Env} {h₀ h : Heap} {L : Addr} {m : Str → Option Value}
theorem off_cons {own nx led : Ledger} {t : Addr} {o : Obj} {n n' : String} (N : News h₀ L h led) (ho : ∀ p ∈ own, p ∈ led) (hc : ∀ p ∈ own, p.2.cls = .type n) (ht : (t, o) ∈ led) (hn : o.cls = .type n') (hne : n ≠ n') (off : OwnOff own (nx.map (·.1))) :
    OwnOff own (((t, o) :: nx).map (·.1)) := by
  intro p hp b hb
  rcases List.mem_cons.mp hb with rfl | hb
  · exact ne_of_cls N (o := p.2) (ho p hp) ht (by rw [hc p hp, hn]; intro h; exact hne (by injection h))
  · exact off p hp b hb
theorem invEnd_cons {J : (Str → Option Value) → Ledger → Prop} {m' : Str → Option Value} {own led nx : Ledger} {h' : Heap} {tk : Nat} {t : Addr} {o : Obj} {n n' : String} (F : Fr h₀ L h' m') (N : News h₀ L h' led) (ht : (t, o) ∈ led) (hsub : ∀ p ∈ nx, p ∈ led) (ho : ∀ p ∈ own, p ∈ led)
    (hc : ∀ p ∈ own, p.2.cls = .type n) (hn : o.cls = .type n') (hne : n ≠ n') (off : OwnOff own (nx.map (·.1))) (hj : J m' ((t, o) :: nx)) : InvEndG h₀ L J own s { s with heap := h', toks := tk } :=
  InvEndG.intro F N hj (off_cons N ho hc ht hn hne off) (List.forall_mem_cons.mpr ⟨ht, hsub⟩) ho
def WEnd (h₀ : Heap) (L : Addr) (s : Shared) (J : Nat → (Str → Option Value) → Ledger → Prop) (n : Nat) (s₃ : Shared) : Prop :=
  ∃ h' tk m₂ news₂ n', s₃ = { s with heap := h', toks := tk } ∧ Fr h₀ L h' m₂ ∧ News h₀ L h' news₂ ∧ n' < n ∧ J n' m₂ news₂
def WPost (h₀ : Heap) (L : Addr) (s : Shared) (J : Nat → (Str → Option Value) → Ledger → Prop) (Q : Flow → Shared → Prop) (n : Nat) (f : Flow) (s₃ : Shared) : Prop :=
  match f with
  | .ret v => Q (.ret v) s₃
  | .brk => Q .next s₃
  | _ => WEnd h₀ L s J n s₃
theorem WEnd.intro {J : Nat → (Str → Option Value) → Ledger → Prop} {n n' tk : Nat} {h' : Heap} {m₂ : Str → Option Value} {led news₂ : Ledger} (F : Fr h₀ L h' m₂) (N : News h₀ L h' led) (hsub : ∀ p ∈ news₂, p ∈ led) (hn : n' < n) (hJ : J n' m₂ news₂) : WEnd h₀ L s J n { s with heap := h', toks := tk } :=
  ⟨h', tk, m₂, news₂, n', rfl, F, cb_drop N hsub, hn, hJ⟩
theorem while_J {test : Expr} {body : List Stmt} {pos : Pos} {news : Ledger} (J : Nat → (Str → Option Value) → Ledger → Prop) {n₀ : Nat}
    (F : Fr h₀ L s.heap m) (N : News h₀ L s.heap news) (hJ : J n₀ m news)
    (turn : ∀ n m₁ news₁ h₁ tk₁, Fr h₀ L h₁ m₁ → News h₀ L h₁ news₁ → J n m₁ news₁ →
      wpAny (model prog w) A (isTrue test env (eval test env)) (fun b s₂ =>
        if b = true then wpAny (model prog w) A (execs body env) (WPost h₀ L s J Q n) E s₂ else Q .next s₂) E { s with heap := h₁, toks := tk₁ })
    (hE : PassesOwn (model prog w) A env E := by passes_own) :
    wpAny (model prog w) A (exec (.While test body [] pos) env) Q E s := by
  refine While_inv2 J F N hJ (fun n m₁ news₁ h₁ tk₁ F₁ N₁ J₁ => ?_) hE
  refine wpAny_mono (turn n m₁ news₁ h₁ tk₁ F₁ N₁ J₁) (fun b s₂ p => ?_) fun _ _ x => x
  cases b with
  | false => simpa using p
  | true =>
    simp only [if_true] at p ⊢
    refine wpAny_mono p (fun f s₃ q => ?_) fun _ _ x => x
    cases f <;> exact q
end
abbrev isO (k : Int) (t1 t2 : Tok) : Obj := { cls := .type "tuple", data := .seq #[.str (Str.ofString "is") t1, .int k t2] }
abbrev anO (a b : Int) (t1 t2 t3 : Tok) : Obj := { cls := .type "tuple", data := .seq #[.str (Str.ofString "and") t1, .int a t2, .int b t3] }
def StepV (nx : Ledger) (v : Value) : Stp → Prop
  | .no => v = .none
  | .is k => ∃ t t1 t2, v = .ref t ∧ (t, isO k t1 t2) ∈ nx
  | .an a b => ∃ t t1 t2 t3, v = .ref t ∧ (t, anO a b t1 t2 t3) ∈ nx
theorem StepV.of {nx : Ledger} {v : Value} {S S' : Stp} (e : S' = S) (h : StepV nx v S) : StepV nx v S' := e ▸ h
/-- the step as it stands ahead of each turn of the inner loop -/
def acc (gc gd : Option (Int × Int)) (c d : Int) : Nat → Stp
  | 0 => .no
  | 1 => stp1 gc gd c d
  | _ => nxt (stp1 gc gd c d) (stp1 gd gc d c)
structure TInv (news : Ledger) (D1 D2 x : Addr) (c d k : Int) (tc td : Tok) (S : Nat → Stp) (i : Nat) (m : Str → Option Value) (ny : Ledger) : Prop where
  sub : ∀ p ∈ news, p ∈ ny
  q1 : (D1, tupO c tc d td) ∈ ny
  q2 : (D2, tupO d td c tc) ∈ ny
  e1 : m (Str.ofString "aig") = some (Value.ref x)
  e2 : m (Str.ofString "a") = some (Value.int c tc)
  e3 : m (Str.ofString "b") = some (Value.int d td)
  e4 : ∃ tt, m (Str.ofString "turns") = some (Value.int (k - 1) tt)
  st : ∃ sv, m (Str.ofString "step") = some sv ∧ StepV ny sv (S i)
structure SInv (G : Graph) (l r a b k : Int) : Prop where
  a0 : 0 ≤ a
  a1 : a < 2 * G.length
  b0 : 0 ≤ b
  b1 : b < 2 * G.length
  k0 : 0 ≤ k
  same : ∀ β, Fits β G → (lit β a && lit β b) = (lit β l && lit β r)
  named : ∀ v, sp G l r = some v → k = 32 ∧ a = l ∧ b = r
section
variable {G : Graph} {l r c d k : Int} {gc gd : Option (Int × Int)}
theorem s_none (wf : WF G) (I : SInv G l r c d k) (hgc : G[(c / 2).toNat]? = some gc) (h : ∀ v, stp1 gc gd c d = .is v → 2 ≤ c → 2 ≤ d → c / 2 ≠ d / 2 → k = 32 → False) : sp G l r = none := by
  cases e : sp G l r with
  | none => rfl
  | some v =>
    obtain ⟨q1, q2, q3⟩ := I.named v e
    rw [← q2, ← q3] at e
    obtain ⟨p1, p2, p3, p4⟩ := sp_first (gd := gd) wf hgc I.a0 I.b0 e
    exact (h v p1 p2 p3 p4 q1).elim
theorem s_ok (wf : WF G) (I : SInv G l r c d k) (hgc : G[(c / 2).toNat]? = some gc) (hgd : G[(d / 2).toNat]? = some gd) : StpOK G c d (nxt (stp1 gc gd c d) (stp1 gd gc d c)) :=
  nxt_ok (stp1_ok wf hgc hgd I.a0 I.b0) (stp_swap (stp1_ok wf hgd hgc I.b0 I.a0))
theorem s_no (wf : WF G) (I : SInv G l r c d k) (hgc : G[(c / 2).toNat]? = some gc) (hS : Stp.no = nxt (stp1 gc gd c d) (stp1 gd gc d c)) : sp G l r = none :=
  s_none (gd := gd) wf I hgc fun v e _ _ _ _ => by rw [e] at hS; cases hS
theorem s_is {ks : Int} (wf : WF G) (I : SInv G l r c d k) (hgc : G[(c / 2).toNat]? = some gc) (hgd : G[(d / 2).toNat]? = some gd) (hS : Stp.is ks = nxt (stp1 gc gd c d) (stp1 gd gc d c)) : Smart G l r ks G := by
  have ok := s_ok wf I hgc hgd
  rw [← hS] at ok
  refine ⟨⟨wf, List.prefix_refl _, by omega, ok.1, ok.2.1, fun β f => (ok.2.2 β f).trans (I.same β f)⟩, fun v e => ⟨?_, rfl⟩⟩
  obtain ⟨q1, q2, q3⟩ := I.named v e
  rw [← q2, ← q3] at e
  obtain ⟨p1, _⟩ := sp_first (gd := gd) wf hgc I.a0 I.b0 e
  rw [p1] at hS
  injection hS
theorem s_an {as bs : Int} (wf : WF G) (I : SInv G l r c d k) (hgc : G[(c / 2).toNat]? = some gc) (hgd : G[(d / 2).toNat]? = some gd) (hS : Stp.an as bs = nxt (stp1 gc gd c d) (stp1 gd gc d c)) (hk : 0 < k) : SInv G l r as bs (k - 1) := by
  have ok := s_ok wf I hgc hgd
  rw [← hS] at ok
  refine ⟨ok.1.1, ok.1.2, ok.2.1.1, ok.2.1.2, by omega, fun β f => (ok.2.2 β f).trans (I.same β f), fun v e => ?_⟩
  have z := s_none (gd := gd) wf I hgc fun v e _ _ _ _ => by rw [e] at hS; cases hS
  rw [z] at e; cases e
end
/-- how the loop of smart_and ends -/
def SEnd (G : Graph) (l r : Int) (x : Addr) (news : Ledger) (h₀ : Heap) (L : Addr) (s : Shared) (f : Flow) (s' : Shared) : Prop :=
  (f = .next ∧ ∃ (h' : Heap) (tk : Nat) (m' : Str → Option Value) (c d k : Int) (tc td : Tok), s' = { s with heap := h', toks := tk } ∧
    Fr h₀ L h' (fun y => if y = Str.ofString "aig" then some (Value.ref x) else if y = Str.ofString "a" then some (Value.int c tc) else if y = Str.ofString "b" then some (Value.int d td) else m' y) ∧ News h₀ L h' news ∧ SInv G l r c d k ∧ sp G l r = none) ∨
  (∃ (v : Int) (t : Tok) (h' : Heap) (tk : Nat) (m' : Str → Option Value), f = .ret (.int v t) ∧ s' = { s with heap := h', toks := tk } ∧ Fr h₀ L h' m' ∧ News h₀ L h' news ∧ Smart G l r v G)
section
variable {news ny : Ledger} {D1 D2 x : Addr} {c d k : Int} {tc td : Tok} {S : Nat → Stp} {i n : Nat} {m : Str → Option Value} {P : Prop}
theorem TInv.out (T : TInv news D1 D2 x c d k tc td S i m ny)
    (q : ∀ tt sv, (∀ p ∈ news, p ∈ ny) → (D1, tupO c tc d td) ∈ ny → (D2, tupO d td c tc) ∈ ny → m (Str.ofString "aig") = some (Value.ref x) → m (Str.ofString "a") = some (Value.int c tc) → m (Str.ofString "b") = some (Value.int d td) →
      m (Str.ofString "turns") = some (Value.int (k - 1) tt) → m (Str.ofString "step") = some sv → StepV ny sv (S i) → P) : P :=
  let ⟨h1, h2, h3, h4, h5, h6, ⟨tt, h7⟩, sv, h8, h9⟩ := T; q tt sv h1 h2 h3 h4 h5 h6 h7 h8 h9
theorem pick {nv : List Value} {v vc vd : Value} {gc gd : Option (Int × Int)} (hv : ([.ref D1, .ref D2] : List Value)[i]? = some v) (q1 : (D1, tupO c tc d td) ∈ ny) (q2 : (D2, tupO d td c tc) ∈ ny) (hc0 : 0 ≤ c) (hd0 : 0 ≤ d)
    (hvc : nv[(c / 2).toNat]? = some vc) (hvd : nv[(d / 2).toNat]? = some vd) (hnc : NodeIs news vc gc) (hnd : NodeIs news vd gd)
    (q : ∀ D o tO t tT vo go vt gt, v = .ref D → (D, tupO o tO t tT) ∈ ny → 0 ≤ o → 0 ≤ t → nv[(o / 2).toNat]? = some vo → nv[(t / 2).toNat]? = some vt → NodeIs news vo go → NodeIs news vt gt → acc gc gd c d (i + 1) = nxt (acc gc gd c d i) (stp1 go gt o t) → P) : P := by
  rcases i with _ | _ | i
  · exact q D1 c tc d td vc gc vd gd (by simpa using hv.symm) q1 hc0 hd0 hvc hvd hnc hnd rfl
  · exact q D2 d td c tc vd gd vc gc (by simpa using hv.symm) q2 hd0 hc0 hvd hvc hnd hnc rfl
  · simp at hv
/-- what the outer loop keeps -/
def WInv (G : Graph) (l r : Int) (x : Addr) (news : Ledger) (n : Nat) (m : Str → Option Value) (nx : Ledger) : Prop :=
  news = nx ∧ ∃ c d k tc td tk, m (Str.ofString "aig") = some (Value.ref x) ∧ m (Str.ofString "a") = some (Value.int c tc) ∧ m (Str.ofString "b") = some (Value.int d td) ∧ m (Str.ofString "turns") = some (Value.int k tk) ∧ n = k.toNat ∧ SInv G l r c d k
theorem WInv.out {G : Graph} {l r : Int} {h₀ h : Heap} {L : Addr} (W : WInv G l r x news n m ny) (F : Fr h₀ L h m) (N : News h₀ L h ny)
    (q : ∀ c d k tc td tk (m' : Str → Option Value), n = k.toNat → SInv G l r c d k → Fr h₀ L h (fun y => if y = Str.ofString "aig" then some (Value.ref x) else if y = Str.ofString "a" then some (Value.int c tc) else if y = Str.ofString "b" then some (Value.int d td) else if y = Str.ofString "turns" then some (Value.int k tk) else m' y) → News h₀ L h news → P) : P := by
  obtain ⟨rfl, c, d, k, tc, td, tk, e1, e2, e3, e4, e5, I⟩ := W
  exact q c d k tc td tk m e5 I (fr_names4 e1 e2 e3 e4 F) N
theorem StepV.is_out {v : Value} {ks : Int} (h : StepV ny v (.is ks)) (q : ∀ t t1 t2, v = .ref t → (t, isO ks t1 t2) ∈ ny → P) : P :=
  let ⟨t, t1, t2, a, b⟩ := h; q t t1 t2 a b
theorem StepV.an_out {v : Value} {as bs : Int} (h : StepV ny v (.an as bs)) (q : ∀ t t1 t2 t3, v = .ref t → (t, anO as bs t1 t2 t3) ∈ ny → P) : P :=
  let ⟨t, t1, t2, t3, a, b⟩ := h; q t t1 t2 t3 a b
end
set_option maxRecDepth 100000 in
set_option maxHeartbeats 8000000 in
theorem smart_ok {prog : Program} {w : World} {a : GA} {news : Ledger} {G : Graph} {ins : List Int} {l r : Int} {tl tr : Tok} (g : Gr prog w a news G ins) (wf : WF G) (hl0 : 0 ≤ l) (hl : l < 2 * G.length) (hr0 : 0 ≤ r) (hr : r < 2 * G.length) (hG : G.length ≤ 400) :
    Tel prog w 9 60 57 [.ref a.x, .int l tl, .int r tr] news (fun q news' => ∃ G' k t, Value.int k t = q ∧ Gr prog w a news' G' ins ∧ Smart G l r k G' ∧ (∀ p ∈ news, p.1 ≠ a.nA → p.1 ≠ a.tA → p ∈ news') ∧ Grew a news news') := by
  k_with_none
  k_with "subscriptTail" => (k_here; (with_reducible show wpAny _ _ (subscriptTail _ _ (Value.ref _) (Value.int (Int.fdiv _ _) _)) _ _ _); k_dflt (refine' idx_half ?N ?hm ?hk ?hl ?h0 ?hx ?_ ?hs; (case N => k_asm); (case hm => k_mem); (case hk => exact shr1 _); (case hl => assumption); (case h0 => assumption); (case hx => assumption); (case hs => with_unfolding_all rfl); k_whole))
  k_with "compareOp In int ref" => (k_here; k_dflt (refine' in_pair ?N ?hm ?_; (case N => k_asm); (case hm => k_mem)))
  k_with "exec While Compare cons nil" => (k_here; refine Held.out ?_)
  k_with "WPost" => (dsimp only [WPost])
  k_with "getMethod ref" => (k_here; (with_reducible show wpAny _ _ (getMethod (Value.ref _) (PySem.Str.ofString "get") _) _ _ _); k_dflt (refine' tget_meth ?N ?hd ?he ?_; (case N => k_asm); (case hd => k_mem); (case he => assumption)))
  k_with "call builtin:dict.get" => (k_here; k_dflt (refine' tget_ok ?hu ?N ?hd ?T ?hsub ?lo ?hk ?_ ?_; (case hu => ktr_units); (case N => k_asm); (case hd => k_mem); (case T => assumption); (case hsub => exact (by intro p9 hp9; repeat (first | exact hp9 | refine List.mem_cons_of_mem _ ?_ | refine List.mem_append_left _ ?_))); (case lo => assumption); (case hk => k_mem)); (all_goals (intros; (try dsimp only); (try k_fold))))
  k_with "call ref" => (k_here; k_dflt (refine' Tel.use ?k1 ?k2 ?k3 ?k4 ?k5 ?kK (rpos_ok ?hx ?hdx ?hn ?hm ?ha0 ?hb0 ?hlen ?ha ?hb ?hgb) ?kd ?ku ?_; ktr_rel; (case hx => k_mem); (case hdx => k_mem); (case hn => k_mem); (case ha0 => assumption); (case hb0 => assumption); (case hlen => assumption); (case ha => assumption); (case hm => k_mem); (case hb => assumption); (case hgb => first | assumption | exact NodeIs.mono (fun p9 hp9 _ => by repeat (first | exact hp9 | refine List.mem_cons_of_mem _ ?_ | refine List.mem_append_left _ ?_)) (by assumption)); intro q9 n9 h9 tk9 p9 F9 N9; obtain ⟨e1, e2⟩ := p9; subst e1; split at e2); (all_goals (first | subst e2 | (obtain ⟨t9, e2⟩ := e2; subst e2))); (all_goals ((try dsimp only); (try k_fold))))
  k_with "call ref" => (k_here; k_dflt (refine' Tel.use ?k1 ?k2 ?k3 ?k4 ?k5 ?kK (rneg_ok ?hx ?hdx ?hn ?hm ?ha0 ?hb0 ?hlen ?ha ?hb ?hgb) ?kd ?ku ?_; ktr_rel; (case hx => k_mem); (case hdx => k_mem); (case hn => k_mem); (case ha0 => assumption); (case hb0 => assumption); (case hlen => assumption); (case ha => assumption); (case hm => k_mem); (case hb => assumption); (case hgb => first | assumption | exact NodeIs.mono (fun p9 hp9 _ => by repeat (first | exact hp9 | refine List.mem_cons_of_mem _ ?_ | refine List.mem_append_left _ ?_)) (by assumption)); intro q9 n9 h9 tk9 p9 F9 N9; generalize hrn : rn _ _ _ _ = S9 at p9; cases S9); (all_goals (first | (obtain ⟨e1, e2⟩ := p9; subst e1; subst e2) | (obtain ⟨t9, u9, v9, e1, e2⟩ := p9; subst e1; subst e2) | (obtain ⟨t9, u9, v9, w9, e1, e2⟩ := p9; subst e1; subst e2))); (all_goals ((try dsimp only); (try k_fold))))
  obtain ⟨x, dx, nA, iA, oA, tA, h1, h2, h3, h4, t1, t2, t3, t4, dn⟩ := a
  have gg := g
  obtain ⟨hx, hdx, ⟨nv, nn, hn, hnodes⟩, ⟨iv, inn, hi, hints⟩, ⟨ot, ht, hT⟩, hap, hap2, lo⟩ := g
  dsimp only at hx hdx hn hi ht hap hap2 lo ⊢
  have hnl : nv.length < 1000 := by rw [hnodes.1]; omega
  unfold Tel
  intro dp un gd cn cs ad ccd cl outer A₀ base h₀ L m s p loose mean mg mb Q E B F X N T hk hd hu hret
  refine wpAny_call ?_
  k_dflt (refine' code_def ?k1 ?k2 ?k3 ?k4 ?k5 ?kA ?kF ?kK ?k6 ?k7 ?k8 ?k9 ?kB ?_ ?c2 ?c3 ?c4 ?c5; (case kA => exact rfl); (case kF => exact rfl); (case kK => assumption); (case k1 => k_asm); (case k2 => k_asm); (case k3 => k_asm); (case k4 => k_asm); (case k5 => k_asm); (case k6 => k_is); (case k7 => k_is); (case k8 => ktr_room); (case k9 => first | exact BindsTo.of_eq rfl | exact binds_K (by k_in) rfl (by k_is) rfl rfl rfl); (case c5 => decide); (case kB => exact locs rfl); (case c2 => exact rfl); (case c3 => exact rfl); (case c4 => exact rfl); k_whole; intro g' L' h' FG' F' N' B' X' T'; (try dsimp only); (try k_fold))
  k_steps
  refine Held.take ?_
  have place : ∀ c : Int, 0 ≤ c → c < 2 * G.length → ∃ gc vc, G[(c / 2).toNat]? = some gc ∧ nv[(c / 2).toNat]? = some vc ∧ NodeIs news vc gc := fun c h0 h1 => by
    have hlt : (c / 2).toNat < G.length := by omega
    obtain ⟨v, e1, e2⟩ := hnodes.2 _ _ (List.getElem?_eq_getElem hlt)
    exact ⟨_, v, List.getElem?_eq_getElem hlt, e1, e2⟩
  refine wpAny_mono (Q := SEnd G l r x news g' L' { s with heap := h', toks := tk }) (E := ek) ?_ ?_ (fun _ _ e => e)
  · with_unfolding_all refine while_J (n₀ := 32) (WInv G l r x news) F' N' ⟨rfl, l, r, 32, tl, tr, _, rfl, rfl, rfl, rfl, rfl, ⟨hl0, hl, hr0, hr, by omega, fun _ _ => rfl, fun _ _ => ⟨rfl, rfl, rfl⟩⟩⟩ ?_
    intro n m₁ nx h1 tk1 F1 N1 W1
    refine W1.out F1 N1 fun c d k tc td tk mF en I F1' N1' => ?_
    subst en
    clear F1 F' N1 W1
    have hc0 := I.a0; have hd0 := I.b0
    refine ex23 (place c I.a0 I.a1) fun gc vc hgc hvc hnc => ?_
    refine ex23 (place d I.b0 I.b1) fun gd vd hgd hvd hnd => ?_
    k_steps
    · exact .inl ⟨rfl, _, _, _, c, d, k, tc, td, rfl, fr_names3 (by k_asm) (by with_unfolding_all rfl) (by with_unfolding_all rfl) (by with_unfolding_all rfl), (by k_asm), I, s_none (gd := gd) wf I hgc (fun _ _ h2 h3 h4 h5 => by omega)⟩
    · exact .inl ⟨rfl, _, _, _, c, d, k, tc, td, rfl, fr_names3 (by k_asm) (by with_unfolding_all rfl) (by with_unfolding_all rfl) (by with_unfolding_all rfl), (by k_asm), I, s_none (gd := gd) wf I hgc (fun _ _ h2 h3 h4 h5 => by omega)⟩
    · exact .inl ⟨rfl, _, _, _, c, d, k, tc, td, rfl, fr_names3 (by k_asm) (by with_unfolding_all rfl) (by with_unfolding_all rfl) (by with_unfolding_all rfl), (by k_asm), I, s_none (gd := gd) wf I hgc (fun _ _ h2 h3 h4 h5 => h4 (by rw [← shr1 c, ← shr1 d]; assumption))⟩
    · rename_i D1 h9a l9a D2 h9b l9b D0 h9c F9 N9 l9c
      with_unfolding_all refine tup_turns (vs := [.ref D1, .ref D2]) (nn := 0) (TInv news D1 D2 x c d k tc td (acc gc gd c d)) rfl (by exact List.mem_cons_self) (by exact F9) (by exact N9) ⟨fun p hp => List.mem_cons_of_mem _ (List.mem_cons_of_mem _ (List.mem_cons_of_mem _ hp)), List.mem_cons_of_mem _ (List.mem_cons_of_mem _ List.mem_cons_self), List.mem_cons_of_mem _ List.mem_cons_self, rfl, rfl, rfl, ⟨_, rfl⟩, ⟨_, rfl, rfl⟩⟩ (fun i v m₂ ny h2 tk2 own2 hv2 hoff2 hcls2 hl2 J2 F2 N2 => ?_) (fun m₂ ny h2 tk2 hl2 J2 F2 N2 => ?_)
      · refine J2.out fun tt sv hsub q1 q2 e1 e2 e3 e4 e5 hS => ?_
        clear J2
        have F2' := fr_names5 e1 e2 e3 e4 e5 F2
        have hx' := hsub _ hx; have hdx' := hsub _ hdx; have hn' := hsub _ hn
        clear F2 e1 e2 e3 e4 e5
        refine pick hv2 q1 q2 hc0 hd0 hvc hvd hnc hnd fun D o tO t tT vo go vt gt ev hD ho0 ht0 hvo hvt hno hnt hA => ?_
        subst ev
        have hnt' := hnt.mono (news' := ny ++ own2) (fun p hp _ => List.mem_append_left _ (hsub p hp))
        generalize acc gc gd c d i = S at hS hA
        by_cases hne : S = .no
        · subst hne
          obtain rfl : sv = .none := hS
          rcases go with _ | ⟨l1, r1⟩
          · obtain rfl : vo = .none := hno
            k_steps
            all_goals with_unfolding_all exact InvEndG.intro (nx := ny) (by k_asm) (by k_asm) ⟨hl2, hsub, q1, q2, rfl, rfl, rfl, ⟨_, rfl⟩, ⟨_, rfl, .of (hA.trans rfl) (show StepV ny .none .no from rfl)⟩⟩ hoff2 (fun p hp => List.mem_append_left _ hp) (fun p hp => List.mem_append_right _ hp)
          · obtain ⟨po, tlo, tro, rfl, hpo⟩ := hno
            have hpo' := hsub _ hpo
            k_steps
            all_goals (first
              | with_unfolding_all exact InvEndG.intro (nx := ny) (by k_asm) (by k_asm) ⟨hl2, hsub, q1, q2, rfl, rfl, rfl, ⟨_, rfl⟩, ⟨_, rfl, .of (hA.trans (by simp [nxt, stp1, *])) (show StepV ny .none .no from rfl)⟩⟩ hoff2 (fun p hp => List.mem_append_left _ hp) (fun p hp => List.mem_append_right _ hp)
              | with_unfolding_all exact invEnd_cons (o := isO _ _ _) (nx := ny) (by k_asm) (by k_asm) (by exact List.mem_cons_self) (by exact fun p hp => List.mem_cons_of_mem _ (List.mem_append_left _ hp)) (by exact fun p hp => List.mem_cons_of_mem _ (List.mem_append_right _ hp)) hcls2 rfl (by decide) hoff2 ⟨List.mem_cons_of_mem _ hl2, (fun p hp => List.mem_cons_of_mem _ (hsub p hp)), List.mem_cons_of_mem _ q1, List.mem_cons_of_mem _ q2, rfl, rfl, rfl, ⟨_, rfl⟩, ⟨_, rfl, .of (S := .is _) (hA.trans (by simp [nxt, stp1, *])) ⟨_, _, _, rfl, List.mem_cons_self⟩⟩⟩
              | with_unfolding_all exact invEnd_cons (o := anO _ _ _ _ _) (nx := ny) (by k_asm) (by k_asm) (by exact List.mem_cons_self) (by exact fun p hp => List.mem_cons_of_mem _ (List.mem_append_left _ hp)) (by exact fun p hp => List.mem_cons_of_mem _ (List.mem_append_right _ hp)) hcls2 rfl (by decide) hoff2 ⟨List.mem_cons_of_mem _ hl2, (fun p hp => List.mem_cons_of_mem _ (hsub p hp)), List.mem_cons_of_mem _ q1, List.mem_cons_of_mem _ q2, rfl, rfl, rfl, ⟨_, rfl⟩, ⟨_, rfl, .of (S := .an _ _) (hA.trans (by simp [nxt, stp1, *])) ⟨_, _, _, _, rfl, List.mem_cons_self⟩⟩⟩
              | trace_state)
        · obtain ⟨ts, rfl⟩ : ∃ ts, sv = .ref ts := by
            cases S with
            | no => exact absurd rfl hne
            | is k => exact ⟨_, hS.choose_spec.choose_spec.choose_spec.1⟩
            | an a b => exact ⟨_, hS.choose_spec.choose_spec.choose_spec.choose_spec.1⟩
          have hA' : acc gc gd c d (i + 1) = S := hA.trans (by
            cases S with
            | no => exact absurd rfl hne
            | is k => rfl
            | an a b => rfl)
          rcases go with _ | ⟨l1, r1⟩
          · obtain rfl : vo = .none := hno
            k_steps
            all_goals with_unfolding_all exact InvEndG.intro (nx := ny) (by k_asm) (by k_asm) ⟨hl2, hsub, q1, q2, rfl, rfl, rfl, ⟨_, rfl⟩, ⟨_, rfl, .of hA' hS⟩⟩ hoff2 (fun p hp => List.mem_append_left _ hp) (fun p hp => List.mem_append_right _ hp)
          · obtain ⟨po, tlo, tro, rfl, hpo⟩ := hno
            have hpo' := hsub _ hpo
            k_steps
            all_goals with_unfolding_all exact InvEndG.intro (nx := ny) (by k_asm) (by k_asm) ⟨hl2, hsub, q1, q2, rfl, rfl, rfl, ⟨_, rfl⟩, ⟨_, rfl, .of hA' hS⟩⟩ hoff2 (fun p hp => List.mem_append_left _ hp) (fun p hp => List.mem_append_right _ hp)
      · refine J2.out fun tt sv hsub q1 q2 e1 e2 e3 e4 e5 hS => ?_
        clear J2
        have F2' := fr_names5 e1 e2 e3 e4 e5 F2
        clear F2 e1 e2 e3 e4 e5
        (try dsimp only); (try k_fold)
        have hS2 : acc gc gd c d 2 = nxt (stp1 gc gd c d) (stp1 gd gc d c) := rfl
        have hS : StepV ny sv (acc gc gd c d 2) := hS
        generalize acc gc gd c d 2 = S at hS hS2
        cases S with
        | no =>
          obtain rfl : sv = .none := hS
          k_steps
          exact .inl ⟨rfl, _, _, _, c, d, k, tc, td, rfl, fr_names3 (by k_asm) (by with_unfolding_all rfl) (by with_unfolding_all rfl) (by with_unfolding_all rfl), cb_drop (by assumption) hsub, I, s_no wf I hgc hS2⟩
        | is ks =>
          refine hS.is_out fun ts ts1 ts2 ev hts => ?_
          subst ev
          k_steps
          exact .inr ⟨ks, ts2, _, _, _, rfl, rfl, (by k_asm), cb_drop (by assumption) hsub, s_is wf I hgc hgd hS2⟩
        | an as bs =>
          refine hS.an_out fun ts ts1 ts2 ts3 ev hts => ?_
          subst ev
          k_steps
          with_unfolding_all exact WEnd.intro (n' := (k - 1).toNat) (by k_asm) (by assumption) hsub (by omega) ⟨rfl, as, bs, k - 1, ts2, ts3, _, rfl, rfl, rfl, rfl, rfl, s_an wf I hgc hgd hS2 (by assumption)⟩
    · exact .inl ⟨rfl, _, _, _, c, d, k, tc, td, rfl, fr_names3 (by k_asm) (by with_unfolding_all rfl) (by with_unfolding_all rfl) (by with_unfolding_all rfl), (by k_asm), I, s_none (gd := gd) wf I hgc (fun _ _ h2 h3 h4 h5 => by omega)⟩
  · intro f s' hq
    rcases hq with ⟨rfl, h3, tk3, m3, c, d, k, tc, td, rfl, F3, N3, I, hsp⟩ | ⟨v, t, h3, tk3, m3, rfl, rfl, F3, N3, hS⟩
    · dsimp only
      try k_fold
      k_steps
      k_dflt (refine' Tel.use ?k1 ?k2 ?k3 ?k4 ?k5 ?kK (land_ok gg wf I.a0 I.a1 I.b0 I.b1 hG) ?kd ?ku ?_)
      ktr_rel
      intro q9 n9 h9 tk9 p9 F9 N9
      refine ex35 p9 fun G' k9 t9 e1 gr9 ld9 fr9 gw9 => ?_
      clear p9
      subst e1
      (try dsimp only); (try k_fold)
      k_steps
      exact hret _ n9 _ _ ⟨G', k9, t9, rfl, gr9, ⟨⟨ld9.wf, ld9.pre, ld9.len, ld9.k0, ld9.k1, fun β f => (ld9.val β f).trans (I.same β (f.pre ld9.pre))⟩, fun v e => by rw [hsp] at e; cases e⟩, fr9, gw9⟩ (by k_asm) (by k_asm)
    · dsimp only
      k_steps
      exact hret _ news _ _ ⟨G, v, t, rfl, gg, hS, (fun p hp _ _ => hp), ⟨nv, nn, nv, nn, hn, hn, List.prefix_refl _⟩⟩ (by k_asm) (by k_asm)
end
section
theorem off_B7 : True := by w_top off; trivial
theorem ints_snoc {vs : List Value} {v : Value} {ns : List Int} (h : IntsAre (vs ++ [v]) ns) : ∃ ms k t, ns = ms ++ [k] ∧ v = .int k t ∧ IntsAre vs ms := by
  induction vs generalizing ns with
  | nil =>
    cases h with
    | cons k t h' => cases h'; exact ⟨[], k, t, rfl, rfl, .nil⟩
  | cons u us ih =>
    cases h with
    | cons k t h' =>
      obtain ⟨ms, k', t', rfl, e, h2⟩ := ih h'
      exact ⟨k :: ms, k', t', rfl, e, .cons k t h2⟩
theorem snoc_or {α : Type} (l : List α) : l = [] ∨ ∃ p y, l = p ++ [y] := by
  rcases List.eq_nil_or_concat l with h | ⟨p, y, h⟩
  · exact .inl h
  · exact .inr ⟨p, y, by simpa using h⟩
set_option maxRecDepth 100000 in
set_option maxHeartbeats 8000000 in
theorem take_ok {prog : Program} {w : World} {news : Ledger} {sA : Addr} {sv : List Value} {n : Nat} {ns : List Int} {many : Int} {tm : Tok} (hs : (sA, listOf sv.toArray n) ∈ news) (hi : IntsAre sv ns) (hm : 0 < many) (hz : ns.length ≤ 1000) :
    Tel prog w 2 80 170 [.ref sA, .int many tm] news (fun q news' => ∃ k t sv' n' ns', Value.int k t = q ∧ 0 ≤ k ∧ k < many ∧ (sA, listOf sv'.toArray n') ∈ news' ∧ IntsAre sv' ns' ∧ ns'.length ≤ ns.length ∧ ∀ p ∈ news, p.1 ≠ sA → p ∈ news') := by
  k_with_none
  k_with "subscriptTail" => (k_here; (with_reducible show wpAny _ _ (subscriptTail _ _ (Value.ref _) (Value.int (Int.fdiv _ _) _)) _ _ _); k_dflt (refine' idx_half ?N ?hm ?hk ?hl ?h0 ?hx ?_ ?hs; (case N => k_asm); (case hm => k_mem); (case hk => exact shr1 _); (case hl => assumption); (case h0 => assumption); (case hx => assumption); (case hs => with_unfolding_all rfl); k_whole))
  k_with "compareOp In int ref" => (k_here; k_dflt (refine' in_pair ?N ?hm ?_; (case N => k_asm); (case hm => k_mem)))
  k_with "compareOp NotEq ref ref" => (k_here; k_dflt (first | (refine' ne_nil_f ?N ?ha ?hb ?hu ?_; (case N => k_asm); (case ha => k_mem); (case hb => exact List.mem_cons_self); (case hu => ktr_units)) | (refine' ne_nil_t ?N ?ha ?hi ?hb ?hu ?_; (case N => k_asm); (case ha => k_mem); (case hi => assumption); (case hb => exact List.mem_cons_self); (case hu => ktr_units))))
  k_with "call builtin:list.pop" => (k_here; refine Held.out ?_)
  unfold Tel
  intro dp un gd cn cs ad ccd cl outer A₀ base h₀ L m s p loose mean mg mb Q E B F X N T hk hd hu hret
  have hl := hi.length
  rcases snoc_or sv with rfl | ⟨us, v, rfl⟩
  · refine wpAny_call ?_
    k_dflt ktr_enter
    k_steps
    exact hret _ news _ _ ⟨0, _, [], n, ns, rfl, by omega, hm, hs, hi, Nat.le_refl _, fun p hp _ => hp⟩ (by k_asm) (cb_drop (by assumption) (fun p hp => List.mem_cons_of_mem _ hp))
  · obtain ⟨ms, k, t, rfl, rfl, hi2⟩ := ints_snoc hi
    refine wpAny_call ?_
    k_dflt ktr_enter
    k_steps
    refine Held.take ?_
    (with_reducible rename News _ _ _ _ => N9); (with_reducible rename Fr _ _ _ _ => F9)
    with_unfolding_all refine pop_ok F9 N9 (by k_mem) (by simp at hl hz; omega) (fun h' news' F' N' keep inS => ?_)
    (try dsimp only); (try k_fold)
    have e : k.fmod many = k % many := Int.fmod_eq_emod_of_nonneg k (by omega)
    have e1 := Int.emod_nonneg k (show many ≠ 0 by omega)
    have e2 := Int.emod_lt_of_pos k hm
    k_steps
    exact hret _ news' _ _ ⟨k.fmod many, _, us, n + 1, ms, rfl, by omega, by omega, inS, hi2, by simp, fun p hp hne => keep p (List.mem_cons_of_mem _ hp) hne⟩ (by k_asm) (by k_asm)
end
section
theorem off_B7b : True := by w_top off; trivial
set_option maxRecDepth 100000 in
set_option maxHeartbeats 8000000 in
theorem input_ok {prog : Program} {w : World} {a : GA} {news : Ledger} {G : Graph} {ins : List Int} (g : Gr prog w a news G ins) (hG : G.length ≤ 400) (hI : ins.length ≤ 400) :
    Tel prog w 3 20 78 [.ref a.x] news (fun _ news' => Gr prog w a news' (G ++ [none]) (ins ++ [(G.length : Int)]) ∧ ∀ p ∈ news, p.1 ≠ a.nA → p.1 ≠ a.iA → p ∈ news') := by
  k_with_none
  k_with "subscriptTail" => (k_here; (with_reducible show wpAny _ _ (subscriptTail _ _ (Value.ref _) (Value.int (Int.fdiv _ _) _)) _ _ _); k_dflt (refine' idx_half ?N ?hm ?hk ?hl ?h0 ?hx ?_ ?hs; (case N => k_asm); (case hm => k_mem); (case hk => exact shr1 _); (case hl => assumption); (case h0 => assumption); (case hx => assumption); (case hs => with_unfolding_all rfl); k_whole))
  k_with "compareOp In int ref" => (k_here; k_dflt (refine' in_pair ?N ?hm ?_; (case N => k_asm); (case hm => k_mem)))
  k_with "call builtin:len" => (k_here; (with_reducible show wpAny _ _ (call (Value.builtin "len") [Value.ref _]) _ _ _); k_dflt (refine' len_ok ?N ?hm ?hz ?_; (case N => k_asm); (case hm => k_mem); (case hz => omega)))
  obtain ⟨x, dx, nA, iA, oA, tA, h1, h2, h3, h4, t1, t2, t3, t4, dn⟩ := a
  have gg := g
  obtain ⟨hx, hdx, ⟨nv, nn, hn, hnodes⟩, ⟨iv, inn, hi, hints⟩, ⟨ot, ht, hT⟩, hap, hap2, lo⟩ := g
  dsimp only at hx hdx hn hi ht hap hap2 lo ⊢
  have hex : ot.ExactDict := hT.choose_spec.choose_spec.choose_spec.1
  have hnl : nv.length ≤ 400 := by rw [hnodes.1]; exact hG
  have hil : iv.length ≤ 400 := by rw [hints.length]; exact hI
  unfold Tel
  intro dp un gd cn cs ad ccd cl outer A₀ base h₀ L m s p loose mean mg mb Q E B F X N T hk hd hu hret
  refine wpAny_call ?_
  k_dflt ktr_enter
  have nxn : x ≠ nA := ne_of_cls N hx hn (fun h => nomatch h)
  have nxi : x ≠ iA := ne_of_cls N hx hi (fun h => nomatch h)
  have ndn : dx ≠ nA := ne_of_cls N hdx hn (by show Value.type _ ≠ Value.type _; decide)
  have ndi : dx ≠ iA := ne_of_cls N hdx hi (by show Value.type _ ≠ Value.type _; decide)
  have ntn : tA ≠ nA := ne_of_cls N ht hn (by rw [hex.1]; show Value.type _ ≠ Value.type _; decide)
  have nti : tA ≠ iA := ne_of_cls N ht hi (by rw [hex.1]; show Value.type _ ≠ Value.type _; decide)
  k_steps
  (with_reducible rename News _ _ _ _ => N9); (with_reducible rename Fr _ _ _ _ => F9)
  with_unfolding_all refine app_ok F9 N9 (by k_mem) (by omega) (fun hA newsA FA NA keepA inA => ?_)
  have hxA := keepA _ hx nxn
  have hdxA := keepA _ hdx ndn
  have hiA := keepA _ hi hap.symm
  (try dsimp only); (try k_fold)
  k_steps
  (with_reducible rename News _ _ _ _ => N9'); (with_reducible rename Fr _ _ _ _ => F9')
  with_unfolding_all refine app_ok F9' N9' hiA (by omega) (fun hB newsB FB NB keepB inB => ?_)
  have sub : ∀ p ∈ news, p.1 ≠ nA → p.1 ≠ iA → p ∈ newsB := fun p hp h1 h2 => keepB p (keepA p hp h1) h2
  have tup : ∀ p ∈ news, p.2.cls = .type "tuple" → p ∈ newsB := fun p hp hc => sub p hp (ne_of_cls N (o := p.2) hp hn (by rw [hc]; show Value.type _ ≠ Value.type _; decide)) (ne_of_cls N (o := p.2) hp hi (by rw [hc]; show Value.type _ ≠ Value.type _; decide))
  (try dsimp only); (try k_fold)
  k_steps
  refine hret _ newsB _ _ ⟨?_, sub⟩ (by k_asm) (by k_asm)
  exact {
    hx := sub _ hx nxn nxi
    hdx := sub _ hdx ndn ndi
    nodes := ⟨_, _, keepB _ inA hap, (hnodes.mono tup).snoc rfl⟩
    inps := ⟨_, _, inB, ints_append hints (by rw [hnodes.1]; exact .cons _ _ .nil)⟩
    tab := ⟨ot, sub _ ht ntn nti, hT.mono tup (fun i g e => get_pre (List.prefix_append _ _) i g e) (by simp)⟩
    apart := hap
    apart2 := hap2
    lo := lo }
end
section
theorem off_B8 : True := by w_top off; trivial
def Lines (lines : Int) : Prop := lines = 4 ∨ lines = 8 ∨ lines = 16
/-- a column of a literal -/
def colv (cs : List Int) (k lines : Int) : Int := if k % 2 = 1 then 2 ^ lines.toNat - 1 - cs.getD (k / 2).toNat 0 else cs.getD (k / 2).toNat 0
theorem ints_get {vs : List Value} {ns : List Int} (h : IntsAre vs ns) {i : Nat} (hi : i < ns.length) : ∃ t, vs[i]? = some (.int (ns.getD i 0) t) := by
  obtain ⟨t, e⟩ := h.get i (ns.getD i 0) (by rw [List.getD_eq_getElem?_getD, List.getElem?_eq_getElem hi]; rfl)
  exact ⟨t, e⟩
theorem idx_two {prog : Program} {w : World} {A : Around} {E : Value → Shared → Prop} {s : Shared} {value slice : PySem.Expr} {h₀ : Heap} {L nA : Addr} {news : Ledger} {nv : List Value} {nn : Nat} {k a : Int} {u : Tok} {v : Value} {Q : Value → Shared → Prop}
    (N : News h₀ L s.heap news) (hm : (nA, listOf nv.toArray nn) ∈ news) (hk : k = a / 2) (hlen : nv.length < 1000) (h0 : 0 ≤ a) (hx : nv[(a / 2).toNat]? = some v) (h : Q v s)
    (hs : subscripted slice false (.ref nA) (.int k u) = operate [.ref nA, .int k u] (getItem (.ref nA) (.int k u)) := by with_unfolding_all rfl) :
    wpAny (model prog w) A (subscriptTail value slice (.ref nA) (.int k u)) Q E s := idx_half N hm hk hlen h0 hx h hs
theorem fmod2 (a : Int) : a.fmod 2 = a % 2 := Int.fmod_eq_emod_of_nonneg a (by decide)
theorem fdiv2 (a : Int) : a.fdiv 2 = a / 2 := Int.fdiv_eq_ediv_of_nonneg a (by decide)
set_option maxRecDepth 100000 in
set_option maxHeartbeats 8000000 in
theorem column_ok {prog : Program} {w : World} {news : Ledger} {cA : Addr} {cv : List Value} {n : Nat} {cs : List Int} {k lines : Int} {tk tl : Tok} (hc : (cA, listOf cv.toArray n) ∈ news) (hi : IntsAre cv cs) (hk : 0 ≤ k) (hk2 : (k / 2).toNat < cs.length) (hL : Lines lines) (hz : cs.length ≤ 400) :
    Tel prog w 2 20 182 [.ref cA, .int k tk, .int lines tl] news (fun q news' => news = news' ∧ ∃ t, Value.int (colv cs k lines) t = q) := by
  k_with_none
  k_with "subscriptTail" => (k_here; (with_reducible show wpAny _ _ (subscriptTail _ _ (Value.ref _) (Value.int (Int.fdiv _ _) _)) _ _ _); k_dflt (refine' idx_half ?N ?hm ?hk ?hl ?h0 ?hx ?_ ?hs; (case N => k_asm); (case hm => k_mem); (case hk => exact shr1 _); (case hl => assumption); (case h0 => assumption); (case hx => assumption); (case hs => with_unfolding_all rfl); k_whole))
  k_with "compareOp In int ref" => (k_here; k_dflt (refine' in_pair ?N ?hm ?_; (case N => k_asm); (case hm => k_mem)))
  k_with "subscriptTail" => (k_here; (with_reducible show wpAny _ _ (subscriptTail _ _ (Value.ref _) (Value.int (Int.fdiv _ 2) _)) _ _ _); k_dflt (refine' idx_half ?N ?hm ?hk ?hl ?h0 ?hx ?_ ?hs; (case N => k_asm); (case hm => k_mem); (case hk => exact fdiv2 _); (case hl => assumption); (case h0 => assumption); (case hx => assumption); (case hs => with_unfolding_all rfl); k_whole))
  have hl := hi.length
  have hz' : cv.length < 1000 := by omega
  obtain ⟨tv, hx⟩ := ints_get hi hk2
  rcases hL with rfl | rfl | rfl
  all_goals (
    unfold Tel
    intro dp un gd cn cs' ad ccd cl outer A₀ base h₀ L m s p loose mean mg mb Q E B F X N T hk' hd hu hret
    refine wpAny_call ?_
    k_dflt ktr_enter
    k_steps)
  all_goals first
    | exact hret _ _ _ _ ⟨rfl, _, by rw [colv, if_neg (by rw [← fmod2]; assumption)]⟩ (by k_asm) (by k_asm)
    | exact hret _ _ _ _ ⟨rfl, _, by rw [colv, if_pos (by rw [← fmod2]; assumption)]⟩ (by k_asm) (by k_asm)
end
section
theorem off_B9 : True := by w_top off; trivial
structure ColsTo (G : Graph) (cs : List Int) (lines : Int) : Prop where
  zero : cs.getD 0 0 = 0
  lo : ∀ i, 0 ≤ cs.getD i 0
  hi : ∀ i, cs.getD i 0 < 2 ^ lines.toNat
  node : ∀ (i : Nat) l r, i < cs.length → G[i]? = some (some (l, r)) → cs.getD i 0 = Builtin.bitAnd (colv cs l lines) (colv cs r lines)
structure Cols (G : Graph) (cs : List Int) (lines : Int) : Prop extends ColsTo G cs lines where
  len : cs.length = G.length
theorem pow_pos2 (n : Nat) : (0 : Int) < 2 ^ n := Int.pow_pos (by decide)
theorem colv_lo {cs : List Int} {lines : Int} (hi : ∀ i, cs.getD i 0 < 2 ^ lines.toNat) (lo : ∀ i, 0 ≤ cs.getD i 0) (k : Int) : 0 ≤ colv cs k lines := by
  unfold colv
  split
  · have := hi (k / 2).toNat; omega
  · exact lo _
theorem colv_hi {cs : List Int} {lines : Int} (hi : ∀ i, cs.getD i 0 < 2 ^ lines.toNat) (lo : ∀ i, 0 ≤ cs.getD i 0) (k : Int) : colv cs k lines < 2 ^ lines.toNat := by
  unfold colv
  split
  · have := lo (k / 2).toNat; omega
  · exact hi _
theorem getD_app_lt {cs : List Int} {v : Int} {i : Nat} (h : i < cs.length) : (cs ++ [v]).getD i 0 = cs.getD i 0 := by
  rw [List.getD_eq_getElem?_getD, List.getD_eq_getElem?_getD, List.getElem?_append_left h]
theorem getD_app_eq {cs : List Int} {v : Int} : (cs ++ [v]).getD cs.length 0 = v := by
  rw [List.getD_eq_getElem?_getD, List.getElem?_append_right (Nat.le_refl _)]; simp
theorem getD_app_gt {cs : List Int} {v : Int} {i : Nat} (h : cs.length < i) : (cs ++ [v]).getD i 0 = 0 := by
  rw [List.getD_eq_getElem?_getD, List.getElem?_eq_none (by simp; omega)]; rfl
theorem colv_app {cs : List Int} {v k lines : Int} (h : (k / 2).toNat < cs.length) : colv (cs ++ [v]) k lines = colv cs k lines := by
  unfold colv; rw [getD_app_lt h]
theorem ColsTo.nil (G : Graph) (lines : Int) : ColsTo G [] lines where
  zero := rfl
  lo := fun _ => by simp
  hi := fun _ => by simpa using pow_pos2 _
  node := fun i l r h => by simp at h
theorem ColsTo.snoc {G : Graph} {cs : List Int} {lines v : Int} (h : ColsTo G cs lines) (wf : WF G) (v0 : 0 ≤ v) (v1 : v < 2 ^ lines.toNat) (hz : cs.length = 0 → v = 0)
    (hn : ∀ l r, G[cs.length]? = some (some (l, r)) → v = Builtin.bitAnd (colv cs l lines) (colv cs r lines)) : ColsTo G (cs ++ [v]) lines := by
  have pick : ∀ (P : Int → Prop), P v → (∀ i, P (cs.getD i 0)) → P 0 → ∀ i, P ((cs ++ [v]).getD i 0) := by
    intro P h1 h2 h3 i
    rcases Nat.lt_trichotomy i cs.length with q | q | q
    · rw [getD_app_lt q]; exact h2 i
    · rw [q, getD_app_eq]; exact h1
    · rw [getD_app_gt q]; exact h3
  refine ⟨?_, pick (fun z => 0 ≤ z) v0 h.lo (Int.le_refl _), pick (fun z => z < 2 ^ lines.toNat) v1 h.hi (pow_pos2 _), ?_⟩
  · by_cases q : 0 < cs.length
    · rw [getD_app_lt q]; exact h.zero
    · have e : cs = [] := by simpa using q
      subst e
      exact hz rfl
  · intro i l r hi hG
    obtain ⟨w1, w2, w3, w4⟩ := wf.node i l r hG
    rw [List.length_append, List.length_singleton] at hi
    rw [colv_app (by omega), colv_app (by omega)]
    rcases Nat.lt_trichotomy i cs.length with q | q | q
    · rw [getD_app_lt q]; exact h.node i l r q hG
    · subst q
      rw [getD_app_eq]; exact hn l r hG
    · omega
theorem idx_at {prog : Program} {w : World} {A : Around} {E : Value → Shared → Prop} {s : Shared} {value slice : PySem.Expr} {h₀ : Heap} {L nA : Addr} {news : Ledger} {nv : List Value} {nn i : Nat} {u : Tok} {v : Value} {Q : Value → Shared → Prop}
    (N : News h₀ L s.heap news) (hm : (nA, listOf nv.toArray nn) ∈ news) (hlen : nv.length < 1000) (hx : nv[i]? = some v) (h : Q v s)
    (hs : subscripted slice false (.ref nA) (.int (i : Int) u) = operate [.ref nA, .int (i : Int) u] (getItem (.ref nA) (.int (i : Int) u)) := by with_unfolding_all rfl) :
    wpAny (model prog w) A (subscriptTail value slice (.ref nA) (.int (i : Int) u)) Q E s := by
  have hL : s.heap.IsList nA nv.toArray := ⟨_, (N _ hm).1, rfl, nn, rfl⟩
  have hlt : i < nv.length := (List.getElem?_eq_some_iff.mp hx).1
  exact tail_any hL.typeIs slot_list_getitem.lookup (wpAny_getItem_list hL (by omega) (by omega) (by simpa using hx) h) hs
theorem sum_pows (p : Int → Bool) (n : Nat) : ∀ (k : Nat), k ≤ n → 0 ≤ ((rangeKs 0 k).foldl (fun l i => if p i then l ++ [(2 : Int) ^ i.toNat] else l) []).sum ∧ ((rangeKs 0 k).foldl (fun l i => if p i then l ++ [(2 : Int) ^ i.toNat] else l) []).sum ≤ 2 ^ k - 1 := by
  intro k
  induction k with
  | zero => intro _; simp [rangeKs]
  | succ k ih =>
    intro hk
    obtain ⟨a, b⟩ := ih (by omega)
    have e : rangeKs 0 (k + 1) = rangeKs 0 k ++ [(k : Int)] := by simp [rangeKs, List.range_succ]
    have hp := pow_pos2 k
    have h2 : (2 : Int) ^ (k + 1) = 2 * 2 ^ k := by rw [Int.pow_succ]; omega
    rw [e, List.foldl_append, List.foldl_cons, List.foldl_nil, h2]
    split
    · rw [List.sum_append, List.sum_singleton, Int.toNat_natCast]; omega
    · omega
theorem lines_small {lines : Int} (h : Lines lines) : Builtin.Range.small 0 lines 1 = true ∧ Builtin.Range.rangeSize 0 lines 1 = ((lines.toNat : Nat) : Int) ∧ lines.toNat ≤ sizeLine := by
  rcases h with rfl | rfl | rfl <;> exact ⟨by decide, by decide, by rw [sizeLine_eq]; decide⟩
set_option maxRecDepth 100000 in
set_option maxHeartbeats 8000000 in
theorem columns_ok {prog : Program} {w : World} {a : GA} {news : Ledger} {G : Graph} {ins : List Int} {lines : Int} {tl : Tok} (g : Gr prog w a news G ins) (wf : WF G) (hG : G.length ≤ 400) (hL : Lines lines) (h0 : (0 : Int) ∉ ins) (hI : ins.length ≤ 4) :
    Tel prog w 6 80 175 [.ref a.x, .int lines tl] news (fun q news' => ∃ cA cv n cs, Value.ref cA = q ∧ (∀ p ∈ news, p ∈ news') ∧ (cA, listOf cv.toArray n) ∈ news' ∧ IntsAre cv cs ∧ Cols G cs lines) := by
  k_with_none
  k_with "subscriptTail" => (k_here; (with_reducible show wpAny _ _ (subscriptTail _ _ (Value.ref _) (Value.int (Int.fdiv _ _) _)) _ _ _); k_dflt (refine' idx_half ?N ?hm ?hk ?hl ?h0 ?hx ?_ ?hs; (case N => k_asm); (case hm => k_mem); (case hk => exact shr1 _); (case hl => assumption); (case h0 => assumption); (case hx => assumption); (case hs => with_unfolding_all rfl); k_whole))
  k_with "compareOp In int ref" => (k_here; k_dflt (refine' in_pair ?N ?hm ?_; (case N => k_asm); (case hm => k_mem)))
  k_with "call builtin:len" => (k_here; (with_reducible show wpAny _ _ (call (Value.builtin "len") [Value.ref _]) _ _ _); k_dflt (refine' len_ok ?N ?hm ?hz ?_; (case N => k_asm); (case hm => k_mem); (case hz => omega)))
  k_with "exec For Name Call cons nil" => (k_here; (rename Fr _ _ _ _ => lF'); (with_unfolding_all refine' For_invVF lF' ?k1 ?k2 ?_; (case k1 => exact rfl); (case k2 => exact rfl); k_whole))
  k_with "pyIter ref" => ((with_reducible show wpAny _ _ (pyIter (Value.ref _)) (fun it s₂ => LoopAtV _ _ _ _ _ _ _ _ _ it s₂) _ _); k_here; refine Held.out ?_)
  k_with "subscriptTail" => (k_here; (with_reducible show wpAny _ _ (subscriptTail _ _ (Value.ref _) (Value.int (Nat.cast _) _)) _ _ _); k_dflt (refine' idx_at ?N ?hm ?hl ?hx ?_ ?hs; (case N => k_asm); (case hm => k_mem); (case hx => assumption); (case hl => assumption); (case hs => with_unfolding_all rfl); k_whole))
  k_with "call ref" => (k_here; k_dflt (refine' Tel.use ?k1 ?k2 ?k3 ?k4 ?k5 ?kK (column_ok ?hc ?hi ?hk1 ?hk2 ?hL ?hz) ?kd ?ku ?_; ktr_rel; (case hc => k_mem); (case hi => assumption); (case hk1 => omega); (case hk2 => omega); (case hL => assumption); (case hz => omega); intro q9 n9 h9 tk9 p9 F9 N9; obtain ⟨e1, t9, e2⟩ := p9; subst e1; subst e2; (try dsimp only); (try k_fold)))
  k_with "call builtin:sum" => (k_here; k_dflt (refine' sum_ok ?hh ?F ?N ?hm ?hi ?_; (case hh => rfl); (case F => k_asm); (case N => k_asm); (case hm => k_mem); (case hi => assumption)); (intros; (try dsimp only); (try k_fold)))
  k_with "eval ListComp" => (k_here; k_dflt (refine LCt.ListComp_T (F₀ := by k_asm) (by with_unfolding_all rfl) (by decide) (by rfl) (by decide) (by rfl) ?_))
  k_with "CompSrcT" => (k_here; refine Held.out ?_)
  k_with "compareOp In int ref" => (k_here; k_dflt (first | (refine' in_ints_t ?N ?hm ?hi ?hk ?_; (case N => k_asm); (case hm => k_mem); (case hi => assumption); (case hk => assumption)) | (refine' in_ints_f ?N ?hm ?hi ?hk ?_; (case N => k_asm); (case hm => k_mem); (case hi => assumption); (case hk => assumption))))
  k_with "call builtin:list.index" => (k_here; k_dflt (refine' index_ok ?N ?hm ?hi ?hk ?hz ?_; (case N => k_asm); (case hm => k_mem); (case hi => assumption); (case hk => assumption); (case hz => omega)); refine Held.out ?_)
  obtain ⟨x, dx, nA, iA, oA, tA, h1, h2, h3, h4, t1, t2, t3, t4, dn⟩ := a
  have gg := g
  obtain ⟨hx, hdx, ⟨nv, nn, hn, hnodes⟩, ⟨iv, inn, hi, hints⟩, ⟨ot, ht, hT⟩, hap, hap2, lo⟩ := g
  dsimp only at hx hdx hn hi ht hap hap2 lo ⊢
  have hnl : nv.length ≤ 400 := by rw [hnodes.1]; exact hG
  have hil : iv.length ≤ 4 := by rw [hints.length]; exact hI
  unfold Tel
  intro dp un gd cn cs ad ccd cl outer A₀ base h₀ L m s p loose mean mg mb Q E B F X N T hk hd hu hret
  refine wpAny_call ?_
  k_dflt (refine' code_defC ?k1 ?k2 ?k3 ?k4 ?k5 ?kA ?kF ?kK ?k6 ?k7 ?k8 ?k9 ?kB ?kD ?_ ?c2 ?c3 ?c4; (case kA => exact rfl); (case kF => exact rfl); (case kK => assumption); (case k1 => k_asm); (case k2 => k_asm); (case k3 => k_asm); (case k4 => k_asm); (case k5 => k_asm); (case k6 => k_is); (case k7 => k_is); (case k8 => ktr_room); (case k9 => exact BindsTo.of_eq rfl); (case kB => exact rfl); (case kD => decide +kernel); (case c2 => exact rfl); (case c3 => exact rfl); (case c4 => exact rfl); k_whole; intro g' L' h' tk' cells' FG' F' N' Y' B' X' T' l1; (try k_lt l1); k_cells Y'; (try simp only [List.cons_append, List.nil_append] at N'); (try dsimp only); (try k_fold))
  have hnl' : nv.length < 1000 := by omega
  k_steps
  refine Held.take ?_
  rename_i oc hoc cA hh1 lc hh2 Fx Nx hh3 tk6 t5 u5 v5 hR F5 N5 hk5
  have newsne : ∀ p ∈ news, p.1 ≠ cA := fun p hp => Nat.ne_of_lt (Nat.lt_trans (Nat.lt_trans (l1 p hp) (Nat.lt_succ_self L')) lc.1)
  have cellne : L' + 1 ≠ cA := Nat.ne_of_lt lc.1
  with_unfolding_all refine range_loop (n := nv.length) (fun i m nx => (∀ p ∈ news, p ∈ nx) ∧ m (Str.ofString "aig") = some (Value.ref x) ∧ m (Str.ofString "lines") = some (Value.int lines tl) ∧ m (Str.ofString "columns") = some (Value.ref cA) ∧
      (∃ ov v₀, (L' + 1, ov) ∈ nx ∧ ov.data = Data.cell v₀) ∧ ∃ cv n cs, (cA, listOf cv.toArray n) ∈ nx ∧ IntsAre cv cs ∧ cs.length = i ∧ ColsTo G cs lines) rfl (by exact hR) (by omega) (by exact F5) (by exact N5) ⟨fun p hp => List.mem_cons_of_mem _ (List.mem_cons_of_mem _ hp), rfl, rfl, rfl, ⟨oc, _, List.mem_cons_of_mem _ List.mem_cons_self, hoc⟩, [], 0, [], List.mem_cons_self, .nil, rfl, ColsTo.nil G lines⟩ (fun i ti m₂ nx h2 tk2 own2 hi2 hoff2 hcls2 J2 F2 N2 => ?_) (fun m₂ nx h2 tk2 J2 F2 N2 => ?_)
  · refine ex_cols J2 fun ov v₀ cv cn' cs' hsub e1 e2 e3 hov hovd hcA hci hcl hct => ?_
    clear J2
    have F2' := fr_names4 (k1 := Str.ofString "aig") (k2 := Str.ofString "lines") (k3 := Str.ofString "columns") (k4 := Str.ofString "spot") ((if_neg (by decide)).trans e1) ((if_neg (by decide)).trans e2) ((if_neg (by decide)).trans e3) (if_pos rfl) F2
    clear F2 e1 e2 e3
    have hx' := hsub _ hx; have hdx' := hsub _ hdx; have hn' := hsub _ hn; have hi' := hsub _ hi
    have hcvl := hci.length
    have hiG : i < G.length := by rw [← hnodes.1]; exact hi2
    obtain ⟨v, hv, hvn⟩ := hnodes.2 i _ (List.getElem?_eq_getElem hiG)
    have hg := List.getElem?_eq_getElem hiG
    generalize G[i] = gi at hg hvn
    rcases gi with _ | ⟨lN, rN⟩
    · obtain rfl : v = .none := hvn
      by_cases hmem : (i : Int) ∈ ins
      · k_steps
        refine Held.take ?_
        intro j tj tkj hj
        have hj4 : j = 0 ∨ j = 1 ∨ j = 2 ∨ j = 3 := by omega
        (try dsimp only); (try k_fold)
        k_steps
        (with_reducible rename News _ _ _ _ => N9); (with_reducible rename Fr _ _ _ _ => F9)
        with_unfolding_all refine cell_ok F9 N9 rfl (by k_mem) hovd (fun hC newsC oC FC NC keepC inC hoC => ?_)
        have sz1 : (0 : Int) < 2 ^ Int.toNat (j : Int) := pow_pos2 _
        have sz8 : (2 : Int) ^ Int.toNat (j : Int) ≤ 8 := by rcases hj4 with rfl | rfl | rfl | rfl <;> decide
        generalize (2 : Int) ^ Int.toNat (j : Int) = sz at hoC sz1 sz8
        have hxC := keepC _ (List.mem_append_left _ hx') (Nat.ne_of_lt (Nat.lt_succ_of_lt (l1 _ hx)))
        have hdxC := keepC _ (List.mem_append_left _ hdx') (Nat.ne_of_lt (Nat.lt_succ_of_lt (l1 _ hdx)))
        have hcAC := keepC _ (List.mem_append_left _ hcA) cellne.symm
        (try dsimp only); (try k_fold)
        k_steps
        refine Held.take ?_
        rename_i hh4 tk7 t7 u7 v7 hR2 F7 N7 hk7
        refine LCt.CompSrcT.range (n := lines.toNat) (by rfl) F7 N7 hR2 (lines_small hL).1 (lines_small hL).2.1 (lines_small hL).2.2 (fun gh => ?_)
        refine kci_range (fun l i => if decide ((i.fdiv sz).fmod 2 = 1) then l ++ [(2 : Int) ^ i.toNat] else l) (fun k8 t8 I8 oI8 C8 oC8 D8 m8 ys8 l8 h8 tk8 E8 hlo8 hhi8 hI8 hC8 hx8 F8 N8 off8 ne8 mk8 => ?_) ?_ ?_
        · have hk16 : k8 < 16 := by rcases hL with rfl | rfl | rfl <;> simp at hhi8 <;> omega
          k_steps
          · with_unfolding_all exact LCg.CompEnd.intro F8 N8 newsC (fun p hp => hp) off8 trivial (kci_el (by rw [if_pos (decide_eq_true (by assumption))]) rfl rfl)
          · with_unfolding_all exact LCg.CompEnd.intro F8 N8 newsC (fun p hp => hp) off8 trivial (kci_no (by rw [if_neg (by rw [decide_eq_true_eq]; assumption)]) rfl)
        · unfold KPfDone
          intro ys hys hlen D hD tkD FD ND off1
          obtain ⟨sm0, sm1⟩ := sum_pows (fun i => decide ((i.fdiv sz).fmod 2 = 1)) lines.toNat lines.toNat (Nat.le_refl _)
          (try dsimp only); (try k_fold)
          k_steps
          (with_reducible rename News _ _ _ _ => N9'); (with_reducible rename Fr _ _ _ _ => F9')
          with_unfolding_all refine app_ok F9' N9' (by k_mem) (by omega) (fun hA newsA FA NA keepA inA => ?_)
          (try dsimp only); (try k_fold)
          k_steps
          have i0 : i ≠ 0 := by
            rintro rfl
            exact h0 (by simpa using hmem)
          with_unfolding_all exact InvEndG.intro (nx := put (put nx (L' + 1) oC) cA _) (by k_asm) (by k_asm) ⟨fun p hp => put_mem (put_mem (hsub p hp) (Nat.ne_of_lt (Nat.lt_succ_of_lt (l1 p hp)))) (newsne p hp), rfl, rfl, rfl, ⟨oC, _, put_mem put_self cellne, hoC⟩, _, _, _, put_self, ints_append hci (.cons _ _ .nil), by rw [List.length_append, hcl]; rfl, hct.snoc wf sm0 (by omega) (fun h => absurd (hcl.symm.trans h) i0) (fun l' r' e => by rw [hcl, hg] at e; cases e)⟩ (put_off (put_off hoff2 hov) (put_mem hcA cellne.symm)) (put_sub inA (fun p hp hne => keepA p (List.mem_cons_of_mem _ (put_sub inC (fun p hp hne => keepC p (List.mem_append_left _ hp) hne) p hp)) hne)) (fun p hp => keepA p (List.mem_cons_of_mem _ (keepC p (List.mem_append_right _ hp) (own_ne hoff2 hov p hp))) (own_ne hoff2 hcA p hp))
        · intro l i
          dsimp only
          split <;> simp
      · k_steps
        (with_reducible rename News _ _ _ _ => N9); (with_reducible rename Fr _ _ _ _ => F9)
        with_unfolding_all refine app_ok F9 N9 (by k_mem) (by omega) (fun hA newsA FA NA keepA inA => ?_)
        (try dsimp only); (try k_fold)
        k_steps
        with_unfolding_all exact InvEndG.intro (nx := put nx cA _) (by k_asm) (by k_asm) ⟨fun p hp => put_mem (hsub p hp) (newsne p hp), rfl, rfl, rfl, ⟨ov, v₀, put_mem hov (cellne), hovd⟩, _, _, _, put_self, ints_append hci (.cons _ _ .nil), by rw [List.length_append, hcl]; rfl, hct.snoc wf (Int.le_refl _) (pow_pos2 _) (fun _ => rfl) (fun l' r' e => by rw [hcl, hg] at e; cases e)⟩ (put_off hoff2 hcA) (put_sub inA (fun p hp hne => keepA p (List.mem_append_left _ hp) hne)) (fun p hp => keepA p (List.mem_append_right _ hp) (own_ne hoff2 hcA p hp))
    · obtain ⟨pt, ptl, ptr, rfl, hpt⟩ := hvn
      have hpt' := hsub _ hpt
      obtain ⟨w1, w2, w3, w4⟩ := wf.node i lN rN hg
      k_steps
      (with_reducible rename News _ _ _ _ => N9); (with_reducible rename Fr _ _ _ _ => F9)
      with_unfolding_all refine app_ok F9 N9 (by k_mem) (by omega) (fun hA newsA FA NA keepA inA => ?_)
      (try dsimp only); (try k_fold)
      k_steps
      with_unfolding_all exact InvEndG.intro (nx := put nx cA _) (by k_asm) (by k_asm) ⟨fun p hp => put_mem (hsub p hp) (newsne p hp), rfl, rfl, rfl, ⟨ov, v₀, put_mem hov (cellne), hovd⟩, _, _, _, put_self, ints_append hci (.cons _ _ .nil), by rw [List.length_append, hcl]; rfl, hct.snoc wf (bitAnd_range _ (colv_lo hct.hi hct.lo _)).1 (Int.lt_of_le_of_lt (bitAnd_range _ (colv_lo hct.hi hct.lo _)).2 (colv_hi hct.hi hct.lo _)) (fun h => by omega) (fun l' r' e => by rw [hcl, hg] at e; cases e; rfl)⟩ (put_off hoff2 hcA) (put_sub inA (fun p hp hne => keepA p (List.mem_append_left _ hp) hne)) (fun p hp => keepA p (List.mem_append_right _ hp) (own_ne hoff2 hcA p hp))
  · refine ex_cols J2 fun ov v₀ cv cn' cs' hsub e1 e2 e3 hov hovd hcA hci hcl hct => ?_
    clear J2
    have F2' := fr_names3 F2 e1 e2 e3
    clear F2
    k_steps
    exact hret _ nx _ _ ⟨cA, cv, cn', cs', rfl, hsub, hcA, hci, { toColsTo := hct, len := by rw [hcl, hnodes.1] }⟩ (by k_asm) (by k_asm)
end
section
/-- one bit of the columns -/
def bet (cs : List Int) (j : Nat) (i : Nat) : Bool := (cs.getD i 0).toNat.testBit j
theorem bitAnd_nat {x y : Int} (hx : 0 ≤ x) (hy : 0 ≤ y) : Builtin.bitAnd x y = ((x.toNat &&& y.toNat : Nat) : Int) := by
  unfold Builtin.bitAnd
  rw [decide_eq_true hx, decide_eq_true hy]
theorem colv_bit {G : Graph} {cs : List Int} {lines : Int} (c : ColsTo G cs lines) {j : Nat} (hj : j < lines.toNat) (k : Int) : (colv cs k lines).toNat.testBit j = lit (bet cs j) k := by
  unfold colv lit bet
  split
  · rename_i h
    have h1 := c.hi (k / 2).toNat
    have h0 := c.lo (k / 2).toNat
    rw [decide_eq_true h]
    generalize cs.getD (k / 2).toNat 0 = v at h0 h1
    obtain ⟨n, rfl⟩ := Int.eq_ofNat_of_zero_le h0
    have h2 : n < 2 ^ lines.toNat := by exact_mod_cast h1
    have e : (2 ^ lines.toNat - 1 - (n : Int)).toNat = 2 ^ lines.toNat - (n + 1) := by
      have : ((2 : Int) ^ lines.toNat) = ((2 ^ lines.toNat : Nat) : Int) := by push_cast; rfl
      rw [this]; omega
    rw [e, Nat.testBit_two_pow_sub_succ h2, decide_eq_true hj, Int.toNat_natCast]
    cases n.testBit j <;> rfl
  · rename_i h
    rw [decide_eq_false h]
    cases (cs.getD (k / 2).toNat 0).toNat.testBit j <;> rfl
theorem cols_fits {G : Graph} {cs : List Int} {lines : Int} (c : Cols G cs lines) {j : Nat} (hj : j < lines.toNat) : Fits (bet cs j) G := by
  refine ⟨?_, fun i l r e => ?_⟩
  · unfold bet; rw [c.zero]; simp
  · have hi := (List.getElem?_eq_some_iff.mp e).1
    rw [← colv_bit c.toColsTo hj l, ← colv_bit c.toColsTo hj r]
    unfold bet
    rw [c.node i l r (by rw [c.len]; exact hi) e, bitAnd_nat (colv_lo c.hi c.lo l) (colv_lo c.hi c.lo r), Int.toNat_natCast, Nat.testBit_and]
theorem cols_val {G : Graph} {cs : List Int} {lines k a b : Int} (c : Cols G cs lines) (h : ∀ β, Fits β G → lit β k = (lit β a && lit β b)) : colv cs k lines = Builtin.bitAnd (colv cs a lines) (colv cs b lines) := by
  have k0 := colv_lo c.hi c.lo k
  have k1 := colv_hi c.hi c.lo k
  have a0 := colv_lo c.hi c.lo a
  have a1 := colv_hi c.hi c.lo a
  have b0 := colv_lo c.hi c.lo b
  rw [bitAnd_nat a0 b0]
  have e : (colv cs k lines).toNat = (colv cs a lines).toNat &&& (colv cs b lines).toNat := by
    apply Nat.eq_of_testBit_eq
    intro j
    rw [Nat.testBit_and]
    by_cases hj : j < lines.toNat
    · rw [colv_bit c.toColsTo hj, colv_bit c.toColsTo hj, colv_bit c.toColsTo hj]
      exact h _ (cols_fits c hj)
    · have big : ∀ {v : Int}, 0 ≤ v → v < 2 ^ lines.toNat → v.toNat.testBit j = false := by
        intro v h0 h1
        apply Nat.testBit_lt_two_pow
        obtain ⟨n, rfl⟩ := Int.eq_ofNat_of_zero_le h0
        have h2 : n < 2 ^ lines.toNat := by exact_mod_cast h1
        exact Nat.lt_of_lt_of_le h2 (Nat.pow_le_pow_right (by decide) (by omega))
      rw [big k0 k1, big a0 a1]; rfl
  rw [← e, Int.toNat_of_nonneg k0]
end
section
theorem off_B10 : True := by w_top off; trivial
set_option maxRecDepth 100000 in
set_option maxHeartbeats 8000000 in
theorem joined_ok {prog : Program} {w : World} {a : GA} {news : Ledger} {G : Graph} {ins : List Int} {l r lines : Int} {tl tr tn : Tok} (g : Gr prog w a news G ins) (wf : WF G) (hl0 : 0 ≤ l) (hl : l < 2 * G.length) (hr0 : 0 ≤ r) (hr : r < 2 * G.length) (hG : G.length ≤ 300)
    (hL : Lines lines) (h0 : (0 : Int) ∉ ins) (hI : ins.length ≤ 4) :
    Tel prog w 12 200 189 [.ref a.x, .int l tl, .int r tr, .int lines tn] news (fun q news' => ∃ G' k t, Value.int k t = q ∧ Gr prog w a news' G' ins ∧ Smart G l r k G' ∧ (∀ p ∈ news, p.1 ≠ a.nA → p.1 ≠ a.tA → p ∈ news')) := by
  k_with_none
  k_with "subscriptTail" => (k_here; (with_reducible show wpAny _ _ (subscriptTail _ _ (Value.ref _) (Value.int (Int.fdiv _ _) _)) _ _ _); k_dflt (refine' idx_half ?N ?hm ?hk ?hl ?h0 ?hx ?_ ?hs; (case N => k_asm); (case hm => k_mem); (case hk => exact shr1 _); (case hl => assumption); (case h0 => assumption); (case hx => assumption); (case hs => with_unfolding_all rfl); k_whole))
  k_with "compareOp In int ref" => (k_here; k_dflt (refine' in_pair ?N ?hm ?_; (case N => k_asm); (case hm => k_mem)))
  k_with "call builtin:len" => (k_here; (with_reducible show wpAny _ _ (call (Value.builtin "len") [Value.ref _]) _ _ _); k_dflt (refine' len_ok ?N ?hm ?hz ?_; (case N => k_asm); (case hm => k_mem); (case hz => omega)))
  k_with "call ref" => (k_here; (first | (with_reducible show wpAny _ _ (call (Value.ref 57) _ _) _ _ _) | (with_reducible show wpAny _ _ (call (Value.ref 175) _ _) _ _ _) | (with_reducible show wpAny _ _ (call (Value.ref 189) _ _) _ _ _)); refine Held.out ?_)
  k_with "call ref" => (k_here; k_dflt (refine' Tel.use ?k1 ?k2 ?k3 ?k4 ?k5 ?kK (column_ok ?hc ?hi ?hk1 ?hk2 ?hL ?hz) ?kd ?ku ?_; ktr_rel; (case hc => k_mem); (case hi => assumption); (case hk1 => omega); (case hk2 => omega); (case hL => assumption); (case hz => omega); intro q9 n9 h9 tk9 p9 F9 N9; obtain ⟨e1, t9, e2⟩ := p9; subst e1; subst e2; (try dsimp only); (try k_fold)))
  k_with "call type:list" => (k_here; (with_reducible show wpAny _ _ (call (Value.type "list") [Value.ref _]) _ _ _); k_dflt (refine' copy_ok ?F ?N ?hm ?hz ?_; (case F => k_asm); (case N => k_asm); (case hm => k_mem); (case hz => omega)); intro D' c' h' F' N' l1; (try k_sweep))
  k_with "subscriptTail Name Slice ref ref" => (k_here; (with_reducible show wpAny _ _ (subscriptTail _ (PySem.Expr.Slice _ _ none _) (Value.ref _) (Value.ref _)) _ _ _); k_dflt (refine' slice_pre ?F ?N ?hm ?hp ?hz ?_ ?s ?t; (case F => k_asm); (case N => k_asm); (case hm => k_mem); (case hp => assumption); (case hz => omega); (case s => with_unfolding_all rfl); (case t => kmk_pure)); intro D' h' F' N' l1; (try k_sweep))
  k_with "compareOp NotEq ref ref" => (k_here; k_dflt (refine' ne_same ?N ?ha ?hb ?hu ?_; (case N => k_asm); (case ha => k_mem); (case hb => k_mem); (case hu => ktr_units)))
  obtain ⟨x, dx, nA, iA, oA, tA, h1, h2, h3, h4, t1, t2, t3, t4, dn⟩ := a
  have gg := g
  obtain ⟨hx, hdx, ⟨nv, nn, hn, hnodes⟩, ⟨iv, inn, hi, hints⟩, ⟨ot, ht, hT⟩, hap, hap2, lo⟩ := g
  dsimp only at hx hdx hn hi ht hap hap2 lo ⊢
  have hnl : nv.length ≤ 300 := by rw [hnodes.1]; exact hG
  unfold Tel
  intro dp un gd cn cs ad ccd cl outer A₀ base h₀ L m s p loose mean mg mb Q E B F X N T hk hd hu hret
  refine wpAny_call ?_
  k_dflt ktr_enter
  k_steps
  refine Held.take ?_
  (with_reducible rename News _ _ _ _ => N9); (with_reducible rename Fr _ _ _ _ => F9)
  have kn : D' ≠ nA := Nat.ne_of_gt (l1 _ hn)
  have kt : D' ≠ tA := Nat.ne_of_gt (l1 _ ht)
  k_dflt (refine' Tel.use ?k1 ?k2 ?k3 ?k4 ?k5 ?kK (smart_ok (gg.mono (news' := (D', listOf nv.toArray c') :: news) (fun p hp _ => List.mem_cons_of_mem _ hp)) wf hl0 hl hr0 hr (by omega)) ?kd ?ku ?_)
  ktr_rel
  intro q9 n9 h9 tk9 p9 F9' N9'
  refine ex35 p9 fun G' k9 t9 e1 gr9 sm9 fr9 gw9 => ?_
  clear p9
  subst e1
  have gr := gr9
  have hk9 := fr9 _ List.mem_cons_self kn kt
  have sub9 : ∀ p ∈ news, p.1 ≠ nA → p.1 ≠ tA → p ∈ n9 := fun p hp h1 h2 => fr9 p (List.mem_cons_of_mem _ hp) h1 h2
  refine gr9.nod fun nv' nn' hx9 hdx9 hn9 hnodes9 => ?_
  refine gw9.out fun nv0 nn0 nv1 nn1 g1 g2 gp => ?_
  clear gw9
  clear gr9
  dsimp only at hx9 hdx9 hn9 g1 g2
  obtain ⟨rfl, rfl⟩ := listOf_inj N9 g1 (List.mem_cons_of_mem _ hn)
  obtain ⟨rfl, rfl⟩ := listOf_inj N9' g2 hn9
  have hlen9 : nv1.length ≤ nv0.length + 1 := by rw [hnodes9.1, hnodes.1]; exact sm9.land.len
  have hlen9' : G'.length ≤ G.length + 1 := sm9.land.len
  (try dsimp only); (try k_fold)
  k_steps
  refine Held.take ?_
  (with_reducible rename News _ _ _ _ => N8)
  k_dflt (refine' Tel.use ?k1 ?k2 ?k3 N8 ?k5 ?kK (columns_ok (gr.mono (fun p hp _ => by repeat (first | exact hp | refine List.mem_cons_of_mem _ ?_))) sm9.land.wf (by omega) hL h0 hI) ?kd ?ku ?_)
  (case k1 => k_asm); (case k2 => k_asm); (case k3 => k_asm); (case k5 => k_asm)
  (case kK => first | exact rfl | assumption); (case kd => ktr_room); (case ku => ktr_units)
  intro q8 n8 h8 tk8 p8 F8 N8'
  refine ex45 p8 fun cA cv cnn csq e1 subc hcA hci hcols => ?_
  clear p8
  subst e1
  have hclen := hcols.len
  have hpl := sm9.land.pre.length_le
  have hk0 := sm9.land.k0
  have hk1 := sm9.land.k1
  have hval := cols_val hcols sm9.land.val
  (try dsimp only); (try k_fold)
  k_steps
  · exact absurd hval (by assumption)
  · refine hret _ _ _ _ ⟨G', k9, _, rfl, gr.mono (fun p hp _ => subc p (by repeat (first | exact hp | refine List.mem_cons_of_mem _ ?_))), sm9, fun p hp e1 e2 => subc p (by have := sub9 p hp e1 e2; repeat (first | exact this | refine List.mem_cons_of_mem _ ?_))⟩ (by k_asm) (cb_drop (by assumption) ?_)
    exact fun p hp => hp
end
section
section
variable {h₀ h : Heap} {L : Addr} {x : Str} {m₀ m₁ : Str → Option Value} {v : Option Value}
theorem fr_same (hm : ∀ z, z ≠ x → m₁ z = m₀ z) (F : Fr h₀ L h (fun y => if y = x then v else m₁ y)) : Fr h₀ L h (fun y => if y = x then v else m₀ y) := by
  have e : (fun y => if y = x then v else m₁ y) = (fun y => if y = x then v else m₀ y) := by
    funext y
    by_cases hy : y = x
    · simp [hy]
    · simp only [if_neg hy]; exact hm y hy
  rw [← e]; exact F
theorem fr_rest (hm : ∀ z, z ≠ x → m₁ z = m₀ z) (F : Fr h₀ L h m₁) : Fr h₀ L h (fun y => if y = x then m₁ x else m₀ y) := by
  have e : (fun y => if y = x then m₁ x else m₀ y) = m₁ := by
    funext y
    by_cases hy : y = x
    · simp [hy]
    · simp only [if_neg hy]; exact (hm y hy).symm
  rw [e]; exact F
theorem fr_rest4 {a b c : Str} (hm : ∀ z, z ≠ x → z ≠ a → z ≠ b → z ≠ c → m₁ z = m₀ z) (F : Fr h₀ L h m₁) : Fr h₀ L h (fun y => if y = x then m₁ x else if y = a then m₁ a else if y = b then m₁ b else if y = c then m₁ c else m₀ y) := by
  have e : (fun y => if y = x then m₁ x else if y = a then m₁ a else if y = b then m₁ b else if y = c then m₁ c else m₀ y) = m₁ := by
    funext y
    by_cases hy : y = x
    · simp [hy]
    · by_cases ha : y = a
      · rw [if_neg hy, if_pos ha, ha]
      · by_cases hb : y = b
        · rw [if_neg hy, if_neg ha, if_pos hb, hb]
        · by_cases hc : y = c
          · rw [if_neg hy, if_neg ha, if_neg hb, if_pos hc, hc]
          · rw [if_neg hy, if_neg ha, if_neg hb, if_neg hc]; exact (hm y hy ha hb hc).symm
  rw [e]; exact F
end
section
variable {prog : Program} {w : World} {A : Around} {E : Value → Shared → Prop} {s : Shared} {env : Env} {h₀ : Heap} {x : Str} {body : List Stmt} {Q : Flow → Shared → Prop}
set_option maxHeartbeats 3200000 in
/-- a loop over a list of the ledger, by any word J -/
theorem list_loop {t : Addr} {vs : List Value} {nn : Nat} {m₀ : Str → Option Value} {news : Ledger} (J : Nat → (Str → Option Value) → Ledger → Prop)
    (hh : A.handled = none) (hl : (t, listOf vs.toArray nn) ∈ news) (F : Fr h₀ env.locals s.heap m₀) (N : News h₀ env.locals s.heap news) (hj : J 0 m₀ news)
    (turn : ∀ i v m₁ nx h tk own, vs[i]? = some v → OwnOff own (nx.map (·.1)) → (∀ p ∈ own, p.2.cls = .type "list_iterator") → (t, listOf vs.toArray nn) ∈ nx → J i m₁ nx → Fr h₀ env.locals h (fun y => if y = x then some v else m₁ y) → News h₀ env.locals h (nx ++ own) →
      wpAny (model prog w) A (execs body env) (InvPostG h₀ env.locals (fun m' nx => (t, listOf vs.toArray nn) ∈ nx ∧ J (i + 1) m' nx) own { s with heap := h, toks := tk } Q) E { s with heap := h, toks := tk })
    (done : ∀ m₁ nx h tk, (t, listOf vs.toArray nn) ∈ nx → J vs.length m₁ nx → Fr h₀ env.locals h m₁ → News h₀ env.locals h nx → Q .next { s with heap := h, toks := tk }) :
    wpAny (model prog w) A (pyIter (.ref t)) (fun it s₂ => LoopAtV prog w A h₀ env x body Q E it s₂) E s := by
  have hg : s.heap.get? t = some (listOf vs.toArray nn) := (N _ hl).1
  have hls : s.heap.IsList t vs.toArray := ⟨_, hg, rfl, nn, rfl⟩
  have hne : t ≠ s.heap.objs.size := Nat.ne_of_lt (Heap.lt_size hg)
  refine wpAny_pyIter_list hls ?_
  have W := Walks.list (prog := prog) (w := w) hh s.heap.objs.size t hne vs.toArray
  have hlen : vs.toArray.size = vs.length := by simp
  rw [hlen] at W
  refine ⟨_, _, _, vs.length, _, _, m₀, news, (fun i m nx => (t, listOf vs.toArray nn) ∈ nx ∧ J i m nx), rfl, W, ?_, ?_, ?_, ⟨⟨_, Heap.get?_push_size _ rfl, rfl, rfl⟩, hls.at fun o e => Heap.get?_push_of_some _ e⟩, F.push _, (fun p hp => ⟨Heap.get?_push_of_some _ (N p hp).1, (N p hp).2⟩), ⟨hl, hj⟩, ?_, ?_⟩
  · intro hm
    rcases List.mem_cons.mp hm with e | hm
    · exact absurd F.ns.lt (e ▸ Nat.lt_irrefl _)
    · exact (N _ hl).2.1 ((List.mem_singleton.mp hm).symm)
  · intro b hb
    rw [List.mem_singleton.mp hb]
    exact next_is_new F
  · intro p hp hI
    exact absurd (Heap.lt_size (N p hp).1) ((List.mem_singleton.mp hI) ▸ Nat.lt_irrefl _)
  · rintro i v m₁ nx s₁ own ⟨hh', tk', rfl⟩ hin hP ⟨hl₁, hJ⟩ hoff hown hget hfp hst F₁ N₁
    have hP' : vs[i]? = some v := by simpa using hP
    obtain ⟨⟨oI, hoI, hcI, _⟩, _⟩ := id hst
    have mI : (s.heap.objs.size, oI) ∈ own := hfp _ (List.mem_cons.mpr (.inl rfl)) (next_is_new F) _ hoI
    have sep : OwnOff [(s.heap.objs.size, oI)] (nx.map (·.1)) := by
      intro p hp b hb e
      obtain ⟨q, hq, rfl⟩ := List.mem_map.mp hb
      rw [List.mem_singleton.mp hp] at e
      exact hoff q hq (List.mem_singleton.mpr e.symm)
    have N₂ : News h₀ env.locals hh' (nx ++ [(s.heap.objs.size, oI)]) := fun p hp => N₁ p ((List.mem_append.mp hp).elim (fun h => List.mem_append.mpr (.inr h)) fun h => List.mem_append.mpr (.inl ((List.mem_singleton.mp h) ▸ mI)))
    have hlo : hh'.get? t = some (listOf vs.toArray nn) := (N₁ _ (List.mem_append.mpr (.inr hl₁))).1
    refine wpAny_mono (turn i v m₁ nx hh' tk' _ hP' sep (fun p hp => by rw [List.mem_singleton.mp hp]; exact hcI) hl₁ hJ F₁ N₂) (fun f s₂ p => ?_) fun _ _ e => e
    have fin : InvEndG h₀ env.locals (fun m' nx => (t, listOf vs.toArray nn) ∈ nx ∧ J (i + 1) m' nx) [(s.heap.objs.size, oI)] { s with heap := hh', toks := tk' } s₂ →
        LoopStepU h₀ env.locals [s.heap.objs.size] own (fun m nx => (t, listOf vs.toArray nn) ∈ nx ∧ J (i + 1) m nx) { s with heap := hh', toks := tk' } .next s₂ := by
      rintro ⟨h', tk, m', news', ny, e, F', N', hn, ho, ha, hm⟩
      refine ⟨rfl, h', tk, m', ny, e, F', fun p hp => ?_, fun p hp hq => ?_, hm⟩
      · rcases List.mem_append.mp hp with h | h
        · rcases List.mem_cons.mp (hown p h) with h2 | h2
          · have h3 : hh'.get? p.1 = some p.2 := hget p h
            have h4 : p = (s.heap.objs.size, oI) := Prod.ext h2 (by rw [h2, hoI] at h3; exact (Option.some.inj h3).symm)
            rw [h4]; exact N' _ (ho _ (List.mem_singleton.mpr rfl))
          · have h1 := List.mem_singleton.mp h2
            have h3 : hh'.get? p.1 = some p.2 := hget p h
            have h4 : p = (t, listOf vs.toArray nn) := Prod.ext h1 (by rw [h1, hlo] at h3; exact (Option.some.inj h3).symm)
            rw [h4]; exact N' _ (hn _ hm.1)
        · exact N' p (hn p h)
      · exact ha _ (List.mem_singleton.mpr rfl) p.1 (List.mem_map.mpr ⟨p, hp, rfl⟩) (List.mem_singleton.mp hq).symm
    cases f with
    | ret v => exact .ret p
    | brk => exact .brk p
    | next => exact .next (fin p)
    | cont => exact .cont (fin p)
  · rintro h' tk m' nx F' N' _ ⟨hl', hJ⟩
    exact done m' nx h' tk hl' hJ F' N'
/-- a loop over a list of the ledger that sets its own name alone -/
theorem list_one {l : Addr} {vs : List Value} {nn : Nat} {m₀ : Str → Option Value} {news : Ledger} (J : Nat → Ledger → Prop)
    (hh : A.handled = none) (hl : (l, listOf vs.toArray nn) ∈ news) (F : Fr h₀ env.locals s.heap m₀) (N : News h₀ env.locals s.heap news) (hj : J 0 news)
    (turn : ∀ i v news₁ h tk own, vs[i]? = some v → OwnOff own (news₁.map (·.1)) → (∀ p ∈ own, p.2.cls = .type "list_iterator") → (l, listOf vs.toArray nn) ∈ news₁ → J i news₁ → Fr h₀ env.locals h (fun y => if y = x then some v else m₀ y) → News h₀ env.locals h (news₁ ++ own) →
      wpAny (model prog w) A (execs body env) (InvPostG h₀ env.locals (fun m' nx => (l, listOf vs.toArray nn) ∈ nx ∧ J (i + 1) nx ∧ ∀ z, z ≠ x → m' z = m₀ z) own { s with heap := h, toks := tk } Q) E { s with heap := h, toks := tk })
    (done : ∀ (u : Str → Option Value) news₁ h tk, J vs.length news₁ → Fr h₀ env.locals h (fun y => if y = x then u x else m₀ y) → News h₀ env.locals h news₁ → Q .next { s with heap := h, toks := tk }) :
    wpAny (model prog w) A (pyIter (.ref l)) (fun it s₂ => LoopAtV prog w A h₀ env x body Q E it s₂) E s :=
  list_loop (fun i m nx => J i nx ∧ ∀ z, z ≠ x → m z = m₀ z) hh hl F N ⟨hj, fun _ _ => rfl⟩
    (fun i v m₁ nx h tk own hv off hc hm j F1 N1 => turn i v nx h tk own hv off hc hm j.1 (fr_same j.2 F1) N1)
    (fun m₁ nx h tk _ j F1 N1 => done m₁ nx h tk j.1 (fr_rest j.2 F1) N1)
/-- a loop over range(n) that sets its own name alone -/
theorem range_one {rA : Addr} {n : Nat} {t₀ u₀ v₀ : Tok} {m₀ : Str → Option Value} {news : Ledger} (J : Nat → Ledger → Prop)
    (hh : A.handled = none) (hr : IsRange s.heap rA 0 (n : Int) 1 t₀ u₀ v₀) (hn : n ≤ 1000) (F : Fr h₀ env.locals s.heap m₀) (N : News h₀ env.locals s.heap news) (hj : J 0 news)
    (turn : ∀ (i : Nat) t nx h tk own, i < n → OwnOff own (nx.map (·.1)) → (∀ p ∈ own, p.2.cls = .type "range_iterator") → J i nx → Fr h₀ env.locals h (fun y => if y = x then some (.int (i : Int) t) else m₀ y) → News h₀ env.locals h (nx ++ own) →
      wpAny (model prog w) A (execs body env) (InvPostG h₀ env.locals (fun m' nx => J (i + 1) nx ∧ ∀ z, z ≠ x → m' z = m₀ z) own { s with heap := h, toks := tk } Q) E { s with heap := h, toks := tk })
    (done : ∀ (u : Str → Option Value) nx h tk, J n nx → Fr h₀ env.locals h (fun y => if y = x then u x else m₀ y) → News h₀ env.locals h nx → Q .next { s with heap := h, toks := tk }) :
    wpAny (model prog w) A (pyIter (.ref rA)) (fun it s₂ => LoopAtV prog w A h₀ env x body Q E it s₂) E s :=
  range_loop (fun i m nx => J i nx ∧ ∀ z, z ≠ x → m z = m₀ z) hh hr hn F N ⟨hj, fun _ _ => rfl⟩
    (fun i t m₁ nx h tk own hi off hc j F1 N1 => turn i t nx h tk own hi off hc j.1 (fr_same j.2 F1) N1)
    (fun m₁ nx h tk j F1 N1 => done m₁ nx h tk j.1 (fr_rest j.2 F1) N1)
/-- a loop over range(n) that sets its own name and three more -/
theorem range_four {a b c : Str} {rA : Addr} {n : Nat} {t₀ u₀ v₀ : Tok} {m₀ : Str → Option Value} {news : Ledger} (J : Nat → Ledger → Prop)
    (hh : A.handled = none) (hr : IsRange s.heap rA 0 (n : Int) 1 t₀ u₀ v₀) (hn : n ≤ 1000) (F : Fr h₀ env.locals s.heap m₀) (N : News h₀ env.locals s.heap news) (hj : J 0 news)
    (hx : x ≠ a ∧ x ≠ b ∧ x ≠ c)
    (turn : ∀ (i : Nat) t (u : Str → Option Value) nx h tk own, i < n → OwnOff own (nx.map (·.1)) → (∀ p ∈ own, p.2.cls = .type "range_iterator") → J i nx → Fr h₀ env.locals h (fun y => if y = x then some (.int (i : Int) t) else if y = a then u a else if y = b then u b else if y = c then u c else m₀ y) → News h₀ env.locals h (nx ++ own) →
      wpAny (model prog w) A (execs body env) (InvPostG h₀ env.locals (fun m' nx => J (i + 1) nx ∧ ∀ z, z ≠ x → z ≠ a → z ≠ b → z ≠ c → m' z = m₀ z) own { s with heap := h, toks := tk } Q) E { s with heap := h, toks := tk })
    (done : ∀ (u : Str → Option Value) nx h tk, J n nx → Fr h₀ env.locals h (fun y => if y = x then u x else if y = a then u a else if y = b then u b else if y = c then u c else m₀ y) → News h₀ env.locals h nx → Q .next { s with heap := h, toks := tk }) :
    wpAny (model prog w) A (pyIter (.ref rA)) (fun it s₂ => LoopAtV prog w A h₀ env x body Q E it s₂) E s :=
  range_loop (fun i m nx => J i nx ∧ ∀ z, z ≠ x → z ≠ a → z ≠ b → z ≠ c → m z = m₀ z) hh hr hn F N ⟨hj, fun _ _ _ _ _ => rfl⟩
    (fun i t m₁ nx h tk own hi off hc j F1 N1 => turn i t m₁ nx h tk own hi off hc j.1 (by
      have F2 := fr_rest4 (x := x) (a := a) (b := b) (c := c) (m₁ := fun y => if y = x then some (.int (i : Int) t) else m₁ y) (m₀ := m₀) (fun z z1 z2 z3 z4 => by rw [if_neg z1]; exact j.2 z z1 z2 z3 z4) F1
      simp only [if_true, if_neg hx.1.symm, if_neg hx.2.1.symm, if_neg hx.2.2.symm] at F2
      exact F2) N1)
    (fun m₁ nx h tk j F1 N1 => done m₁ nx h tk j.1 (fr_rest4 j.2 F1) N1)
end
def strip (n own : Ledger) : Ledger := n.filter fun p => decide (p.1 ∉ own.map (·.1))
theorem strip_sub {n own : Ledger} : ∀ p ∈ strip n own, p ∈ n := fun _ hp => (List.mem_filter.mp hp).1
theorem strip_mem {n own : Ledger} {p : Addr × Obj} (h : p ∈ n) (hne : ∀ q ∈ own, q.1 ≠ p.1) : p ∈ strip n own := by
  refine List.mem_filter.mpr ⟨h, decide_eq_true fun hm => ?_⟩
  obtain ⟨q, hq, e⟩ := List.mem_map.mp hm
  exact hne q hq e
theorem strip_off {n own : Ledger} : OwnOff own ((strip n own).map (·.1)) := by
  intro q hq b hb e
  obtain ⟨p, hp, rfl⟩ := List.mem_map.mp hb
  have := (List.mem_filter.mp hp).2
  exact (of_decide_eq_true this) (List.mem_map.mpr ⟨q, hq, e⟩)
theorem Gr.strip {prog : Program} {w : World} {a : GA} {h₀ h : Heap} {L : Addr} {nx n own : Ledger} {G₀ G : Graph} {ins₀ ins : List Int} {c : String} (g₀ : Gr prog w a nx G₀ ins₀) (off : OwnOff own (nx.map (·.1))) (N : News h₀ L h n) (ho : ∀ p ∈ own, p ∈ n) (hc : ∀ p ∈ own, p.2.cls = .type c) (hne : c ≠ "tuple")
    (g : Gr prog w a n G ins) : Gr prog w a (strip n own) G ins := by
  refine g.mono fun p hp h => strip_mem hp fun q hq => ?_
  rcases h with e | e | e | e | e | e
  · rw [e]; exact own_ne off g₀.hx q hq
  · rw [e]; exact own_ne off g₀.hdx q hq
  · rw [e]; obtain ⟨_, _, z, _⟩ := g₀.nodes; exact own_ne off z q hq
  · rw [e]; obtain ⟨_, _, z, _⟩ := g₀.inps; exact own_ne off z q hq
  · rw [e]; obtain ⟨_, z, _⟩ := g₀.tab; exact own_ne off z q hq
  · exact ne_of_cls N (o := q.2) (ho q hq) (show (p.1, p.2) ∈ n from hp) (by rw [hc q hq, e]; intro h; exact hne (by injection h))
end
section
theorem off_B11 : True := by w_top off; trivial
theorem sp_ul {G : Graph} {i : Nat} {l r : Int} (h : G[i]? = some (some (l, r))) {b : Int} (hb : b = l ∨ b = r) : sp G (2 * (i : Int)) b = some (2 * (i : Int)) := by
  unfold sp
  rw [show ((2 : Int) * (i : Int) / 2).toNat = i by omega, h]
  dsimp only
  rw [if_pos (by omega), if_pos hb]
theorem sp_un {G : Graph} (wf : WF G) {i : Nat} {l r : Int} (h : G[i]? = some (some (l, r))) {b : Int} (hb : b = l ∨ b = r) : sp G (2 * (i : Int)) (neg b) = some 0 := by
  obtain ⟨w1, w2, w3, w4⟩ := wf.node i l r h
  unfold sp
  rw [show ((2 : Int) * (i : Int) / 2).toNat = i by omega, h]
  dsimp only
  have e1 : neg l ≠ l := by unfold neg; omega
  have e2 : neg r ≠ r := by unfold neg; omega
  have e3 : neg l ≠ r := fun e => w4 e.symm
  have e4 : neg r ≠ l := fun e => w4 (by rw [← e, neg_neg])
  rw [if_pos (by omega), if_neg, if_pos]
  · rcases hb with rfl | rfl
    · exact .inl rfl
    · exact .inr rfl
  · rcases hb with rfl | rfl
    · exact fun h => h.elim e1 e3
    · exact fun h => h.elim e4 e2
theorem sp_nn {G : Graph} {i : Nat} {l r : Int} (h : G[i]? = some (some (l, r))) {b : Int} (hb : b = l ∨ b = r) : sp G (neg (2 * (i : Int))) (neg b) = some (neg b) := by
  unfold sp
  have e0 : neg (2 * (i : Int)) = 2 * (i : Int) + 1 := by unfold neg; omega
  rw [e0, show ((2 * (i : Int) + 1) / 2).toNat = i by omega, h]
  dsimp only
  rw [if_neg (by omega), if_pos]
  rcases hb with rfl | rfl
  · exact .inl rfl
  · exact .inr rfl
theorem smart_named {prog : Program} {w : World} {a : GA} {news : Ledger} {G : Graph} {ins : List Int} {l r v : Int} {tl tr : Tok} (g : Gr prog w a news G ins) (wf : WF G) (hl0 : 0 ≤ l) (hl : l < 2 * G.length) (hr0 : 0 ≤ r) (hr : r < 2 * G.length) (hG : G.length ≤ 400) (hsp : sp G l r = some v) :
    Tel prog w 9 60 57 [.ref a.x, .int l tl, .int r tr] news (fun q news' => ∃ t, Value.int v t = q ∧ Gr prog w a news' G ins ∧ (∀ p ∈ news, p.1 ≠ a.nA → p.1 ≠ a.tA → p ∈ news')) := by
  have C := smart_ok (tl := tl) (tr := tr) g wf hl0 hl hr0 hr hG
  unfold Tel at C ⊢
  intro dp un gd cn cs ad ccd cl outer A₀ base h₀ L m s p loose mean mg mb Q E B F X N T hk hd hu hret
  refine C dp un gd cn cs ad ccd cl outer A₀ base h₀ L m s p loose mean mg mb Q E B F X N T hk hd hu ?_
  rintro q n' h' tk' ⟨G', k, t, e, gr, sm, fr, _⟩
  obtain ⟨rfl, rfl⟩ := sm.named v hsp
  exact hret q n' h' tk' ⟨t, e, gr, fr⟩
set_option maxRecDepth 100000 in
set_option maxHeartbeats 8000000 in
theorem rules_ok {prog : Program} {w : World} {a : GA} {news : Ledger} {G : Graph} {ins : List Int} {i : Nat} {l r lines : Int} {ti tn : Tok} (g : Gr prog w a news G ins) (wf : WF G) (hi0 : G[i]? = some (some (l, r))) (hG : G.length ≤ 200)
    (hL : Lines lines) (h0 : (0 : Int) ∉ ins) (hI : ins.length ≤ 4) :
    Tel prog w 14 300 196 [.ref a.x, .int (i : Int) ti, .int lines tn] news (fun q news' => ∃ G', Value.bool true = q ∧ Gr prog w a news' G' ins ∧ WF G' ∧ G <+: G' ∧ G'.length ≤ G.length + 1 ∧ (∀ p ∈ news, p.1 ≠ a.nA → p.1 ≠ a.tA → p ∈ news')) := by
  k_with_none
  k_with "subscriptTail" => (k_here; (with_reducible show wpAny _ _ (subscriptTail _ _ (Value.ref _) (Value.int (Int.fdiv _ _) _)) _ _ _); k_dflt (refine' idx_half ?N ?hm ?hk ?hl ?h0 ?hx ?_ ?hs; (case N => k_asm); (case hm => k_mem); (case hk => exact shr1 _); (case hl => assumption); (case h0 => assumption); (case hx => assumption); (case hs => with_unfolding_all rfl); k_whole))
  k_with "compareOp In int ref" => (k_here; k_dflt (refine' in_pair ?N ?hm ?_; (case N => k_asm); (case hm => k_mem)))
  k_with "call builtin:len" => (k_here; (with_reducible show wpAny _ _ (call (Value.builtin "len") [Value.ref _]) _ _ _); k_dflt (refine' len_ok ?N ?hm ?hz ?_; (case N => k_asm); (case hm => k_mem); (case hz => omega)))
  k_with "subscriptTail" => (k_here; (with_reducible show wpAny _ _ (subscriptTail _ _ (Value.ref _) (Value.int (Nat.cast _) _)) _ _ _); k_dflt (refine' idx_at ?N ?hm ?hl ?hx ?_ ?hs; (case N => k_asm); (case hm => k_mem); (case hx => assumption); (case hl => assumption); (case hs => with_unfolding_all rfl); k_whole))
  k_with "call ref" => (k_here; k_dflt (refine' Tel.use ?k1 ?k2 ?k3 ?k4 ?k5 ?kK (column_ok ?hc ?hi ?hk1 ?hk2 ?hL ?hz) ?kd ?ku ?_; ktr_rel; (case hc => k_mem); (case hi => assumption); (case hk1 => omega); (case hk2 => omega); (case hL => assumption); (case hz => omega); intro q9 n9 h9 tk9 p9 F9 N9; obtain ⟨e1, t9, e2⟩ := p9; subst e1; subst e2; (try dsimp only); (try k_fold)))
  k_with "call ref" => (k_here; (first | (with_reducible show wpAny _ _ (call (Value.ref 57) _ _) _ _ _) | (with_reducible show wpAny _ _ (call (Value.ref 175) _ _) _ _ _) | (with_reducible show wpAny _ _ (call (Value.ref 189) _ _) _ _ _)); refine Held.out ?_)
  obtain ⟨x, dx, nA, iA, oA, tA, h1, h2, h3, h4, t1, t2, t3, t4, dn⟩ := a
  have gg := g
  obtain ⟨hx, hdx, ⟨nv, nn, hn, hnodes⟩, ⟨iv, inn, hi, hints⟩, ⟨ot, ht, hT⟩, hap, hap2, lo⟩ := g
  dsimp only at hx hdx hn hi ht hap hap2 lo ⊢
  obtain ⟨w1, w2, w3, w4⟩ := wf.node i l r hi0
  have hiG : i < G.length := (List.getElem?_eq_some_iff.mp hi0).1
  obtain ⟨v, hv, pt, ptl, ptr, rfl, hpt⟩ := hnodes.2 i _ hi0
  have hnl : nv.length ≤ 200 := by rw [hnodes.1]; exact hG
  have hnl' : nv.length < 1000 := by omega
  unfold Tel
  intro dp un gd cn cs ad ccd cl outer A₀ base h₀ L m s p loose mean mg mb Q E B F X N T hk hd hu hret
  refine wpAny_call ?_
  k_dflt ktr_enter
  k_steps
  refine Held.take ?_
  (with_reducible rename News _ _ _ _ => N9); (with_reducible rename Fr _ _ _ _ => F9)
  rename_i lA hh9 lk9
  have kn : lA ≠ nA := Nat.ne_of_gt (lk9 _ hn)
  have kt : lA ≠ tA := Nat.ne_of_gt (lk9 _ ht)
  with_unfolding_all refine list_one (fun i nx => (∀ p ∈ news, p.1 ≠ nA → p.1 ≠ tA → p ∈ nx) ∧ Gr prog w ⟨x, dx, nA, iA, oA, tA, h1, h2, h3, h4, t1, t2, t3, t4, dn⟩ nx G ins) rfl (by exact List.mem_cons_self) (by exact F9) (by exact N9) ⟨fun p hp _ _ => List.mem_cons_of_mem _ hp, gg.mono (fun p hp _ => List.mem_cons_of_mem _ hp)⟩ (fun i2 v2 nx h2 tk2 own2 hv2 hoff2 hcls2 hl2 J2 F2 N2 => ?_) (fun u2 nx h2 tk2 J2 F2 N2 => ?_)
  · obtain ⟨sub2, gr2⟩ := J2
    have hk : ∃ k u, v2 = .int k u ∧ (k = l ∨ k = r) := by
      rcases i2 with _ | _ | i2
      · exact ⟨l, _, by simpa using hv2.symm, .inl rfl⟩
      · exact ⟨r, _, by simpa using hv2.symm, .inr rfl⟩
      · simp at hv2
    obtain ⟨k, u, rfl, hk⟩ := hk
    have k0 : 0 ≤ k := by omega
    have k1 : k < 2 * (G.length : Int) := by omega
    have n0 : 0 ≤ neg k := neg_nonneg k0
    have n1 : neg k < 2 * (G.length : Int) := neg_lt k1
    have onn : ∀ p ∈ own2, p.1 ≠ nA := by obtain ⟨_, _, q, _⟩ := gr2.nodes; exact own_ne hoff2 q
    have ont : ∀ p ∈ own2, p.1 ≠ tA := by obtain ⟨_, q, _⟩ := gr2.tab; exact own_ne hoff2 q
    have hx2 := gr2.hx
    k_steps
    refine Held.take ?_
    k_dflt (refine' Tel.use ?k1 ?k2 ?k3 ?k4 ?k5 ?kK (smart_named (gr2.mono (news' := nx ++ own2) (fun p hp _ => List.mem_append_left _ hp)) wf (by omega) (by omega) k0 k1 (by omega) (sp_ul hi0 hk)) ?kd ?ku ?_)
    ktr_rel
    intro q3 n3 h3' tk3 p3 F3 N3; refine ex3 p3 fun s3 e3 gr3 fr3 => ?_; subst e3
    have hx3 := gr3.hx
    (try dsimp only); (try k_fold)
    k_steps
    · exact absurd rfl (by assumption)
    refine Held.take ?_
    k_dflt (refine' Tel.use ?k1 ?k2 ?k3 ?k4 ?k5 ?kK (smart_named gr3 wf (by omega) (by omega) (by rw [xor_one]; exact n0) (by rw [xor_one]; exact n1) (by omega) (by rw [xor_one]; exact sp_un wf hi0 hk)) ?kd ?ku ?_)
    ktr_rel
    intro q4 n4 h4' tk4 p4 F4 N4; refine ex3 p4 fun s4 e4 gr4 fr4 => ?_; subst e4
    have hx4 := gr4.hx
    (try dsimp only); (try k_fold)
    k_steps
    refine Held.take ?_
    k_dflt (refine' Tel.use ?k1 ?k2 ?k3 ?k4 ?k5 ?kK (smart_named gr4 wf (by rw [xor_one]; exact neg_nonneg (by omega)) (by rw [xor_one]; exact neg_lt (by omega)) (by rw [xor_one]; exact n0) (by rw [xor_one]; exact n1) (by omega) (by rw [xor_one, xor_one]; exact sp_nn hi0 hk)) ?kd ?ku ?_)
    ktr_rel
    intro q5 n5 h5' tk5 p5 F5 N5; refine ex3 p5 fun s5 e5 gr5 fr5 => ?_; subst e5
    have hx5 := gr5.hx
    have fr25 : ∀ p ∈ nx ++ own2, p.1 ≠ nA → p.1 ≠ tA → p ∈ n5 := fun p hp z1 z2 => fr5 p (fr4 p (fr3 p hp z1 z2) z1 z2) z1 z2
    (try dsimp only); (try k_fold)
    k_steps
    · exact absurd (xor_one k) (by first | assumption | (intro; omega))
    have ho5 : ∀ p ∈ own2, p ∈ n5 := fun p hp => fr25 p (List.mem_append_right _ hp) (onn p hp) (ont p hp)
    with_unfolding_all exact InvEndG.intro (nx := strip n5 own2) (by k_asm) (by k_asm) ⟨strip_mem (fr25 _ (List.mem_append_left _ hl2) kn kt) (own_ne hoff2 hl2), ⟨fun p hp z1 z2 => strip_mem (fr25 p (List.mem_append_left _ (sub2 p hp z1 z2)) z1 z2) (own_ne hoff2 (show (p.1, p.2) ∈ nx from sub2 p hp z1 z2)), gr2.strip hoff2 N5 ho5 hcls2 (by decide) gr5⟩, fun z hz => if_neg hz⟩ strip_off strip_sub ho5
  · obtain ⟨sub2, gr2⟩ := J2
    have gr2' := gr2
    refine gr2.nod fun nv6 nn6 hx6 hdx6 hn6 hnodes6 => ?_
    clear gr2
    dsimp only at hx6 hdx6 hn6
    have hlen6 : nv6.length = nv.length := by rw [hnodes6.1, hnodes.1]
    k_steps
    · exact absurd hlen6 (by omega)
    refine Held.take ?_
    k_dflt (refine' Tel.use ?k1 ?k2 ?k3 ?k4 ?k5 ?kK (joined_ok gr2' wf (by rw [xor_one]; exact neg_nonneg (by omega)) (by rw [xor_one]; exact neg_lt (by omega)) (by omega) (by omega) (by omega) hL h0 hI) ?kd ?ku ?_)
    ktr_rel
    intro q7 n7 h7' tk7 p7 F7 N7; refine ex34 p7 fun G' k7 s7 e7 gr7 sm7 fr7 => ?_; subst e7
    have hlen7 : G'.length ≤ G.length + 1 := sm7.land.len
    have hk70 := sm7.land.k0
    have hk71 := sm7.land.k1
    have hpl7 := sm7.land.pre.length_le
    have nr0 : 0 ≤ Builtin.bitXor r 1 := by rw [xor_one]; exact neg_nonneg (by omega)
    have nr1 : Builtin.bitXor r 1 < 2 * (G.length : Int) := by rw [xor_one]; exact neg_lt (by omega)
    have hlit : ∀ β, Fits β G' → lit β k7 = (lit β l && lit β (Builtin.bitXor r 1)) := fun β f => by
      rw [sm7.land.val β f, xor_one, xor_one, lit_neg, lit_neg, lit_node (f.pre sm7.land.pre) hi0]
      cases lit β l <;> cases lit β r <;> rfl
    (try dsimp only); (try k_fold)
    k_steps
    refine Held.take ?_
    k_dflt (refine' Tel.use ?k1 ?k2 ?k3 ?k4 ?k5 ?kK (columns_ok gr7 sm7.land.wf (by omega) hL h0 hI) ?kd ?ku ?_)
    ktr_rel
    intro q8 n8 h8 tk8 p8 F8 N8'
    refine ex45 p8 fun cA cv cnn csq e1 subc hcA hci hcols => ?_
    clear p8
    subst e1
    have hclen := hcols.len
    have hval := cols_val hcols hlit
    (try dsimp only); (try k_fold)
    k_steps
    exact hret _ n8 _ _ ⟨G', (congrArg Value.bool (beq_iff_eq.mpr hval)).symm, gr7.mono (fun p hp _ => subc p hp), sm7.land.wf, sm7.land.pre, hlen7, fun p hp z1 z2 => subc p (fr7 p (sub2 p hp z1 z2) z1 z2)⟩ (by k_asm) (by k_asm)
end
section
theorem off_B12 : True := by w_top off; trivial
theorem rev_ok {prog : Program} {w : World} {A : Around} {E : Value → Shared → Prop} {s : Shared} {h₀ : Heap} {L : Addr} {m : Str → Option Value} {news : Ledger} {l : Addr} {vs : List Value} {n : Nat} {Q : Value → Shared → Prop} (F : Fr h₀ L s.heap m) (N : News h₀ L s.heap news) (hm : (l, listOf vs.toArray n) ∈ news) (hsz : vs.length ≤ 1000)
    (k : ∀ h' news', Fr h₀ L h' m → News h₀ L h' news' → (∀ p ∈ news, p.1 ≠ l → p ∈ news') → (l, listOf vs.reverse.toArray n) ∈ news' → Q .none { s with heap := h' }) :
    wpAny (model prog w) A (call (.builtin "list.reverse") [.ref l]) Q E s := by
  have z := N _ hm
  refine kl_reverse (its := vs.toArray) (l := vs.reverse) (n := n) (news := (l, listOf vs.toArray n) :: news.filter fun p => decide (p.1 ≠ l)) F (fun p hp => ?_) (by simp) (Upd.head fun p hp => ?_) ?_ (fun h' F' N' => k h' _ F' N' (fun p hp hne => ?_) List.mem_cons_self)
  · rcases List.mem_cons.mp hp with rfl | hp
    · exact z
    · exact N p (List.mem_filter.mp hp).1
  · simpa using (List.mem_filter.mp hp).2
  · rw [sizeLine_eq]; simp; omega
  · exact List.mem_cons_of_mem _ (List.mem_filter.mpr ⟨hp, by simpa using hne⟩)
theorem ints_rev {vs : List Value} {ns : List Int} (h : IntsAre vs ns) : IntsAre vs.reverse ns.reverse := by
  induction h with
  | nil => exact .nil
  | cons n t _ ih => rw [List.reverse_cons, List.reverse_cons]; exact ints_append ih (.cons n t .nil)
theorem ints_at {vs : List Value} {ns : List Int} (h : IntsAre vs ns) {i : Nat} {v : Value} (e : vs[i]? = some v) : ∃ k u, v = .int k u := by
  have hi := (List.getElem?_eq_some_iff.mp e).1
  have hl := h.length
  obtain ⟨t, q⟩ := h.get i _ (List.getElem?_eq_getElem (by omega))
  exact ⟨_, t, Option.some.inj (e.symm.trans q)⟩
set_option maxRecDepth 100000 in
set_option maxHeartbeats 8000000 in
theorem supply_ok {prog : Program} {w : World} {news : Ledger} {sA : Addr} {vs : List Value} {ns : List Int} (hi : IntsAre vs ns) (hz : ns.length ≤ 63)
    (dp un : Nat) (gd : Option (List Code)) (cn : Str) (cs : Scope) (a : Addr) (ccd : Value) (cl : List (Str × Addr)) (outer : List Env) (A₀ : Around) (base h₀ : Heap) (L : Addr) (m : Str → Option Value) (s : Shared)
    (p : Program) (loose : List Str) (mean : ExcName → Option Value) (mg mb : Str → Option Value) (Q E : Value → Shared → Prop)
    (hL : h₀.IsList sA vs.toArray)
    (B : Below A₀ base outer h₀) (F : Fr h₀ L s.heap m) (X : (hd.heap_39 w.params).In h₀) (N : News h₀ L s.heap news) (T : Top p loose mean mg mb h₀) (hk : cs.kind = .function) (hd : dp + 2 < recursionLimit) (hu : un + 20 < cLine)
    (hret : ∀ r news' h' tk', (∃ rA rv n rs, Value.ref rA = r ∧ (rA, listOf rv.toArray n) ∈ news' ∧ IntsAre rv rs ∧ rs.length ≤ 70 ∧ ∀ p ∈ news, p ∈ news') → Fr h₀ L h' m → News h₀ L h' news' → Q r { s with heap := h', toks := tk' }) :
    wpAny (model prog w) (ktrTop dp un gd cn cs L a ccd cl outer) (call (.ref 163) [.ref sA]) Q E s := by
  k_with_none
  k_with "subscriptTail" => (k_here; (with_reducible show wpAny _ _ (subscriptTail _ _ (Value.ref _) (Value.int (Int.fdiv _ _) _)) _ _ _); k_dflt (refine' idx_half ?N ?hm ?hk ?hl ?h0 ?hx ?_ ?hs; (case N => k_asm); (case hm => k_mem); (case hk => exact shr1 _); (case hl => assumption); (case h0 => assumption); (case hx => assumption); (case hs => with_unfolding_all rfl); k_whole))
  k_with "compareOp In int ref" => (k_here; k_dflt (refine' in_pair ?N ?hm ?_; (case N => k_asm); (case hm => k_mem)))
  k_with "call builtin:len" => (k_here; (with_reducible show wpAny _ _ (call (Value.builtin "len") [Value.ref _]) _ _ _); k_dflt (refine' len_ok ?N ?hm ?hz ?_; (case N => k_asm); (case hm => k_mem); (case hz => omega)))
  k_with "exec While Compare cons nil" => (k_here; refine Held.out ?_)
  k_with "WPost" => (dsimp only [WPost])
  k_with "exec For Name Call cons nil" => (k_here; (rename Fr _ _ _ _ => lF'); (with_unfolding_all refine' For_invVF lF' ?k1 ?k2 ?_; (case k1 => exact rfl); (case k2 => exact rfl); k_whole))
  k_with "pyIter ref" => ((with_reducible show wpAny _ _ (pyIter (Value.ref _)) (fun it s₂ => LoopAtV _ _ _ _ _ _ _ _ _ it s₂) _ _); k_here; refine Held.out ?_)
  k_with "exec For Name Subscript cons nil" => (k_here; (rename Fr _ _ _ _ => lF'); (with_unfolding_all refine' For_invVF lF' ?k1 ?k2 ?_; (case k1 => exact rfl); (case k2 => exact rfl); k_whole))
  refine wpAny_call ?_
  k_dflt (refine' code_def ?k1 ?k2 ?k3 ?k4 ?k5 ?kA ?kF ?kK ?k6 ?k7 ?k8 ?k9 ?kB ?_ ?c2 ?c3 ?c4 ?c5; (case kA => exact rfl); (case kF => exact rfl); (case kK => assumption); (case k1 => k_asm); (case k2 => k_asm); (case k3 => k_asm); (case k4 => k_asm); (case k5 => k_asm); (case k6 => k_is); (case k7 => k_is); (case k8 => ktr_room); (case k9 => first | exact BindsTo.of_eq rfl | exact binds_K (by k_in) rfl (by k_is) rfl rfl rfl); (case c5 => decide); (case kB => exact locs rfl); (case c2 => exact rfl); (case c3 => exact rfl); (case c4 => exact rfl); k_whole; intro g' L' h' FG' F' N' B' X' T'; (try dsimp only); (try k_fold))
  have hl := hi.length
  have hL2 : g'.IsList sA vs.toArray := hL.at fun o e => FG'.keep _ _ e
  k_steps
  refine Held.take ?_
  rename_i sup hh1 lk1 hh2 sc wv hh3 F9 N9 hI9 hC9 hL9 lk9
  have nsup : ∀ p ∈ news, p.1 ≠ sup := fun p hp => Nat.ne_of_lt (lk1 p hp)
  have scne : sc ≠ sup := Nat.ne_of_gt lk9.1
  with_unfolding_all refine list_loop (fun i m nx => (∀ p ∈ news, p ∈ nx) ∧ m (Str.ofString "supply") = some (Value.ref sup) ∧ ∃ sv n rs, (sup, listOf sv.toArray n) ∈ nx ∧ IntsAre sv rs ∧ rs.length ≤ 70) rfl (by exact List.mem_cons_self) (by exact F9) (by exact N9) ⟨fun p hp => List.mem_cons_of_mem _ (List.mem_cons_of_mem _ hp), rfl, [], 0, [], List.mem_cons_of_mem _ List.mem_cons_self, .nil, by simp⟩ (fun i v m₁ nx h2 tk2 own2 hv2 hoff2 hcls2 hl2 J2 F2 N2 => ?_) (fun m₁ nx h2 tk2 hl2 J2 F2 N2 => ?_)
  · refine ex23a J2 fun sv n rs hsub e1 hs hsi hsl => ?_
    clear J2
    obtain ⟨k, u, rfl⟩ := ints_at hI9 hv2
    have F2' := fr_names3 (k1 := Str.ofString "cell") (k2 := Str.ofString "supply") (k3 := Str.ofString "supply") F2 (if_pos rfl) ((if_neg (by decide)).trans e1) ((if_neg (by decide)).trans e1)
    clear F2 e1
    k_steps
    all_goals (
      refine Held.take ?_
      (with_reducible rename News _ _ _ _ => N9'); (with_reducible rename Fr _ _ _ _ => F9')
      with_unfolding_all refine while_J (n₀ := 71 - rs.length) (fun n m nw => (∀ p ∈ nx, p.1 ≠ sup → p ∈ nw) ∧ (∀ p ∈ own2, p ∈ nw) ∧ m (Str.ofString "supply") = some (Value.ref sup) ∧ (∃ kl tl, m (Str.ofString "left") = some (Value.int kl tl)) ∧ ∃ sv c rs, (sup, listOf sv.toArray c) ∈ nw ∧ IntsAre sv rs ∧ rs.length ≤ 70 ∧ n + rs.length = 71) F9' N9' ⟨fun p hp _ => List.mem_append_left _ hp, fun p hp => List.mem_append_right _ hp, rfl, ⟨_, _, rfl⟩, sv, n, rs, List.mem_append_left _ hs, hsi, hsl, by omega⟩ ?_
      intro n4 m4 nw4 h4 tk4 F4 N4 J4
      refine ex_sup J4 fun kl tl sv4 c4 rs4 keep4 own4 e2 e3 hs4 hsi4 hsl4 hn4 => ?_
      clear J4
      have F4' := fr_names3 (k1 := Str.ofString "left") (k2 := Str.ofString "supply") (k3 := Str.ofString "supply") F4 e3 e2 e2
      clear F4 e2 e3
      have hl4 := hsi4.length
      k_steps
      · (with_reducible rename News _ _ _ _ => N5); (with_reducible rename Fr _ _ _ _ => F5)
        with_unfolding_all refine app_ok F5 N5 hs4 (by omega) (fun hA newsA FA NA keepA inA => ?_)
        (try dsimp only); (try k_fold)
        k_steps
        · with_unfolding_all exact InvEndG.intro (nx := put nx sup _) (by k_asm) (by k_asm) ⟨put_mem hl2 scne, fun p hp => put_mem (hsub p hp) (nsup p hp), rfl, _, _, _, put_self, ints_append hsi4 (.cons _ _ .nil), by rw [List.length_append]; simp; omega⟩ (put_off hoff2 hs) (put_sub inA (fun p hp hne => keepA p (keep4 p hp hne) hne)) (fun p hp => keepA p (own4 p hp) (own_ne hoff2 hs p hp))
        · with_unfolding_all exact WEnd.intro (n' := n4 - 1) (by k_asm) (by assumption) (fun p hp => hp) (by omega) ⟨fun p hp hne => keepA p (keep4 p hp hne) hne, fun p hp => keepA p (own4 p hp) (own_ne hoff2 hs p hp), rfl, ⟨_, _, rfl⟩, _, _, _, inA, ints_append hsi4 (.cons _ _ .nil), by rw [List.length_append]; simp; omega, by rw [List.length_append]; simp; omega⟩
      · with_unfolding_all exact InvEndG.intro (nx := put nx sup _) (by k_asm) (by k_asm) ⟨put_mem hl2 scne, fun p hp => put_mem (hsub p hp) (nsup p hp), rfl, sv4, c4, rs4, put_self, hsi4, hsl4⟩ (put_off hoff2 hs) (put_sub hs4 keep4) own4)
  · refine ex23a J2 fun sv n rs hsub e1 hs hsi hsl => ?_
    clear J2
    have F2' := fr_names3 (k1 := Str.ofString "supply") (k2 := Str.ofString "supply") (k3 := Str.ofString "supply") F2 e1 e1 e1
    clear F2 e1
    have hl4 := hsi.length
    k_steps
    with_unfolding_all refine rev_ok F2' N2 hs (by omega) (fun hA newsA FA NA keepA inA => ?_)
    (try dsimp only); (try k_fold)
    k_steps
    exact hret _ newsA _ _ ⟨sup, _, n, _, rfl, inA, ints_rev hsi, by rw [List.length_reverse]; exact hsl, fun p hp => keepA p (hsub p hp) (nsup p hp)⟩ (by k_asm) (by k_asm)
end
section
theorem ne_of_data {h₀ h : Heap} {L a b : Addr} {news : Ledger} {o o' : Obj} (N : News h₀ L h news) (h1 : (a, o) ∈ news) (h2 : (b, o') ∈ news) (hc : o.data ≠ o'.data) : a ≠ b := by
  rintro rfl
  have e := (N _ h1).1.symm.trans (N _ h2).1
  exact hc (congrArg Obj.data (Option.some.inj e))
/-- what the law keeps between its steps: the graph, the supply, the cell of the graph's name -/
structure LS (prog : Program) (w : World) (a : GA) (sA c : Addr) (news : Ledger) (G : Graph) (ins : List Int) : Prop where
  gr : Gr prog w a news G ins
  wf : WF G
  sup : ∃ sv n rs, (sA, listOf sv.toArray n) ∈ news ∧ IntsAre sv rs ∧ rs.length ≤ 70
  cell : ∃ oc, (c, oc) ∈ news ∧ oc.data = .cell (some (.ref a.x))
  sn : sA ≠ a.nA
  si : sA ≠ a.iA
section
variable {prog : Program} {w : World} {a : GA} {sA c : Addr} {news news' : Ledger} {G G' : Graph} {ins ins' : List Int} {h₀ h : Heap} {L : Addr}
theorem Gr.tab_dict (g : Gr prog w a news G ins) : ∃ ot es ep, (a.tA, ot) ∈ news ∧ ot.cls = .type "dict" ∧ ot.data = .dict es ep :=
  let ⟨ot, h1, es, ep, _, h2, h3, _⟩ := g.tab; ⟨ot, es, ep, h1, h2.1, h3⟩
theorem LS.mono (S : LS prog w a sA c news G ins) (sub : ∀ p ∈ news, p ∈ news') : LS prog w a sA c news' G ins where
  gr := S.gr.mono fun p hp _ => sub p hp
  wf := S.wf
  sup := let ⟨sv, n, rs, h1, h2, h3⟩ := S.sup; ⟨sv, n, rs, sub _ h1, h2, h3⟩
  cell := let ⟨oc, h1, h2⟩ := S.cell; ⟨oc, sub _ h1, h2⟩
  sn := S.sn
  si := S.si
theorem LS.take (S : LS prog w a sA c news G ins) (N : News h₀ L h news) (keep : ∀ p ∈ news, p.1 ≠ sA → p ∈ news') {sv : List Value} {n : Nat} {rs : List Int} (hs : (sA, listOf sv.toArray n) ∈ news') (hi : IntsAre sv rs) (hl : rs.length ≤ 70) : LS prog w a sA c news' G ins := by
  obtain ⟨sv₀, n₀, rs₀, hs₀, _, _⟩ := S.sup
  obtain ⟨oc, hc, hcd⟩ := S.cell
  obtain ⟨ot, es, ep, ht, htc, htd⟩ := S.gr.tab_dict
  refine { gr := S.gr.mono fun p hp q => keep p hp ?_, wf := S.wf, sup := ⟨sv, n, rs, hs, hi, hl⟩, cell := ⟨oc, keep _ hc (ne_of_data N hc hs₀ (by rw [hcd]; exact fun h => nomatch h)), hcd⟩, sn := S.sn, si := S.si }
  rcases q with e | e | e | e | e | e
  · rw [e]; exact ne_of_cls N S.gr.hx hs₀ (fun h => nomatch h)
  · rw [e]; exact ne_of_cls N S.gr.hdx hs₀ (by show Value.type _ ≠ Value.type _; decide)
  · rw [e]; exact S.sn.symm
  · rw [e]; exact S.si.symm
  · rw [e]; exact ne_of_cls N ht hs₀ (by rw [htc]; show Value.type _ ≠ Value.type _; decide)
  · exact ne_of_cls N (o := p.2) hp hs₀ (by rw [e]; show Value.type _ ≠ Value.type _; decide)
theorem LS.op (S : LS prog w a sA c news G ins) (N : News h₀ L h news) (g : Gr prog w a news' G' ins') (wf : WF G') (fr : ∀ p ∈ news, p.1 ≠ a.nA → p.1 ≠ a.tA → p ∈ news') : LS prog w a sA c news' G' ins' := by
  obtain ⟨sv₀, n₀, rs₀, hs₀, h1, h2⟩ := S.sup
  obtain ⟨oc, hc, hcd⟩ := S.cell
  obtain ⟨ot, es, ep, ht, htc, htd⟩ := S.gr.tab_dict
  obtain ⟨nv, nn, hn, _⟩ := S.gr.nodes
  exact { gr := g, wf := wf, sup := ⟨sv₀, n₀, rs₀, fr _ hs₀ S.sn (ne_of_cls N hs₀ ht (by rw [htc]; show Value.type _ ≠ Value.type _; decide)), h1, h2⟩, cell := ⟨oc, fr _ hc (ne_of_data N hc hn (by rw [hcd]; exact fun h => nomatch h)) (ne_of_data N hc ht (by rw [hcd, htd]; exact fun h => nomatch h)), hcd⟩, sn := S.sn, si := S.si }
theorem LS.inp (S : LS prog w a sA c news G ins) (N : News h₀ L h news) (g : Gr prog w a news' G' ins') (wf : WF G') (fr : ∀ p ∈ news, p.1 ≠ a.nA → p.1 ≠ a.iA → p ∈ news') : LS prog w a sA c news' G' ins' := by
  obtain ⟨sv₀, n₀, rs₀, hs₀, h1, h2⟩ := S.sup
  obtain ⟨oc, hc, hcd⟩ := S.cell
  obtain ⟨nv, nn, hn, _⟩ := S.gr.nodes
  obtain ⟨iv, inn, hi, _⟩ := S.gr.inps
  exact { gr := g, wf := wf, sup := ⟨sv₀, n₀, rs₀, fr _ hs₀ S.sn S.si, h1, h2⟩, cell := ⟨oc, fr _ hc (ne_of_data N hc hn (by rw [hcd]; exact fun h => nomatch h)) (ne_of_data N hc hi (by rw [hcd]; exact fun h => nomatch h)), hcd⟩, sn := S.sn, si := S.si }
theorem LS.strip {nx n own : Ledger} {cl : String} (S₀ : LS prog w a sA c nx G ins) (off : OwnOff own (nx.map (·.1))) (N : News h₀ L h n) (ho : ∀ p ∈ own, p ∈ n) (hc : ∀ p ∈ own, p.2.cls = .type cl) (hne : cl ≠ "tuple") (S : LS prog w a sA c n G' ins') : LS prog w a sA c (strip n own) G' ins' where
  gr := S₀.gr.strip off N ho hc hne S.gr
  wf := S.wf
  sup := let ⟨_, _, _, q, _⟩ := S₀.sup; let ⟨sv, n, rs, h1, h2, h3⟩ := S.sup; ⟨sv, n, rs, strip_mem h1 (own_ne off q), h2, h3⟩
  cell := let ⟨_, q, _⟩ := S₀.cell; let ⟨oc, h1, h2⟩ := S.cell; ⟨oc, strip_mem h1 (own_ne off q), h2⟩
  sn := S.sn
  si := S.si
theorem WF.input (wf : WF G) : WF (G ++ [none]) where
  zero := by
    have := (List.getElem?_eq_some_iff.mp wf.zero).1
    rw [List.getElem?_append_left this, wf.zero]
  node := by
    intro i l r e
    rcases Nat.lt_trichotomy i G.length with hi | hi | hi
    · rw [List.getElem?_append_left hi] at e; exact wf.node i l r e
    · subst hi
      rw [List.getElem?_append_right (Nat.le_refl _)] at e
      simp at e
    · rw [List.getElem?_eq_none (by simp; omega)] at e; cases e
theorem WF.one : WF [none] where
  zero := rfl
  node := by
    intro i l r e
    rcases i with _ | i
    · cases e
    · simp at e
/-- what Aig() makes -/
theorem LS.first {x dx nA iA oA tA sA c : Addr} {h1 h2 h3 h4 : Int} {t1 t2 t3 t4 : Tok} {dn m1 m2 n : Nat} {ot oc : Obj} {sv : List Value} {rs : List Int}
    (hx : (x, instObj 152 dx) ∈ news) (hdx : (dx, aigD h1 h2 h3 h4 t1 t2 t3 t4 nA iA oA tA dn) ∈ news) (hn : (nA, listOf [Value.none].toArray m1) ∈ news) (hi : (iA, listOf ([] : List Value).toArray m2) ∈ news)
    (ht : (tA, ot) ∈ news) (hd : ot.IsDictOf (intKind prog w) []) (hap : nA ≠ iA) (hap2 : dx ≠ tA) (lo : (tA == sysModules) = false)
    (hs : (sA, listOf sv.toArray n) ∈ news) (hsi : IntsAre sv rs) (hsl : rs.length ≤ 70) (hc : (c, oc) ∈ news) (hcd : oc.data = .cell (some (.ref x))) (sn : sA ≠ nA) (si : sA ≠ iA) :
    LS prog w ⟨x, dx, nA, iA, oA, tA, h1, h2, h3, h4, t1, t2, t3, t4, dn⟩ sA c news [none] [] where
  gr := {
    hx := hx
    hdx := hdx
    nodes := ⟨_, _, hn, rfl, fun i g e => by
      rcases i with _ | i
      · obtain rfl : none = g := by simpa using e
        exact ⟨.none, rfl, rfl⟩
      · simp at e⟩
    inps := ⟨_, _, hi, .nil⟩
    tab := ⟨ot, ht, by
      obtain ⟨es, ep, he, hdat, _, hp, _⟩ := hd
      refine ⟨es, ep, [], he, hdat, ?_, by simp, by simp, by simp⟩
      cases h : es.toList with
      | nil => rfl
      | cons y r => rw [h] at hp; cases hp⟩
    apart := hap
    apart2 := hap2
    lo := lo }
  wf := WF.one
  sup := ⟨sv, n, rs, hs, hsi, hsl⟩
  cell := ⟨oc, hc, hcd⟩
  sn := sn
  si := si
theorem allLt {d : Addr} : ∀ {l : Ledger}, AllLt d l → ∀ p ∈ l, p.1 < d
  | [], _, _, h => by simp at h
  | q :: r, h, p, hp => by
    rcases List.mem_cons.mp hp with rfl | hp
    · exact h.1
    · exact allLt h.2 p hp
theorem start_ok {A : Around} {E : Value → Shared → Prop} {s : Shared} {m : Str → Option Value} {cn : Str} {cs : Scope} {fa : Addr} {ccd : Value} {cl : List (Str × Addr)} {n1 : Ledger} {x dx nA iA oA tA : Addr} {h1 h2 h3 h4 : Int} {t1 t2 t3 t4 : Tok} {dn m1 m2 n : Nat} {ot o3 o : Obj} {v₀ : Option Value} {sv : List Value} {rs : List Int} {Q : Unit → Shared → Prop}
    (F : Fr h₀ L s.heap m)
    (N : News h₀ L s.heap ((tA, ot) :: (oA, o3) :: (iA, listOf ([] : List Value).toArray m2) :: (nA, listOf [Value.none].toArray m1) :: (x, instObj 152 dx) :: (dx, aigD h1 h2 h3 h4 t1 t2 t3 t4 nA iA oA tA dn) :: n1))
    (hd : ot.IsDictOf (intKind prog w) []) (lo : (tA == sysModules) = false) (hap : @LT.lt Nat _ nA iA) (hap2 : @LT.lt Nat _ dx tA) (an : AllLt nA n1) (ai : AllLt iA n1)
    (hs : (sA, listOf sv.toArray n) ∈ n1) (hsi : IntsAre sv rs) (hsl : rs.length ≤ 70) (hm : (c, o) ∈ n1) (hdat : o.data = .cell v₀) (hc : cl.lookup (Str.ofString "aig") = some c)
    (k : ∀ a h' news', Fr h₀ L h' m → News h₀ L h' news' → LS prog w a sA c news' [none] [] → a.x = x → Q () { s with heap := h' })
    (hk : cs.kind = .function := by rfl) (hx : (envX cn cs L fa ccd cl).kindOf (Str.ofString "aig") = some .cell := by rfl) : wpAny (model prog w) A (storeName (envX cn cs L fa ccd cl) (Str.ofString "aig") (.ref x)) Q E s := by
  have ns : sA ≠ nA := Nat.ne_of_lt (allLt an _ hs)
  have ni : sA ≠ iA := Nat.ne_of_lt (allLt ai _ hs)
  have sub : ∀ p ∈ n1, p ∈ ((tA, ot) :: (oA, o3) :: (iA, listOf ([] : List Value).toArray m2) :: (nA, listOf [Value.none].toArray m1) :: (x, instObj 152 dx) :: (dx, aigD h1 h2 h3 h4 t1 t2 t3 t4 nA iA oA tA dn) :: n1 : Ledger) := fun p hp => by repeat (first | exact hp | refine List.mem_cons_of_mem _ ?_)
  have hm' := sub _ hm
  have hs' := sub _ hs
  refine cell_ok F N hc hm' hdat (fun h' news' o' F' N' keep hin hd' => ?_) hk hx
  have q : ∀ {b : Addr} {ob : Obj}, (b, ob) ∈ ((tA, ot) :: (oA, o3) :: (iA, listOf ([] : List Value).toArray m2) :: (nA, listOf [Value.none].toArray m1) :: (x, instObj 152 dx) :: (dx, aigD h1 h2 h3 h4 t1 t2 t3 t4 nA iA oA tA dn) :: n1 : Ledger) → ob.data ≠ o.data → (b, ob) ∈ news' := fun {b ob} hb hne => keep _ hb (ne_of_data N hb hm' hne)
  refine k ⟨x, dx, nA, iA, oA, tA, h1, h2, h3, h4, t1, t2, t3, t4, dn⟩ h' news' F' N' (LS.first (q (by k_mem) ?_) (q (by k_mem) ?_) (q (by k_mem) ?_) (q (by k_mem) ?_) (q (by k_mem) ?_) hd (Nat.ne_of_lt hap) (Nat.ne_of_lt hap2) lo (q hs' ?_) hsi hsl hin hd' ns ni) rfl
  · rw [hdat]; exact fun h => nomatch h
  · rw [hdat]; exact fun h => nomatch h
  · rw [hdat]; exact fun h => nomatch h
  · rw [hdat]; exact fun h => nomatch h
  · obtain ⟨es, ep, _, e, _⟩ := hd
    rw [hdat, e]; exact fun h => nomatch h
  · rw [hdat]; exact fun h => nomatch h
end
end
section
section
variable {prog : Program} {w : World} {a : GA} {sA c : Addr} {news own : Ledger} {G : Graph} {ins : List Int}
/-- what the law keeps, with the loop's own things beside it -/
structure LO (prog : Program) (w : World) (a : GA) (sA c : Addr) (own news : Ledger) (G : Graph) (ins : List Int) : Prop where
  ls : LS prog w a sA c news G ins
  mem : ∀ p ∈ own, p ∈ news
  nS : ∀ p ∈ own, p.1 ≠ sA
  nN : ∀ p ∈ own, p.1 ≠ a.nA
  nT : ∀ p ∈ own, p.1 ≠ a.tA
  nI : ∀ p ∈ own, p.1 ≠ a.iA
theorem LS.lo0 (S : LS prog w a sA c news G ins) : LO prog w a sA c [] news G ins :=
  ⟨S, by simp, by simp, by simp, by simp, by simp⟩
theorem LS.lo (S : LS prog w a sA c news G ins) (off : OwnOff own (news.map (·.1))) : LO prog w a sA c own (news ++ own) G ins where
  ls := S.mono fun _ hp => List.mem_append_left _ hp
  mem := fun _ hp => List.mem_append_right _ hp
  nS := let ⟨_, _, _, q, _⟩ := S.sup; own_ne off q
  nN := let ⟨_, _, q, _⟩ := S.gr.nodes; own_ne off q
  nT := let ⟨_, q, _⟩ := S.gr.tab; own_ne off q
  nI := let ⟨_, _, q, _⟩ := S.gr.inps; own_ne off q
theorem LO.all {P : Prop} (S : LO prog w a sA c own news G ins)
    (k : ∀ oc nv nn, (c, oc) ∈ news → oc.data = .cell (some (.ref a.x)) → (a.x, instObj 152 a.dx) ∈ news → (a.dx, aigD a.h1 a.h2 a.h3 a.h4 a.t1 a.t2 a.t3 a.t4 a.nA a.iA a.oA a.tA a.dn) ∈ news →
      (a.nA, listOf nv.toArray nn) ∈ news → NodesAre news nv G → nv.length = G.length → P) : P :=
  let ⟨oc, h1, h2⟩ := S.ls.cell; let ⟨nv, nn, h3, h4⟩ := S.ls.gr.nodes; k oc nv nn h1 h2 S.ls.gr.hx S.ls.gr.hdx h3 h4 h4.1
theorem LO.one {P : Prop} (S : LO prog w a sA c own news G ins) (k : ∀ oc, (c, oc) ∈ news → oc.data = .cell (some (.ref a.x)) → P) : P :=
  let ⟨oc, h1, h2⟩ := S.ls.cell; k oc h1 h2
variable {dp un : Nat} {gd : Option (List Code)} {cn : Str} {cs : Scope} {ad : Addr} {ccd : Value} {cl : List (Str × Addr)} {outer : List Env} {A₀ : Around} {base h₀ : Heap} {L : Addr} {m : Str → Option Value} {s : Shared}
  {p : Program} {loose : List Str} {mean : ExcName → Option Value} {mg mb : Str → Option Value} {Q E : Value → Shared → Prop}
theorem take_LO {many : Int} {tm : Tok} (B : Below A₀ base outer h₀) (F : Fr h₀ L s.heap m) (X : (hd.heap_39 w.params).In h₀) (N : News h₀ L s.heap news) (T : Top p loose mean mg mb h₀) (hk : cs.kind = .function)
    (S : LO prog w a sA c own news G ins) (hm : 0 < many) (hd : dp + 2 < recursionLimit) (hu : un + 80 < cLine)
    (ret : ∀ k t h' news' tk', 0 ≤ k → k < many → LO prog w a sA c own news' G ins → Fr h₀ L h' m → News h₀ L h' news' → Q (.int k t) { s with heap := h', toks := tk' }) :
    wpAny (model prog w) (ktrTop dp un gd cn cs L ad ccd cl outer) (call (.ref 170) [.ref sA, .int many tm]) Q E s := by
  obtain ⟨sv, sn, sr, hs, hsi, hsl⟩ := S.ls.sup
  refine Tel.use B F X N T hk (take_ok hs hsi hm (Nat.le_trans hsl (by decide))) hd hu ?_
  rintro q n' h' tk' ⟨k, t, sv', sn', sr', rfl, k0, k1, hs', hsi', hsl', keep⟩ F' N'
  exact ret k t h' n' tk' k0 k1 ⟨S.ls.take N keep hs' hsi' (Nat.le_trans hsl' hsl), fun p hp => keep p (S.mem p hp) (S.nS p hp), S.nS, S.nN, S.nT, S.nI⟩ F' N'
theorem takeN_LO {many : Int} {tm : Tok} (B : Below A₀ base outer h₀) (F : Fr h₀ L s.heap m) (X : (hd.heap_39 w.params).In h₀) (N : News h₀ L s.heap news) (T : Top p loose mean mg mb h₀) (hk : cs.kind = .function)
    (S : LO prog w a sA c own news G ins) (hm : 0 < many) (hd : dp + 2 < recursionLimit) (hu : un + 80 < cLine)
    (ret : ∀ (k : Nat) t h' news' tk', (k : Int) < many → LO prog w a sA c own news' G ins → Fr h₀ L h' m → News h₀ L h' news' → Q (.int (k : Int) t) { s with heap := h', toks := tk' }) :
    wpAny (model prog w) (ktrTop dp un gd cn cs L ad ccd cl outer) (call (.ref 170) [.ref sA, .int many tm]) Q E s := by
  refine take_LO B F X N T hk S hm hd hu ?_
  intro k t h' n' tk' k0
  obtain ⟨j, rfl⟩ := Int.eq_ofNat_of_zero_le k0
  exact ret j t h' n' tk'
theorem input_LO (B : Below A₀ base outer h₀) (F : Fr h₀ L s.heap m) (X : (hd.heap_39 w.params).In h₀) (N : News h₀ L s.heap news) (T : Top p loose mean mg mb h₀) (hk : cs.kind = .function)
    (S : LO prog w a sA c own news G ins) (hG : G.length ≤ 400) (hI : ins.length ≤ 400) (hd : dp + 3 < recursionLimit) (hu : un + 20 < cLine)
    (ret : ∀ q h' news' tk', LO prog w a sA c own news' (G ++ [none]) (ins ++ [(G.length : Int)]) → Fr h₀ L h' m → News h₀ L h' news' → Q q { s with heap := h', toks := tk' }) :
    wpAny (model prog w) (ktrTop dp un gd cn cs L ad ccd cl outer) (call (.ref 78) [.ref a.x]) Q E s := by
  refine Tel.use B F X N T hk (input_ok S.ls.gr hG hI) hd hu ?_
  rintro q n' h' tk' ⟨gr, fr⟩ F' N'
  exact ret q h' n' tk' ⟨S.ls.inp N gr S.ls.wf.input fr, fun p hp => fr p (S.mem p hp) (S.nN p hp) (S.nI p hp), S.nS, S.nN, S.nT, S.nI⟩ F' N'
theorem land_LO {l r : Int} {tl tr : Tok} (B : Below A₀ base outer h₀) (F : Fr h₀ L s.heap m) (X : (hd.heap_39 w.params).In h₀) (N : News h₀ L s.heap news) (T : Top p loose mean mg mb h₀) (hk : cs.kind = .function)
    (S : LO prog w a sA c own news G ins) (hl0 : 0 ≤ l) (hl : l < 2 * G.length) (hr0 : 0 ≤ r) (hr : r < 2 * G.length) (hG : G.length ≤ 400) (hd : dp + 3 < recursionLimit) (hu : un + 20 < cLine)
    (ret : ∀ G' k t h' news' tk', LO prog w a sA c own news' G' ins → G.length ≤ G'.length → G'.length ≤ G.length + 1 → Fr h₀ L h' m → News h₀ L h' news' → Q (.int k t) { s with heap := h', toks := tk' }) :
    wpAny (model prog w) (ktrTop dp un gd cn cs L ad ccd cl outer) (call (.ref 99) [.ref a.x, .int l tl, .int r tr]) Q E s := by
  refine Tel.use B F X N T hk (land_ok S.ls.gr S.ls.wf hl0 hl hr0 hr hG) hd hu ?_
  rintro q n' h' tk' ⟨G', k, t, rfl, gr, ld, fr, _⟩ F' N'
  exact ret G' k t h' n' tk' ⟨S.ls.op N gr ld.wf fr, fun p hp => fr p (S.mem p hp) (S.nN p hp) (S.nT p hp), S.nS, S.nN, S.nT, S.nI⟩ ld.pre.length_le ld.len F' N'
theorem joined_LO {l r lines : Int} {tl tr tn : Tok} (B : Below A₀ base outer h₀) (F : Fr h₀ L s.heap m) (X : (hd.heap_39 w.params).In h₀) (N : News h₀ L s.heap news) (T : Top p loose mean mg mb h₀) (hk : cs.kind = .function)
    (S : LO prog w a sA c own news G ins) (hl0 : 0 ≤ l) (hl : l < 2 * G.length) (hr0 : 0 ≤ r) (hr : r < 2 * G.length) (hG : G.length ≤ 300)
    (hL : Lines lines) (h0 : (0 : Int) ∉ ins) (hI : ins.length ≤ 4) (hd : dp + 12 < recursionLimit) (hu : un + 200 < cLine)
    (ret : ∀ G' k t h' news' tk', LO prog w a sA c own news' G' ins → G.length ≤ G'.length → G'.length ≤ G.length + 1 → Fr h₀ L h' m → News h₀ L h' news' → Q (.int k t) { s with heap := h', toks := tk' }) :
    wpAny (model prog w) (ktrTop dp un gd cn cs L ad ccd cl outer) (call (.ref 189) [.ref a.x, .int l tl, .int r tr, .int lines tn]) Q E s := by
  refine Tel.use B F X N T hk (joined_ok S.ls.gr S.ls.wf hl0 hl hr0 hr hG hL h0 hI) hd hu ?_
  rintro q n' h' tk' ⟨G', k, t, rfl, gr, sm, fr⟩ F' N'
  exact ret G' k t h' n' tk' ⟨S.ls.op N gr sm.land.wf fr, fun p hp => fr p (S.mem p hp) (S.nN p hp) (S.nT p hp), S.nS, S.nN, S.nT, S.nI⟩ sm.land.pre.length_le sm.land.len F' N'
theorem rules_LO {i : Nat} {l r lines : Int} {ti tn : Tok} (B : Below A₀ base outer h₀) (F : Fr h₀ L s.heap m) (X : (hd.heap_39 w.params).In h₀) (N : News h₀ L s.heap news) (T : Top p loose mean mg mb h₀) (hk : cs.kind = .function)
    (S : LO prog w a sA c own news G ins) (hi0 : G[i]? = some (some (l, r))) (hG : G.length ≤ 200) (hL : Lines lines) (h0 : (0 : Int) ∉ ins) (hI : ins.length ≤ 4) (hd : dp + 14 < recursionLimit) (hu : un + 300 < cLine)
    (ret : ∀ G' h' news' tk', LO prog w a sA c own news' G' ins → G <+: G' → G'.length ≤ G.length + 1 → (∀ p ∈ news, p.1 ≠ a.nA → p.1 ≠ a.tA → p ∈ news') → Fr h₀ L h' m → News h₀ L h' news' → Q (.bool true) { s with heap := h', toks := tk' }) :
    wpAny (model prog w) (ktrTop dp un gd cn cs L ad ccd cl outer) (call (.ref 196) [.ref a.x, .int (i : Int) ti, .int lines tn]) Q E s := by
  refine Tel.use B F X N T hk (rules_ok S.ls.gr S.ls.wf hi0 hG hL h0 hI) hd hu ?_
  rintro q n' h' tk' ⟨G', rfl, gr, wf, pre, len, fr⟩ F' N'
  exact ret G' h' n' tk' ⟨S.ls.op N gr wf fr, fun p hp => fr p (S.mem p hp) (S.nN p hp) (S.nT p hp), S.nS, S.nN, S.nT, S.nI⟩ pre len fr F' N'
theorem supply_K {vs : List Value} {ns : List Int} (hi : IntsAre vs ns) (hz : ns.length ≤ 63) (hL : h₀.IsList sA vs.toArray) (B : Below A₀ base outer h₀) (F : Fr h₀ L s.heap m) (X : (hd.heap_39 w.params).In h₀) (N : News h₀ L s.heap news) (T : Top p loose mean mg mb h₀) (hk : cs.kind = .function)
    (hd : dp + 2 < recursionLimit) (hu : un + 20 < cLine)
    (ret : ∀ rA rv n rs h' news' tk', (rA, listOf rv.toArray n) ∈ news' → IntsAre rv rs → rs.length ≤ 70 → (∀ p ∈ news, p ∈ news') → Fr h₀ L h' m → News h₀ L h' news' → Q (.ref rA) { s with heap := h', toks := tk' }) :
    wpAny (model prog w) (ktrTop dp un gd cn cs L ad ccd cl outer) (call (.ref 163) [.ref sA]) Q E s := by
  refine supply_ok hi hz _ _ _ _ _ _ _ _ _ _ _ _ _ _ _ _ _ _ _ _ _ _ hL B F X N T hk hd hu ?_
  rintro q n' h' tk' ⟨rA, rv, n, rs, rfl, hs, hsi, hsl, sub⟩ F' N'
  exact ret rA rv n rs h' n' tk' hs hsi hsl sub F' N'
end
end
section
theorem len_pos2 {n g : Nat} (e : n = g) (h : 3 ≤ g) : (0 : Int) < 2 * (n : Int) - 2 := by omega
theorem len_pos {n g : Nat} (e : n = g) (h : 3 ≤ g) : (0 : Int) < 2 * (n : Int) := by omega
theorem fmod_room (a : Int) {n : Int} (h : 0 < n) : 0 ≤ a.fmod n ∧ a.fmod n < n := by
  rw [Int.fmod_eq_emod_of_nonneg a (Int.le_of_lt h)]
  exact ⟨Int.emod_nonneg a (Int.ne_of_gt h), Int.emod_lt_of_pos a h⟩
/-- of a frame keep one name, or two -/
theorem fr_any {h₀ h : Heap} {L : Addr} {m : Str → Option Value} (F : Fr h₀ L h m) : ∃ m' : Str → Option Value, Fr h₀ L h m' := ⟨m, F⟩
theorem fr_keep1 {h₀ h : Heap} {L : Addr} {m : Str → Option Value} {k1 : Str} {v1 : Option Value} (F : Fr h₀ L h m) (e1 : m k1 = v1) : ∃ m' : Str → Option Value, Fr h₀ L h (fun y => if y = k1 then v1 else m' y) := ⟨m, fr_name e1 F⟩
theorem fr_keep2 {h₀ h : Heap} {L : Addr} {m : Str → Option Value} {k1 k2 : Str} {v1 v2 : Option Value} (F : Fr h₀ L h m) (e1 : m k1 = v1) (e2 : m k2 = v2) : ∃ m' : Str → Option Value, Fr h₀ L h (fun y => if y = k1 then v1 else if y = k2 then v2 else m' y) :=
  ⟨m, by
    have F' := fr_names3 (k1 := k1) (k2 := k2) (k3 := k2) F e1 e2 e2
    have e : (fun y => if y = k1 then v1 else if y = k2 then v2 else if y = k2 then v2 else m y) = fun y => if y = k1 then v1 else if y = k2 then v2 else m y := by
      funext y
      by_cases h : y = k2
      · simp only [if_pos h]
      · simp only [if_neg h]
    rw [e] at F'; exact F'⟩
/-- is there a conjunction at this place -/
def nodeAt (G : Graph) (i : Int) : Bool := match G[i.toNat]? with
  | some (some _) => true
  | _ => false
theorem nodes_fold (G : Graph) (n : Nat) : ∀ k ∈ (rangeKs 0 n).foldl (fun l i => if nodeAt G i then l ++ [i] else l) [], 0 ≤ k ∧ nodeAt G k = true := by
  induction n with
  | zero => intro k h; simp [rangeKs] at h
  | succ n ih =>
    have e : rangeKs 0 (n + 1) = rangeKs 0 n ++ [(n : Int)] := by simp [rangeKs, List.range_succ]
    rw [e, List.foldl_append, List.foldl_cons, List.foldl_nil]
    intro k hk
    split at hk
    · rename_i hn
      rcases List.mem_append.mp hk with h | h
      · exact ih k h
      · rw [List.mem_singleton.mp h]; exact ⟨by omega, hn⟩
    · exact ih k hk
theorem nodeAt_some {G : Graph} {i : Nat} (h : nodeAt G (i : Int) = true) : ∃ l r, G[i]? = some (some (l, r)) := by
  unfold nodeAt at h
  rw [Int.toNat_natCast] at h
  split at h
  · rename_i p e
    exact ⟨p.1, p.2, e⟩
  · cases h
theorem ints_mem {vs : List Value} {ns : List Int} (h : IntsAre vs ns) {i : Nat} {v : Value} (e : vs[i]? = some v) : ∃ k u, v = .int k u ∧ k ∈ ns := by
  have hi := (List.getElem?_eq_some_iff.mp e).1
  have hl := h.length
  obtain ⟨t, q⟩ := h.get i _ (List.getElem?_eq_getElem (by omega))
  exact ⟨_, t, Option.some.inj (e.symm.trans q), List.getElem_mem _⟩
theorem len_lt {n g : Nat} {k : Int} (e : n = g) (h : k < 2 * (n : Int)) : k < 2 * (g : Int) := by omega
theorem len_lt2 {n g : Nat} {k : Int} (e : n = g) (h : k < 2 * (n : Int) - 2) : k < 2 * (g : Int) - 2 := by omega
theorem lines_of {j : Nat} (h : (j : Int) < 3) : Lines (2 ^ Int.toNat (2 + (j : Int))) := by
  have h3 : j = 0 ∨ j = 1 ∨ j = 2 := by omega
  rcases h3 with rfl | rfl | rfl
  · exact .inl rfl
  · exact .inr (.inl rfl)
  · exact .inr (.inr rfl)
theorem spot_of {P : Prop} {vs : List Value} {inn : List Int} {G G' : Graph} {i n : Nat} {v : Value} (hI : IntsAre vs (inn.take n)) (hv : vs[i]? = some v) (hf : ∀ k ∈ inn, 0 ≤ k ∧ nodeAt G k = true) (pre : G <+: G')
    (k : ∀ (j : Nat) u l r, v = .int (j : Int) u → G'[j]? = some (some (l, r)) → i < n → P) : P := by
  obtain ⟨k', u, rfl, hk⟩ := ints_mem hI hv
  obtain ⟨hk0, hk1⟩ := hf k' (List.mem_of_mem_take hk)
  obtain ⟨j, rfl⟩ := Int.eq_ofNat_of_zero_le hk0
  obtain ⟨l, r, hN⟩ := nodeAt_some hk1
  refine k j u l r rfl (get_pre pre _ _ hN) ?_
  have h1 := (List.getElem?_eq_some_iff.mp hv).1
  have h2 := hI.length
  rw [List.length_take] at h2
  omega
set_option maxRecDepth 100000 in
set_option maxHeartbeats 8000000 in
theorem law_holds : PySem.Challenge.rw_on0101_01.Holds := hd (by
  k_with_none
  k_with "subscriptTail" => (k_here; (with_reducible show wpAny _ _ (subscriptTail _ _ (Value.ref _) (Value.int (Int.fdiv _ _) _)) _ _ _); k_dflt (refine' idx_half ?N ?hm ?hk ?hl ?h0 ?hx ?_ ?hs; (case N => k_asm); (case hm => k_mem); (case hk => exact shr1 _); (case hl => assumption); (case h0 => assumption); (case hx => assumption); (case hs => with_unfolding_all rfl); k_whole))
  k_with "compareOp In int ref" => (k_here; k_dflt (refine' in_pair ?N ?hm ?_; (case N => k_asm); (case hm => k_mem)))
  k_with "call builtin:len" => (k_here; (with_reducible show wpAny _ _ (call (Value.builtin "len") [Value.ref _]) _ _ _); k_dflt (refine' len_ok ?N ?hm ?hz ?_; (case N => k_asm); (case hm => k_mem); (case hz => omega)))
  k_with "exec While Compare cons nil" => (k_here; refine Held.out ?_)
  k_with "call ref" => (k_here; (first | (with_reducible show wpAny _ _ (call (Value.ref 163) _ _) _ _ _) | (with_reducible show wpAny _ _ (call (Value.ref 170) _ _) _ _ _) | (with_reducible show wpAny _ _ (call (Value.ref 189) _ _) _ _ _) | (with_reducible show wpAny _ _ (call (Value.ref 196) _ _) _ _ _) | (with_reducible show wpAny _ _ (call (Value.ref 78) _ _) _ _ _) | (with_reducible show wpAny _ _ (call (Value.ref 99) _ _) _ _ _)); refine Held.out ?_)
  k_with "call builtin:sum" => (k_here; k_dflt (refine' sum_ok ?hh ?F ?N ?hm ?hi ?_; (case hh => rfl); (case F => k_asm); (case N => k_asm); (case hm => k_mem); (case hi => assumption)); (intros; (try dsimp only); (try k_fold)))
  k_with "eval ListComp" => (k_here; k_dflt (refine LCt.ListComp_T (F₀ := by k_asm) (by with_unfolding_all rfl) (by decide) (by rfl) (by decide) (by rfl) ?_))
  k_with "CompSrcT" => (k_here; refine Held.out ?_)
  k_with "subscriptTail" => (k_here; (with_reducible show wpAny _ _ (subscriptTail _ _ (Value.ref _) (Value.int (Nat.cast _) _)) _ _ _); k_dflt (refine' idx_at ?N ?hm ?hl ?hx ?_ ?hs; (case N => k_asm); (case hm => k_mem); (case hx => assumption); (case hl => assumption); (case hs => with_unfolding_all rfl); k_whole))
  k_with "call type:range" => ((rename Fr _ _ _ _ => F'); (rename News _ _ _ _ => N'); (with_unfolding_all refine range1_rows F' N' ?_; intro _ _ _ _ _ _ _ _ _))
  k_with "exec For Name Subscript cons nil" => (k_here; (rename Fr _ _ _ _ => lF'); (with_unfolding_all refine' For_invVF lF' ?k1 ?k2 ?_; (case k1 => exact rfl); (case k2 => exact rfl); k_whole))
  k_with "exec For Name Call cons nil" => (k_here; (rename Fr _ _ _ _ => lF'); (with_unfolding_all refine' For_invVF lF' ?k1 ?k2 ?_; (case k1 => exact rfl); (case k2 => exact rfl); k_whole))
  k_with "pyIter ref" => ((with_reducible show wpAny _ _ (pyIter (Value.ref _)) (fun it s₂ => LoopAtV _ _ _ _ _ _ _ _ _ it s₂) _ _); k_here; refine Held.out ?_)
  k_go0
  (all_goals try k_fold)
  k_steps
  refine Held.take ?_
  (with_reducible rename Fr _ _ _ _ => F0)
  replace F0 := fr_any F0
  refine ex1 F0 fun m0 F0 => ?_
  (with_reducible rename IntsAre _ _ => hI9)
  rename World => w
  k_dflt (refine' supply_K hI9 ?hz ?hL ?k1 ?k2 ?k3 ?k4 ?k5 ?kK ?kd ?ku ?_)
  case hz => omega
  case hL => assumption
  ktr_rel
  intro sA sv1 sn1 sr1 h1 n1 tk1 hs1 hsi1 hsl1 sub1 F1 N1
  (try dsimp only); (try k_fold)
  k_steps
  k_dflt (refine' start_ok ?F ?N ?hd ?lo ?hap ?hap2 ?an ?ai ?hs ?hsi ?hsl ?hm ?hdat ?hc ?_ ?hk ?hx)
  case F => k_asm
  case N => k_asm
  case hd => assumption
  case lo => assumption
  case hap => (try dsimp only); omega
  case hap2 => (try dsimp only); omega
  case an => simp only [AllLt] at *; simp only [*]
  case ai => simp only [AllLt] at *; simp only [*]
  case hs => exact hs1
  case hsi => exact hsi1
  case hsl => exact hsl1
  case hm => exact sub1 _ (List.mem_singleton.mpr rfl)
  case hdat => assumption
  case hc => rfl
  case hk => rfl
  case hx => rfl
  intro a h2 n2 F2 N2 S2 ea
  clear ea
  iterate 4 ((with_reducible rename (_ ∧ _) => z9); clear z9)
  clear hs1 hsi1 hsl1
  replace S2 := S2.lo0
  refine S2.one fun oc2 hc2 hcd2 => ?_
  (try dsimp only); (try k_fold)
  k_steps
  refine Held.take ?_
  k_dflt (refine' takeN_LO ?k1 ?k2 ?k3 ?k4 ?k5 ?kK S2 (by decide) ?kd ?ku ?_)
  ktr_rel
  intro j t h3 n3 tk3 k1 S3 F3 N3
  clear S2 hc2 N2 F2
  (try dsimp only); (try k_fold)
  k_steps
  refine Held.take ?_
  (with_reducible rename IsRange _ _ _ _ _ _ _ _ => hR4); (with_reducible rename News _ _ _ _ => N4); (with_reducible rename Fr _ _ _ _ => F4)
  with_unfolding_all refine range_one (n := 2 + j) (fun i nx => ∃ G ins, LS _ w a sA _ nx G ins ∧ G.length = 1 + i ∧ ins.length = i ∧ (0 : Int) ∉ ins) rfl (by exact hR4) (by omega) (by exact F4) (by exact N4) ⟨_, _, S3.ls, rfl, rfl, by simp⟩ (fun i ti nx h5 tk5 own5 hi5 hoff5 hcls5 J5 F5 N5 => ?_) (fun u5 nx h5 tk5 J5 F5 N5 => ?_)
  · refine ex5 J5 fun G ins S5 l1 l2 l3 => ?_
    clear J5
    have S5' := S5.lo hoff5
    refine S5'.all fun oc5 nv5 nn5 hc5 hcd5 hx5 hdx5 hn5 hnodes5 hnl5 => ?_
    clear hn5 hnodes5 hnl5
    (try dsimp only); (try k_fold)
    k_steps
    refine Held.take ?_
    k_dflt (refine' input_LO ?k1 ?k2 ?k3 ?k4 ?k5 ?kK S5' (by omega) (by omega) ?kd ?ku ?_)
    ktr_rel
    intro q6 h6 n6 tk6 S6 F6 N6
    (try dsimp only); (try k_fold)
    k_steps
    with_unfolding_all exact InvEndG.intro (nx := strip n6 own5) (by k_asm) (by k_asm) ⟨⟨_, _, S5.strip hoff5 N6 S6.mem hcls5 (by decide) S6.ls, by simp; omega, by simp; omega, by simp [l1, l3]; omega⟩, fun z hz => if_neg hz⟩ strip_off strip_sub S6.mem
  · refine ex5 J5 fun G ins S5 l1 l2 l3 => ?_
    clear J5
    replace S5 := S5.lo0
    refine S5.one fun oc5 hc5 hcd5 => ?_
    (try dsimp only); (try k_fold)
    k_steps
    refine Held.take ?_
    (with_reducible rename Fr _ _ _ _ => F6); (with_reducible rename News _ _ _ _ => N6)
    have hLn := lines_of k1
    generalize (2 : Int) ^ Int.toNat (2 + (j : Int)) = lines at F6 hLn
    refine ex1 (fr_keep2 (k1 := Str.ofString "supply") (k2 := Str.ofString "lines") F6 (by with_unfolding_all rfl) (by with_unfolding_all rfl)) fun m6 F6 => ?_
    have g1 : 3 ≤ G.length := by omega
    have g2 : G.length ≤ 5 := by omega
    have hI4 : ins.length ≤ 4 := by omega
    clear l1 l2 k1
    k_dflt (refine' takeN_LO ?k1 ?k2 ?k3 ?k4 ?k5 ?kK S5 (by decide) ?kd ?ku ?_)
    ktr_rel
    intro j7 t7 h7 n7 tk7 k71 S7 F7 N7
    clear S5 hc5 N5 F5 N6 F6
    (try dsimp only); (try k_fold)
    k_steps
    refine Held.take ?_
    (with_reducible rename IsRange _ _ _ _ _ _ _ _ => hR8); (with_reducible rename News _ _ _ _ => N8); (with_reducible rename Fr _ _ _ _ => F8)
    with_unfolding_all refine range_one (n := 1 + j7) (fun i nx => ∃ G, LS _ w a sA _ nx G ins ∧ 3 ≤ G.length ∧ G.length ≤ 5 + i) rfl (by exact hR8) (by omega) (by exact F8) (by exact N8) ⟨_, S7.ls, g1, g2⟩ (fun i ti nx h9 tk9 own9 hi9 hoff9 hcls9 J9 F9 N9 => ?_) (fun u9 nx h9 tk9 J9 F9 N9 => ?_)
    · clear g1 g2
      refine ex3 J9 fun G S9 g1 g2 => ?_
      clear J9
      have S9' := S9.lo hoff9
      refine S9'.all fun oc9 nv9 nn9 hc9 hcd9 hx9 hdx9 hn9 hnodes9 hnl9 => ?_
      (try dsimp only); (try k_fold)
      k_steps
      refine Held.take ?_
      k_dflt (refine' take_LO ?k1 ?k2 ?k3 ?k4 ?k5 ?kK S9' (len_pos2 hnl9 g1) ?kd ?ku ?_)
      ktr_rel
      intro k10 t10 h10 n10 tk10 k100 k101 S10 F10 N10
      replace k101 := len_lt2 hnl9 k101
      clear hc9 hx9 hdx9 hn9 hnl9
      refine S10.all fun oc10 nv10 nn10 hc10 hcd10 hx10 hdx10 hn10 hnodes10 hnl10 => ?_
      (try dsimp only); (try k_fold)
      k_steps
      refine Held.take ?_
      k_dflt (refine' take_LO ?k1 ?k2 ?k3 ?k4 ?k5 ?kK S10 (len_pos hnl10 g1) ?kd ?ku ?_)
      ktr_rel
      intro k11 t11 h11 n11 tk11 k110 k111 S11 F11 N11
      clear hc10 hx10 hdx10 hn10
      refine S11.all fun oc11 nv11 nn11 hc11 hcd11 hx11 hdx11 hn11 hnodes11 hnl11 => ?_
      have f2 := (fmod_room (3 + k11) (len_pos2 hnl11 g1)).1
      have f3 := (fmod_room (3 + k11) (len_pos2 hnl11 g1)).2
      (try dsimp only); (try k_fold)
      k_steps
      refine Held.take ?_
      k_dflt (refine' land_LO ?k1 ?k2 ?k3 ?k4 ?k5 ?kK S11 (by omega) (by omega) (by omega) (by omega) (by omega) ?kd ?ku ?_)
      ktr_rel
      intro G12 k12 t12 h12 n12 tk12 S12 g3 g4 F12 N12
      (try dsimp only); (try k_fold)
      k_steps
      with_unfolding_all exact InvEndG.intro (nx := strip n12 own9) (by k_asm) (by k_asm) ⟨⟨_, S9.strip hoff9 N12 S12.mem hcls9 (by decide) S12.ls, by omega, by omega⟩, fun z hz => if_neg hz⟩ strip_off strip_sub S12.mem
    · clear g1 g2
      refine ex3 J9 fun G S9 g1 g2 => ?_
      clear J9
      refine S9.lo0.one fun oc9 hc9 hcd9 => ?_
      refine ex1 (fr_keep2 (k1 := Str.ofString "supply") (k2 := Str.ofString "lines") F9 (by with_unfolding_all rfl) (by with_unfolding_all rfl)) fun m9 F9 => ?_
      replace g2 : G.length ≤ 12 := by omega
      clear k71
      (try dsimp only); (try k_fold)
      k_steps
      refine Held.take ?_
      (with_reducible rename IsRange _ _ _ _ _ _ _ _ => hR13); (with_reducible rename News _ _ _ _ => N13); (with_reducible rename Fr _ _ _ _ => F13)
      with_unfolding_all refine range_loop (n := 3) (fun i m nx => m (Str.ofString "supply") = some (Value.ref sA) ∧ (∃ tl, m (Str.ofString "lines") = some (Value.int lines tl)) ∧ ∃ G, LS _ w a sA _ nx G ins ∧ 3 ≤ G.length ∧ G.length ≤ 12 + 2 * i) rfl (by exact hR13) (by omega) (by exact F13) (by exact N13) ⟨rfl, ⟨_, rfl⟩, _, S9, g1, g2⟩ (fun i ti m14 nx h14 tk14 own14 hi14 hoff14 hcls14 J14 F14 N14 => ?_) (fun m14 nx h14 tk14 J14 F14 N14 => ?_)
      · clear g1 g2
        refine ex6 J14 fun tl G e1 e2 S14 g3 g4 => ?_
        clear J14
        refine ex1 (fr_keep2 F14 ((if_neg (by decide)).trans e1) ((if_neg (by decide)).trans e2)) fun m15 F14 => ?_
        clear e1 e2
        have S14' := S14.lo hoff14
        refine S14'.all fun oc14 nv14 nn14 hc14 hcd14 hx14 hdx14 hn14 hnodes14 hnl14 => ?_
        (try dsimp only); (try k_fold)
        k_steps
        refine Held.take ?_
        k_dflt (refine' take_LO ?k1 ?k2 ?k3 ?k4 ?k5 ?kK S14' (len_pos hnl14 g3) ?kd ?ku ?_)
        ktr_rel
        intro k15 t15 h15 n15 tk15 k150 k151 S15 F15 N15
        replace k151 := len_lt hnl14 k151
        clear hc14 hx14 hdx14 hn14 hnl14
        refine S15.all fun oc15 nv15 nn15 hc15 hcd15 hx15 hdx15 hn15 hnodes15 hnl15 => ?_
        (try dsimp only); (try k_fold)
        k_steps
        refine Held.take ?_
        (with_reducible rename News _ _ _ _ => N15')
        k_dflt (refine' take_LO ?k1 ?k2 ?k3 ?k4 ?k5 ?kK S15 (len_pos hnl15 g3) ?kd ?ku ?_)
        ktr_rel
        intro k16 t16 h16 n16 tk16 k160 k161 S16 F16 N16
        clear hc15 hx15 hdx15 hn15 hnl15
        refine S16.all fun oc16 nv16 nn16 hc16 hcd16 hx16 hdx16 hn16 hnodes16 hnl16 => ?_
        have f2 := (fmod_room (5 + k16) (len_pos hnl16 g3)).1
        have f3 := (fmod_room (5 + k16) (len_pos hnl16 g3)).2
        (try dsimp only); (try k_fold)
        k_steps
        refine Held.take ?_
        generalize (5 + k16).fmod (2 * (nv16.length : Int)) = kb at *
        replace f3 := len_lt hnl16 f3
        have g9 : G.length ≤ 300 := by omega
        clear k160 k161 hnl16
        (with_reducible rename News _ _ _ _ => N16')
        k_dflt (refine' joined_LO ?k1 ?k2 ?k3 ?k4 ?k5 ?kK S16 k150 k151 f2 f3 g9 hLn l3 hI4 ?kd ?ku ?_)
        ktr_rel
        intro G17 k17 t17 h17 n17 tk17 S17 g5 g6 F17 N17
        clear hc16 hx16 hdx16 hn16
        refine S17.one fun oc17 hc17 hcd17 => ?_
        (try dsimp only); (try k_fold)
        k_steps
        refine Held.take ?_
        (with_reducible rename News _ _ _ _ => N17')
        k_dflt (refine' joined_LO ?k1 ?k2 ?k3 ?k4 ?k5 ?kK S17 f2 (by omega) k150 (by omega) (by omega) hLn l3 hI4 ?kd ?ku ?_)
        ktr_rel
        intro G18 k18 t18 h18 n18 tk18 S18 g7 g8 F18 N18
        (try dsimp only); (try k_fold)
        k_steps
        all_goals with_unfolding_all exact InvEndG.intro (nx := strip n18 own14) (by k_asm) (by k_asm) ⟨rfl, ⟨_, rfl⟩, _, S14.strip hoff14 N18 S18.mem hcls14 (by decide) S18.ls, by omega, by omega⟩ strip_off strip_sub S18.mem
      · clear g1 g2
        refine ex6 J14 fun tl G e1 e2 S14 g3 g4 => ?_
        clear J14
        refine ex1 (fr_keep1 F14 e2) fun m14 F14 => ?_
        clear e1 e2
        refine S14.lo0.all fun oc14 nv14 nn14 hc14 hcd14 hx14 hdx14 hn14 hnodes14 hnl14 => ?_
        have hnl14' : nv14.length < 1000 := by omega
        (try dsimp only); (try k_fold)
        k_steps
        refine Held.take ?_
        (with_reducible rename IsRange _ _ _ _ _ _ _ _ => hR15); (with_reducible rename News _ _ _ _ => N15); (with_reducible rename Fr _ _ _ _ => F15)
        refine LCt.CompSrcT.range (n := nv14.length) (by rfl) F15 N15 hR15 (range_small nv14.length (by omega)).1 (range_small nv14.length (by omega)).2 (by rw [sizeLine_eq]; omega) (fun gh => ?_)
        refine kci_range (fun l i => if nodeAt G i then l ++ [i] else l) (fun k8 t8 I8 oI8 C8 oC8 D8 m8 ys8 l8 h8 tk8 E8 hlo8 hhi8 hI8 hC8 hx8 F8 N8 off8 ne8 mk8 => ?_) ?_ ?_
        · obtain ⟨i8, rfl⟩ := Int.eq_ofNat_of_zero_le hlo8
          have hi8 : i8 < G.length := by omega
          obtain ⟨v8, hv8, hvn8⟩ := hnodes14.2 i8 _ (List.getElem?_eq_getElem hi8)
          have hg8 := List.getElem?_eq_getElem hi8
          generalize G[i8] = g8 at hg8 hvn8
          rcases g8 with _ | ⟨lN, rN⟩
          · obtain rfl : v8 = .none := hvn8
            k_steps
            all_goals with_unfolding_all exact LCg.CompEnd.intro F8 N8 nx (fun p hp => hp) off8 trivial (kci_no (by rw [if_neg (by simp [nodeAt, hg8])]) rfl)
          · obtain ⟨pt, ptl, ptr, rfl, hpt⟩ := hvn8
            k_steps
            all_goals with_unfolding_all exact LCg.CompEnd.intro F8 N8 nx (fun p hp => hp) off8 trivial (kci_el (by rw [if_pos (by simp [nodeAt, hg8])]) rfl rfl)
        · unfold KPfDone
          intro ys hys hlen D hD tkD FD ND off1
          have hfold := nodes_fold G nv14.length
          have S16 : LS _ w a sA _ ((D, LCg.lst ys) :: nx) G ins := S14.mono fun p hp => List.mem_cons_of_mem _ hp
          clear hc14 hx14 hdx14 hn14
          have hyl := hys.length
          generalize (rangeKs 0 nv14.length).foldl (fun l i => if nodeAt G i then l ++ [i] else l) [] = inn at hys hfold hyl
          have hil : inn.length ≤ 1000 := by omega
          (try dsimp only); (try k_fold)
          k_steps
          refine Held.take ?_
          (with_reducible rename News _ _ _ _ => N17); (with_reducible rename Fr _ _ _ _ => F17); (with_reducible rename IntsAre _ _ => hI17)
          (with_reducible rename (_ ∧ AllLt _ _) => lk17)
          have kn := Nat.ne_of_gt (allLt lk17.2 _ S14.gr.nodes.choose_spec.choose_spec.1)
          have kt := Nat.ne_of_gt (allLt lk17.2 _ S14.gr.tab.choose_spec.1)
          with_unfolding_all refine list_one (fun i nx => ∃ G', LS _ w a sA _ nx G' ins ∧ G <+: G' ∧ G'.length ≤ 18 + i) rfl (by exact List.mem_cons_self) (by exact F17) (by exact N17) ⟨G, S16.mono (fun p hp => List.mem_cons_of_mem _ hp), List.prefix_refl _, by omega⟩ (fun i v nx h18 tk18 own18 hv18 hoff18 hcls18 hl18 J18 F18 N18 => ?_) (fun u18 nx h18 tk18 J18 F18 N18 => ?_)
          · refine ex3 J18 fun G' S18 g5 g6 => ?_
            clear J18
            refine spot_of hI17 hv18 hfold g5 fun i8 u lN rN ev hN' hi18 => ?_
            subst ev
            have S18' := S18.lo hoff18
            refine S18'.one fun oc18 hc18 hcd18 => ?_
            (try dsimp only); (try k_fold)
            k_steps
            refine Held.take ?_
            k_dflt (refine' rules_LO ?k1 ?k2 ?k3 ?k4 ?k5 ?kK S18' hN' (by omega) hLn l3 hI4 ?kd ?ku ?_)
            ktr_rel
            intro G19 h19 n19 tk19 S19 pre19 len19 fr19 F19 N19
            (try dsimp only); (try k_fold)
            k_steps
            all_goals with_unfolding_all exact InvEndG.intro (nx := strip n19 own18) (by k_asm) (by k_asm) ⟨strip_mem (fr19 _ (List.mem_append_left _ hl18) kn kt) (own_ne hoff18 hl18), ⟨G19, S18.strip hoff18 N19 S19.mem hcls18 (by decide) S19.ls, g5.trans pre19, by omega⟩, fun z hz => if_neg hz⟩ strip_off strip_sub S19.mem
          · (try dsimp only); (try k_fold)
            k_steps
        · intro l i
          dsimp only
          split <;> simp)
end
end Mine
theorem PySem.Challenge.cw_on0101_01_holds : PySem.Challenge.rw_on0101_01.Holds :=
  Mine.law_holds
