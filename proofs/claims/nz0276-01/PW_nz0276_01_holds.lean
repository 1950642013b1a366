import PyProof.Rows.All
import Wide.All
import OpenK.AllK
import Wide.FinOn
import PySem.Challenge.RW_nz0276_01
open PySem PySem.W PyProof.Rows
set_option Elab.async false
set_option maxRecDepth 100000
set_option maxHeartbeats 80000000

/-! ## Hd -/
section
open PySem PySem.W PyProof.Rows
namespace Mine
open_top hd for PySem.Challenge.rw_nz0276_01
end Mine
end

/-! ## Base -/
section
open PySem PySem.W PyProof.Rows PySem.Calls
namespace Mine

/-- a pair of ints as a datum -/
abbrev pd (p : Int × Int) : Dat := .tuple [.int p.1, .int p.2]
/-- the ledger bears a tuple of pairs at v -/
abbrev SetIn (news : List (Addr × Obj)) (v : Value) (l : List (Int × Int)) : Prop := DatIn news v (.tuple (l.map pd))

theorem pd_open {news : List (Addr × Obj)} {v : Value} {p : Int × Int} (h : DatIn news v (pd p)) :
    ∃ a n t u, v = .ref a ∧ (a, ({ cls := .type "tuple", data := .seq #[.int p.1 t, .int p.2 u] n } : Obj)) ∈ news := by
  cases h with
  | tuple hm hd =>
    cases hd with
    | cons h1 hd =>
      cases hd with
      | cons h2 hd =>
        cases hd
        cases h1
        cases h2
        exact ⟨_, _, _, _, rfl, hm⟩
theorem pd_in {news : List (Addr × Obj)} {a : Addr} {n : Nat} {x y : Int} {t u : Tok}
    (h : (a, ({ cls := .type "tuple", data := .seq #[.int x t, .int y u] n } : Obj)) ∈ news) : DatIn news (.ref a) (pd (x, y)) :=
  .tuple (vs := [.int x t, .int y u]) h (.cons (.int _ _) (.cons (.int _ _) .nil))
theorem set_open {news : List (Addr × Obj)} {v : Value} {l : List (Int × Int)} (h : SetIn news v l) :
    ∃ a vs n, v = .ref a ∧ (a, ({ cls := .type "tuple", data := .seq (List.toArray vs) n } : Obj)) ∈ news ∧ DatAll news vs (l.map pd) := by
  cases h with
  | tuple hm hd => exact ⟨_, _, _, rfl, hm, hd⟩


/-- what a def is called with, and what it hands back, made anew -/
structure Deed (D : Type) where
  Rel : List (Addr × Obj) → List Value → D → Prop
  Ok : D → Prop
  deep : Nat
  Out : List (Addr × Obj) → Value → D → Prop
/-- all of tl lies above the ledger -/
def Above (led tl : List (Addr × Obj)) : Prop := ∀ q ∈ led, ∀ p ∈ tl, q.1 < p.1

def Does (w : World) (mean : ExcName → Option Value) (mg mb : Str → Option Value) {D : Type} (f : Addr) (c : Deed D) : Prop :=
  ∀ (d : D) (dp un : Nat) (gd : Option (List Code)) (cn : Str) (cs : Scope) (a : Addr) (ccd : Value) (cl : List (Str × Addr)) (outer : List Env) (A₀ : Around) (base h₀ : Heap) (L : Addr) (m : Str → Option Value) (news : List (Addr × Obj)) (s : Shared) (vs : List Value)
    (Q E : Value → Shared → Prop),
    Below A₀ base outer h₀ → Fr h₀ L s.heap m → (hd.heap_39 w.params).In h₀ → News h₀ L s.heap news → Top hd.view_39 (looseW hd.view_39 [Str.ofString "PostError"]) mean mg mb h₀ → cs.kind = .function → c.Rel news vs d → c.Ok d → dp + c.deep < recursionLimit → un + 8 * c.deep < cLine →
    (∀ r tl h' tk', Fr h₀ L h' m → News h₀ L h' (news ++ tl) → Above news tl → c.Out tl r d → Q r { s with heap := h', toks := tk' }) →
    wpAny (model (PySem.Challenge.rw_nz0276_01.row.prog) w) (ktrTop dp un gd cn cs L a ccd cl outer) (call (.ref f) vs) Q E s

theorem does_use {w : World} {mean : ExcName → Option Value} {mg mb : Str → Option Value} {D : Type} {f : Addr} {c : Deed D} {d : D} {dp un : Nat} {gd : Option (List Code)} {cn : Str} {cs : Scope} {a : Addr} {ccd : Value} {cl : List (Str × Addr)} {outer : List Env} {A₀ : Around} {base h₀ : Heap} {L : Addr} {m : Str → Option Value} {news : List (Addr × Obj)} {s : Shared} {vs : List Value}
    {Q E : Value → Shared → Prop} (C : Does w mean mg mb f c) (B : Below A₀ base outer h₀) (F : Fr h₀ L s.heap m) (X : (hd.heap_39 w.params).In h₀) (N : News h₀ L s.heap news) (T : Top hd.view_39 (looseW hd.view_39 [Str.ofString "PostError"]) mean mg mb h₀) (hk : cs.kind = .function) (R : c.Rel news vs d) (ok : c.Ok d)
    (hd : dp + c.deep < recursionLimit) (hu : un + 8 * c.deep < cLine)
    (ret : ∀ r tl h' tk', Fr h₀ L h' m → News h₀ L h' (news ++ tl) → Above news tl → c.Out tl r d → Q r { s with heap := h', toks := tk' }) :
    wpAny (model (PySem.Challenge.rw_nz0276_01.row.prog) w) (ktrTop dp un gd cn cs L a ccd cl outer) (call (.ref f) vs) Q E s := C _ _ _ _ _ _ _ _ _ _ _ _ _ _ _ _ _ _ _ _ B F X N T hk R ok hd hu ret

end Mine
end

/-! ## Loops -/
section
open PySem PySem.W PyProof.Rows PySem.Calls PySem.Spec
namespace Mine

abbrev tupO (vs : List Value) (n : Nat) : Obj := { cls := .type "tuple", data := .seq vs.toArray n }

section
variable {prog : Program} {w : World} {A : Around} {E : Value → Shared → Prop} {s : Shared} {env : Env} {h₀ : Heap} {target : PySem.Expr} {body : List Stmt} {Q : Flow → Shared → Prop}

theorem loop_core {l : Addr} {lo : Obj} {vs : List Value} {Md : Nat → Value → Heap → Prop} {St : Nat → Heap → Prop} {m₀ : Str → Option Value} {news : List (Addr × Obj)} (J : Nat → (Str → Option Value) → List (Addr × Obj) → Prop)
    {o₁ : Obj} (W : KTurns prog w A target s.heap.objs.size [s.heap.objs.size, l] [s.heap.objs.size] vs.length (fun i v _ => vs[i]? = some v) Md St)
    (hst0 : St 0 (s.heap.push o₁)) (hob : ∀ i h, St i h → ∃ o, h.get? s.heap.objs.size = some o)
    (hl : (l, lo) ∈ news) (F : Fr h₀ env.locals s.heap m₀) (N : News h₀ env.locals s.heap news) (hj : J 0 m₀ news) (hJ : ∀ i m nx, J i m nx → (l, lo) ∈ nx)
    (turn : ∀ i v m₁ nx h tk own, i < vs.length → vs[i]? = some v → OwnOff own (nx.map (·.1)) → J i m₁ nx → Fr h₀ env.locals h m₁ → News h₀ env.locals h (nx ++ own) →
      wpAny (model prog w) A (assign target env v) (fun _ s₂ => wpAny (model prog w) A (execs body env) (InvPostG h₀ env.locals (J (i + 1)) own { s with heap := h, toks := tk } Q) E s₂) E { s with heap := h, toks := tk })
    (done : ∀ m₁ nx h tk, J vs.length m₁ nx → Fr h₀ env.locals h m₁ → News h₀ env.locals h nx → Q .next { s with heap := h, toks := tk }) :
    TurnsAt prog w A h₀ env target body Q E (.ref s.heap.objs.size) { s with heap := s.heap.push o₁ } := by
  refine ⟨_, _, _, vs.length, _, _, _, m₀, news, J, rfl, W, ?_, ?_, ?_, hst0, F.push _, (fun p hp => ⟨Heap.get?_push_of_some _ (N p hp).1, (N p hp).2⟩), hj, ?_, ?_⟩
  · intro hm
    rcases List.mem_cons.mp hm with e | hm
    · exact absurd F.ns.lt (e ▸ Nat.lt_irrefl _)
    · exact (N _ hl).2.1 ((List.mem_singleton.mp hm).symm)
  · intro b hb
    rw [List.mem_singleton.mp hb]
    exact next_is_new F
  · intro p hp hI
    exact absurd (Heap.lt_size (N p hp).1) ((List.mem_singleton.mp hI) ▸ Nat.lt_irrefl _)
  · intro i v m₁ nx hh' tk' own hin hP hJi hoff hown hget hfp hst F₁ N₁
    have hI0 : h₀.get? s.heap.objs.size = none := next_is_new F
    obtain ⟨oI, hoI⟩ := hob _ _ hst
    have hIown : (s.heap.objs.size, oI) ∈ own.filter fun p => decide (p.1 = s.heap.objs.size) := List.mem_filter.mpr ⟨hfp _ (List.mem_cons.mpr (.inl rfl)) hI0 _ hoI, by simp⟩
    have hsep : OwnOff (own.filter fun p => decide (p.1 = s.heap.objs.size)) (nx.map (·.1)) := by
      intro p hp b hb e
      obtain ⟨q, hq, rfl⟩ := List.mem_map.mp hb
      have h1 : p.1 = s.heap.objs.size := by simpa using (List.mem_filter.mp hp).2
      exact hoff q hq (List.mem_singleton.mpr (e ▸ h1))
    have N₂ : News h₀ env.locals hh' (nx ++ own.filter fun p => decide (p.1 = s.heap.objs.size)) := fun p hp => N₁ p ((List.mem_append.mp hp).elim (fun h => List.mem_append.mpr (.inr h)) fun h => List.mem_append.mpr (.inl ((List.mem_filter.mp h).1)))
    have hlo : hh'.get? l = some lo := (N₁ _ (List.mem_append.mpr (.inr (hJ _ _ _ hJi)))).1
    refine wpAny_mono (turn i v m₁ nx hh' tk' _ hin hP hsep hJi F₁ N₂) (fun _ s₂ p => wpAny_mono p (fun f s₃ q => ?_) fun _ _ e => e) fun _ _ e => e
    have fin : InvEndG h₀ env.locals (J (i + 1)) (own.filter fun p => decide (p.1 = s.heap.objs.size)) { s with heap := hh', toks := tk' } s₃ →
        LoopStepU h₀ env.locals [s.heap.objs.size] own (J (i + 1)) { s with heap := hh', toks := tk' } .next s₃ := by
      rintro ⟨h', tk, m', news', nx', e, F', N', hn, ho, ha, hm⟩
      refine ⟨rfl, h', tk, m', nx', e, F', fun p hp => ?_, fun p hp hq => ?_, hm⟩
      · rcases List.mem_append.mp hp with h | h
        · by_cases hI : p.1 = s.heap.objs.size
          · exact N' p (ho p (List.mem_filter.mpr ⟨h, by simpa using hI⟩))
          · have h1 : p.1 = l := by
              rcases List.mem_cons.mp (hown p h) with h2 | h2
              · exact absurd h2 hI
              · exact List.mem_singleton.mp h2
            have h2 : hh'.get? p.1 = some p.2 := hget p h
            rw [h1, hlo] at h2
            have h3 : p = (l, lo) := Prod.ext h1 (Option.some.inj h2).symm
            rw [h3]
            exact N' _ (hn _ (hJ _ _ _ hm))
        · exact N' p (hn p h)
      · exact ha _ hIown p.1 (List.mem_map.mpr ⟨p, hp, rfl⟩) (List.mem_singleton.mp hq).symm
    cases f with
    | ret v => exact .ret q
    | brk => exact .brk q
    | next => exact .next (fin q)
    | cont => exact .cont (fin q)
  · intro h' tk m' news' F' N' _ hJn
    exact done m' news' h' tk hJn F' N'

theorem loop_tup {l : Addr} {vs : List Value} {nn : Nat} {m₀ : Str → Option Value} {news : List (Addr × Obj)} (J : Nat → (Str → Option Value) → List (Addr × Obj) → Prop)
    (hh : A.handled = none) (hl : (l, tupO vs nn) ∈ news) (F : Fr h₀ env.locals s.heap m₀) (N : News h₀ env.locals s.heap news) (hj : J 0 m₀ news) (hJ : ∀ i m nx, J i m nx → (l, tupO vs nn) ∈ nx)
    (turn : ∀ i v m₁ nx h tk own, i < vs.length → vs[i]? = some v → OwnOff own (nx.map (·.1)) → J i m₁ nx → Fr h₀ env.locals h m₁ → News h₀ env.locals h (nx ++ own) →
      wpAny (model prog w) A (assign target env v) (fun _ s₂ => wpAny (model prog w) A (execs body env) (InvPostG h₀ env.locals (J (i + 1)) own { s with heap := h, toks := tk } Q) E s₂) E { s with heap := h, toks := tk })
    (done : ∀ m₁ nx h tk, J vs.length m₁ nx → Fr h₀ env.locals h m₁ → News h₀ env.locals h nx → Q .next { s with heap := h, toks := tk }) :
    wpAny (model prog w) A (pyIter (.ref l)) (fun it s₂ => TurnsAt prog w A h₀ env target body Q E it s₂) E s := by
  have hol : s.heap.get? l = some (tupO vs nn) := (N _ hl).1
  have hls : s.heap.IsTuple l vs.toArray := ⟨_, hol, rfl, nn, rfl⟩
  have hne : l ≠ s.heap.objs.size := Nat.ne_of_lt (Heap.lt_size hol)
  refine wpAny_pyIter_tuple hls ?_
  have W := KTurns.ofWalks (target := target) (Walks.tuple (prog := prog) (w := w) hh s.heap.objs.size l hne vs.toArray) fun i v s Q E st q => letGo_tupleiter st.1 q
  have hlen : vs.toArray.size = vs.length := by simp
  rw [hlen] at W
  simp only [List.getElem?_toArray] at W
  refine loop_core J W ⟨⟨_, Heap.get?_push_size _ rfl, rfl, rfl⟩, hls.at fun o e => Heap.get?_push_of_some _ e⟩ (fun i h st => ?_) hl F N hj hJ turn done
  obtain ⟨⟨o, ho, _⟩, _⟩ := st
  exact ⟨o, ho⟩

theorem loop_list {l : Addr} {vs : List Value} {nn : Nat} {m₀ : Str → Option Value} {news : List (Addr × Obj)} (J : Nat → (Str → Option Value) → List (Addr × Obj) → Prop)
    (hh : A.handled = none) (hl : (l, listOf vs.toArray nn) ∈ news) (F : Fr h₀ env.locals s.heap m₀) (N : News h₀ env.locals s.heap news) (hj : J 0 m₀ news) (hJ : ∀ i m nx, J i m nx → (l, listOf vs.toArray nn) ∈ nx)
    (turn : ∀ i v m₁ nx h tk own, i < vs.length → vs[i]? = some v → OwnOff own (nx.map (·.1)) → J i m₁ nx → Fr h₀ env.locals h m₁ → News h₀ env.locals h (nx ++ own) →
      wpAny (model prog w) A (assign target env v) (fun _ s₂ => wpAny (model prog w) A (execs body env) (InvPostG h₀ env.locals (J (i + 1)) own { s with heap := h, toks := tk } Q) E s₂) E { s with heap := h, toks := tk })
    (done : ∀ m₁ nx h tk, J vs.length m₁ nx → Fr h₀ env.locals h m₁ → News h₀ env.locals h nx → Q .next { s with heap := h, toks := tk }) :
    wpAny (model prog w) A (pyIter (.ref l)) (fun it s₂ => TurnsAt prog w A h₀ env target body Q E it s₂) E s := by
  have hol : s.heap.get? l = some (listOf vs.toArray nn) := (N _ hl).1
  have hls : s.heap.IsList l vs.toArray := ⟨_, hol, rfl, nn, rfl⟩
  have hne : l ≠ s.heap.objs.size := Nat.ne_of_lt (Heap.lt_size hol)
  refine wpAny_pyIter_list hls ?_
  have W := KTurns.ofWalks (target := target) (Walks.list (prog := prog) (w := w) hh s.heap.objs.size l hne vs.toArray) fun i v s Q E st q => letGo_listiter st.1 q
  have hlen : vs.toArray.size = vs.length := by simp
  rw [hlen] at W
  simp only [List.getElem?_toArray] at W
  refine loop_core J W ⟨⟨_, Heap.get?_push_size _ rfl, rfl, rfl⟩, hls.at fun o e => Heap.get?_push_of_some _ e⟩ (fun i h st => ?_) hl F N hj hJ turn done
  obtain ⟨⟨o, ho, _⟩, _⟩ := st
  exact ⟨o, ho⟩

/-- the end of a turn: what is stored in the frame besides xs, and J -/
abbrev InvX (h₀ : Heap) (L : Addr) (m₀ : Str → Option Value) (xs : List Str) (J : (Str → Option Value) → List (Addr × Obj) → Prop) (own : List (Addr × Obj)) (s₁ : Shared) (Q : Flow → Shared → Prop) (f : Flow) (s₂ : Shared) : Prop :=
  InvPostG h₀ L (fun m' nx => (∀ z, xs.contains z = false → m' z = m₀ z) ∧ J m' nx) own s₁ Q f s₂

theorem fr_over {h₀ h : Heap} {L : Addr} {m m₀ : Str → Option Value} {xs : List Str} (F : Fr h₀ L h m) (hm : ∀ z, xs.contains z = false → m z = m₀ z) : Fr h₀ L h (fun y => if xs.contains y = true then m y else m₀ y) := by
  have e : (fun y => if xs.contains y = true then m y else m₀ y) = m := by
    funext y
    cases h : xs.contains y with
    | true => simp
    | false => simp [hm y h]
  rw [e]; exact F

theorem loopX_tup {l : Addr} {vs : List Value} {nn : Nat} {m₀ : Str → Option Value} {news : List (Addr × Obj)} (xs : List Str) (J : Nat → (Str → Option Value) → List (Addr × Obj) → Prop)
    (hh : A.handled = none) (hl : (l, tupO vs nn) ∈ news) (F : Fr h₀ env.locals s.heap m₀) (N : News h₀ env.locals s.heap news) (hj : J 0 m₀ news) (hJ : ∀ i m nx, J i m nx → (l, tupO vs nn) ∈ nx)
    (turn : ∀ i v u nx h tk own, i < vs.length → vs[i]? = some v → OwnOff own (nx.map (·.1)) → J i u nx → Fr h₀ env.locals h (fun y => if xs.contains y = true then u y else m₀ y) → News h₀ env.locals h (nx ++ own) →
      wpAny (model prog w) A (assign target env v) (fun _ s₂ => wpAny (model prog w) A (execs body env) (InvX h₀ env.locals m₀ xs (J (i + 1)) own { s with heap := h, toks := tk } Q) E s₂) E { s with heap := h, toks := tk })
    (done : ∀ u nx h tk, J vs.length u nx → Fr h₀ env.locals h (fun y => if xs.contains y = true then u y else m₀ y) → News h₀ env.locals h nx → Q .next { s with heap := h, toks := tk }) :
    wpAny (model prog w) A (pyIter (.ref l)) (fun it s₂ => TurnsAt prog w A h₀ env target body Q E it s₂) E s :=
  loop_tup (fun i m nx => (∀ z, xs.contains z = false → m z = m₀ z) ∧ J i m nx) hh hl F N ⟨fun _ _ => rfl, hj⟩ (fun i m nx h => hJ i m nx h.2)
    (fun i v m₁ nx h tk own hi hv ho hJ F₁ N₁ => turn i v m₁ nx h tk own hi hv ho hJ.2 (fr_over F₁ hJ.1) N₁)
    (fun m₁ nx h tk hJ F₁ N₁ => done m₁ nx h tk hJ.2 (fr_over F₁ hJ.1) N₁)
theorem loopX_list {l : Addr} {vs : List Value} {nn : Nat} {m₀ : Str → Option Value} {news : List (Addr × Obj)} (xs : List Str) (J : Nat → (Str → Option Value) → List (Addr × Obj) → Prop)
    (hh : A.handled = none) (hl : (l, listOf vs.toArray nn) ∈ news) (F : Fr h₀ env.locals s.heap m₀) (N : News h₀ env.locals s.heap news) (hj : J 0 m₀ news) (hJ : ∀ i m nx, J i m nx → (l, listOf vs.toArray nn) ∈ nx)
    (turn : ∀ i v u nx h tk own, i < vs.length → vs[i]? = some v → OwnOff own (nx.map (·.1)) → J i u nx → Fr h₀ env.locals h (fun y => if xs.contains y = true then u y else m₀ y) → News h₀ env.locals h (nx ++ own) →
      wpAny (model prog w) A (assign target env v) (fun _ s₂ => wpAny (model prog w) A (execs body env) (InvX h₀ env.locals m₀ xs (J (i + 1)) own { s with heap := h, toks := tk } Q) E s₂) E { s with heap := h, toks := tk })
    (done : ∀ u nx h tk, J vs.length u nx → Fr h₀ env.locals h (fun y => if xs.contains y = true then u y else m₀ y) → News h₀ env.locals h nx → Q .next { s with heap := h, toks := tk }) :
    wpAny (model prog w) A (pyIter (.ref l)) (fun it s₂ => TurnsAt prog w A h₀ env target body Q E it s₂) E s :=
  loop_list (fun i m nx => (∀ z, xs.contains z = false → m z = m₀ z) ∧ J i m nx) hh hl F N ⟨fun _ _ => rfl, hj⟩ (fun i m nx h => hJ i m nx h.2)
    (fun i v m₁ nx h tk own hi hv ho hJ F₁ N₁ => turn i v m₁ nx h tk own hi hv ho hJ.2 (fr_over F₁ hJ.1) N₁)
    (fun m₁ nx h tk hJ F₁ N₁ => done m₁ nx h tk hJ.2 (fr_over F₁ hJ.1) N₁)

theorem endX {h' : Heap} {L : Addr} {m₀ m' : Str → Option Value} {xs : List Str} {J : (Str → Option Value) → List (Addr × Obj) → Prop} {own news' : List (Addr × Obj)} {s₁ : Shared} {tk : Nat} (nx : List (Addr × Obj))
    (F : Fr h₀ L h' m') (N : News h₀ L h' news') (hn : ∀ p ∈ nx, p ∈ news') (ho : ∀ p ∈ own, p ∈ news') (ha : OwnOff own (nx.map (·.1))) (hm : ∀ z, xs.contains z = false → m' z = m₀ z) (hj : J m' nx) :
    InvEndG h₀ L (fun m' nx => (∀ z, xs.contains z = false → m' z = m₀ z) ∧ J m' nx) own s₁ { s₁ with heap := h', toks := tk } := ⟨h', tk, m', news', nx, rfl, F, N, hn, ho, ha, hm, hj⟩
end

theorem ne_all {P : Addr} : ∀ {l : List (Addr × Obj)}, AllLt P l → ∀ p ∈ l, p.1 ≠ P
  | [], _, _, hp => nomatch hp
  | q :: r, h, p, hp => by
    rcases List.mem_cons.mp hp with rfl | hp
    · exact Nat.ne_of_lt h.1
    · exact ne_all h.2 p hp
theorem ne_app {P : Addr} {a b : List (Addr × Obj)} (h : ∀ p ∈ a, p.1 ≠ P) (k : ∀ p ∈ b, p.1 ≠ P) : ∀ p ∈ a ++ b, p.1 ≠ P :=
  fun p hp => (List.mem_append.mp hp).elim (h p) (k p)
theorem ne_cons {P : Addr} {q : Addr × Obj} {b : List (Addr × Obj)} (h : q.1 ≠ P) (k : ∀ p ∈ b, p.1 ≠ P) : ∀ p ∈ q :: b, p.1 ≠ P :=
  fun p hp => (List.mem_cons.mp hp).elim (fun e => e ▸ h) (k p)
theorem ne_own {P : Addr} {o : Obj} {own nx : List (Addr × Obj)} (h : OwnOff own (nx.map (·.1))) (hm : (P, o) ∈ nx) : ∀ p ∈ own, p.1 ≠ P :=
  fun p hp => h p hp P (List.mem_map.mpr ⟨_, hm, rfl⟩)
theorem ne_lt {P : Addr} {o : Obj} {led tl : List (Addr × Obj)} (h : Above led tl) (hm : (P, o) ∈ led) : ∀ p ∈ tl, p.1 ≠ P :=
  fun p hp e => absurd (h _ hm p hp) (by rw [e]; exact Nat.lt_irrefl _)
theorem off_app {own a b : List (Addr × Obj)} (h : OwnOff own (a.map (·.1))) (k : OwnOff own (b.map (·.1))) : OwnOff own ((a ++ b).map (·.1)) := by
  intro p hp c hc
  rw [List.map_append] at hc
  exact (List.mem_append.mp hc).elim (h p hp c) (k p hp c)
theorem off_cons {own : List (Addr × Obj)} {q : Addr × Obj} {b : List (Addr × Obj)} (h : ∀ p ∈ own, p.1 ≠ q.1) (k : OwnOff own (b.map (·.1))) : OwnOff own ((q :: b).map (·.1)) := by
  intro p hp c hc
  rw [List.map_cons] at hc
  rcases List.mem_cons.mp hc with rfl | hc
  · exact h p hp
  · exact k p hp c hc
theorem off_lt {own led tl : List (Addr × Obj)} (h : Above led tl) (hs : ∀ p ∈ own, p ∈ led) : OwnOff own (tl.map (·.1)) := by
  intro p hp c hc e
  obtain ⟨q, hq, rfl⟩ := List.mem_map.mp hc
  exact absurd (h p (hs p hp) q hq) (by rw [e]; exact Nat.lt_irrefl _)
theorem ne_allSub {P : Addr} {l own : List (Addr × Obj)} (h : AllLt P l) (hs : ∀ p ∈ own, p ∈ l) : ∀ p ∈ own, p.1 ≠ P := fun p hp => ne_all h p (hs p hp)
theorem ne_nil {P : Addr} : ∀ p ∈ ([] : List (Addr × Obj)), p.1 ≠ P := fun _ h => nomatch h
theorem off_tail {own : List (Addr × Obj)} {q : Addr × Obj} {b : List (Addr × Obj)} (h : OwnOff own ((q :: b).map (·.1))) : OwnOff own (b.map (·.1)) := fun p hp c hc => h p hp c (.tail _ hc)
theorem off_nil {own : List (Addr × Obj)} : OwnOff own (([] : List (Addr × Obj)).map (·.1)) := fun _ _ _ h => nomatch h

end Mine
end

/-! ## Ends -/
section
open PySem PySem.W PyProof.Rows PySem.Calls
namespace Mine
def endsP (p : Int × Int) : Int × Int := (if p.2 < p.1 then p.2 else p.1, if p.2 > p.1 then p.2 else p.1)
def endsT : Deed (Int × Int) where
  Rel := fun news vs d => ∃ v t, vs = [v, .int 0 t] ∧ DatIn news v (pd d)
  Ok := fun d => 0 < d.1 ∧ 0 < d.2
  deep := 1
  Out := fun tl r d => DatIn tl r (pd (endsP d))
theorem ends_does (w : World) (mean : ExcName → Option Value) (mg mb : Str → Option Value) : Does w mean mg mb 68 endsT := by
  w_on
  unfold Does
  k_fill
  intro d dp un gd cn cs a ccd cl outer A₀ base h₀ L m news s vs Q E B F X N T hk hR hok hd hu hret
  obtain ⟨v, t, rfl, hv⟩ := hR
  obtain ⟨x, y⟩ := d
  obtain ⟨a1, n1, t1, u1, rfl, hm⟩ := pd_open hv
  obtain ⟨ok1, ok2⟩ := hok
  dsimp only at ok1 ok2 hm
  dsimp only [endsT] at hd hu hret
  clear hv
  have hx : x ≠ 0 := by omega
  have hy : y ≠ 0 := by omega
  refine wpAny_call ?_
  k_dflt ktr_enter
  k_steps
  all_goals first
    | (exfalso; omega)
    | exact hret _ [_] _ _ (by assumption) (ktn_tl1 (by assumption)) (ktn_ord1 (by ktn_lt)) (pd_in (.head _))
end Mine
end

/-! ## MSort -/
section
open PySem PySem.W PyProof.Rows PySem.Calls PySem.Spec
namespace Mine

section pure
variable {O : KeyOrd} {key : Nat → O.α} {n : Nat} {p : Array Nat} {cmp : Nat → Nat → (Bool → Shared → Prop) → Shared → Prop}
/-- the key at place i -/
def kk (O : KeyOrd) (key : Nat → O.α) (p : Array Nat) (i : Nat) : O.α := key (p.getD i 0)
def SoTo (O : KeyOrd) (key : Nat → O.α) (p : Array Nat) (k : Nat) : Prop := ∀ i j, i ≤ j → j < k → O.kle (kk O key p i) (kk O key p j)
def NiTo (O : KeyOrd) (key : Nat → O.α) (p : Array Nat) (k : Nat) : Prop := ∀ i j, i ≤ j → j < k → O.kle (kk O key p j) (kk O key p i)
def Perms (n : Nat) (p : Array Nat) : Prop := p.Perm (List.range n).toArray
theorem Perms.size (h : Perms n p) : p.size = n := by
  have := h.size_eq
  simpa using this
theorem Perms.lt (h : Perms n p) {k : Nat} (hk : k < n) : p.getD k 0 < n := by
  have hs := h.size
  have hk' : k < p.size := by omega
  have e : p.getD k 0 = p[k] := by simp [Array.getD, hk']
  rw [e]
  have hm : p[k] ∈ p.toList := by simp
  have := (Array.perm_iff_toList_perm.mp h).mem_iff.mp hm
  simpa using this
theorem kk_congr {p q : Array Nat} {i j : Nat} (h : p[i]? = q[j]?) : kk O key p i = kk O key q j := by
  unfold kk
  rw [Array.getD_eq_getD_getElem?, Array.getD_eq_getD_getElem?, h]
theorem kk_bubble {src d : Nat} (hs : src < p.size) (hd : d ≤ src) (k : Nat) :
    kk O key (bubble p src d) k = if k = src - d then kk O key p src else if src - d < k ∧ k ≤ src then kk O key p (k - 1) else kk O key p k := by
  have e := getElem?_bubble hs d hd k
  by_cases h1 : k = src - d
  · rw [if_pos h1] at e ⊢; exact kk_congr e
  · rw [if_neg h1] at e ⊢
    by_cases h2 : src - d < k ∧ k ≤ src
    · rw [if_pos h2] at e ⊢; exact kk_congr e
    · rw [if_neg h2] at e ⊢; exact kk_congr e
theorem kk_mirror {i j : Nat} (hj : j ≤ p.size) (k : Nat) :
    kk O key (kas_rev p i j) k = if i ≤ k ∧ k < j then kk O key p (i + j - 1 - k) else kk O key p k := by
  have e := getElem?_mirror_all (i := i) hj k
  by_cases h1 : i ≤ k ∧ k < j
  · rw [if_pos h1] at e ⊢; exact kk_congr e
  · rw [if_neg h1] at e ⊢; exact kk_congr e
theorem kk_mirror_equal {i j : Nat} (hj : j ≤ p.size) (heq : ∀ k, i ≤ k → k < j → kk O key p k = kk O key p (j - 1)) (k : Nat) :
    kk O key (kas_rev p i j) k = kk O key p k := by
  rw [kk_mirror hj]
  split
  · rw [heq _ (by omega) (by omega), heq k (by omega) (by omega)]
  · rfl
theorem Perms.rev (h : Perms n p) (i j : Nat) : Perms n (kas_rev p i j) := (mirror_perm _ _ _ _).trans h
theorem Perms.bub (h : Perms n p) (i j : Nat) : Perms n (bubble p i j) := (bubble_perm _ _ _).trans h

/-- the questions are answered by the keys -/
def Answers (O : KeyOrd) (key : Nat → O.α) (n : Nat) (cmp : Nat → Nat → (Bool → Shared → Prop) → Shared → Prop) (s : Shared) : Prop :=
  ∀ i j C, i < n → j < n → C (O.blt (key i) (key j)) s → cmp i j C s

theorem ans {s : Shared} (hc : Answers O key n cmp s) (hp : Perms n p) {i j : Nat} (hi : i < n) (hj : j < n) {C : Bool → Shared → Prop} (h : C (O.blt (kk O key p i) (kk O key p j)) s) : cmp (p.getD i 0) (p.getD j 0) C s :=
  hc _ _ _ (hp.lt hi) (hp.lt hj) h

theorem asc_wp {s : Shared} {Q : Nat → Shared → Prop} (hc : Answers O key n cmp s) (hp : Perms n p) : ∀ (f a : Nat), 1 ≤ a → a + f ≤ n → SoTo O key p a →
    (∀ m, a ≤ m → m ≤ a + f → SoTo O key p m → (m = a + f ∨ O.klt (kk O key p m) (kk O key p (m - 1))) → Q m s) → (kas_asc p f a).kasWp cmp Q s
  | 0, a, _, _, hs, h => h a (Nat.le_refl _) (Nat.le_refl _) hs (.inl rfl)
  | f + 1, a, h1, hn, hs, h => by
    show cmp (p.getD a 0) (p.getD (a - 1) 0) (fun b s' => (if b = true then KasT.ret a else kas_asc p f (a + 1)).kasWp cmp Q s') s
    refine ans hc hp (by omega) (by omega) ?_
    cases hless : O.blt (kk O key p a) (kk O key p (a - 1)) with
    | true =>
      simp only [if_true]
      exact h a (Nat.le_refl _) (by omega) hs (.inr hless)
    | false =>
      simp only [Bool.false_eq_true, if_false]
      refine asc_wp hc hp f (a + 1) (by omega) (by omega) (fun i j hij hj => ?_) fun m hm1 hm2 hm3 hm4 => h m (by omega) (by omega) hm3 (hm4.imp_left fun e => by omega)
      by_cases hjx : j < a
      · exact hs i j hij hjx
      · have hj' : j = a := by omega
        subst hj'
        by_cases hi' : i = j
        · subst hi'; exact KeyOrd.kle_refl _
        · exact KeyOrd.kle_trans (hs i (j - 1) (by omega) (by omega)) hless

theorem tail3_wp {s : Shared} {m nrem : Nat} {Q : Nat × Array Nat → Shared → Prop} (hc : Answers O key n cmp s) (hp : Perms n p) (h1 : 1 ≤ m) (hm : m ≤ nrem) (hn : nrem ≤ n) (hs : NiTo O key p m)
    (h : ∀ k q, Perms n q → 1 ≤ k → k ≤ nrem → SoTo O key q k → Q (k, q) s) : (kas_tail3 m nrem p).kasWp cmp Q s := by
  unfold kas_tail3
  rw [KasT.kasWp_bind]
  have hsz : m ≤ p.size := by rw [hp.size]; omega
  refine asc_wp hc (hp.rev 0 m) (nrem - m) m h1 (by omega) (fun i j hij hj => ?_) fun k hk1 hk2 hk3 _ => h k _ (hp.rev 0 m) (by omega) (by omega) hk3
  rw [kk_mirror hsz, kk_mirror hsz, if_pos (by omega), if_pos (by omega)]
  exact hs _ _ (by omega) (by omega)

theorem desc_wp {s : Shared} {Q : Array Nat × Nat × Nat → Shared → Prop} (hc : Answers O key n cmp s) : ∀ (f : Nat) (p : Array Nat) (x q : Nat), Perms n p → 1 ≤ x → x + f ≤ n → NiTo O key p x → q + 1 ≤ x →
    (∀ i, x - (q + 1) ≤ i → i < x → kk O key p i = kk O key p (x - 1)) →
    (∀ m q' p', Perms n p' → x ≤ m → m ≤ x + f → NiTo O key p' m → q' + 1 ≤ m → (∀ i, m - (q' + 1) ≤ i → i < m → kk O key p' i = kk O key p' (m - 1)) → Q (p', m, q') s) → (kas_desc f p x q).kasWp cmp Q s
  | 0, p, x, q, hp, _, _, hs, hq, he, h => h x q p hp (Nat.le_refl _) (Nat.le_refl _) hs hq he
  | f + 1, p, x, q, hp, h1, hn, hs, hq, he, h => by
    have hsz : x ≤ p.size := by rw [hp.size]; omega
    show cmp (p.getD x 0) (p.getD (x - 1) 0) (fun b s' => (if b = true then (if q > 0 then kas_desc f (kas_rev p (x - (q + 1)) x) (x + 1) 0 else kas_desc f p (x + 1) 0)
      else KasT.ask (p.getD (x - 1) 0) (p.getD x 0) fun d => if d = true then KasT.ret (p, x, q) else kas_desc f p (x + 1) (q + 1)).kasWp cmp Q s') s
    refine ans hc hp (by omega) (by omega) ?_
    cases hless : O.blt (kk O key p x) (kk O key p (x - 1)) with
    | true =>
      simp only [if_true]
      have step1 : ∀ xs : Array Nat, (∀ k, kk O key xs k = kk O key p k) → NiTo O key xs (x + 1) := by
        intro xs hk i j hij hj
        rw [hk, hk]
        by_cases hjx : j < x
        · exact hs i j hij hjx
        · have hj' : j = x := by omega
          subst hj'
          by_cases hi' : i = j
          · subst hi'; exact KeyOrd.kle_refl _
          · exact KeyOrd.kle_trans (KeyOrd.kle_of_klt hless) (hs i (j - 1) (by omega) (by omega))
      by_cases hneq : q > 0
      · rw [if_pos hneq]
        exact desc_wp hc f _ (x + 1) 0 (hp.rev _ _) (by omega) (by omega) (step1 _ (kk_mirror_equal hsz he)) (by omega) (fun i h1 h2 => by congr 1; omega)
          fun m q' p' a b c d e g => h m q' p' a (by omega) (by omega) d e g
      · rw [if_neg hneq]
        exact desc_wp hc f _ (x + 1) 0 hp (by omega) (by omega) (step1 _ fun _ => rfl) (by omega) (fun i h1 h2 => by congr 1; omega)
          fun m q' p' a b c d e g => h m q' p' a (by omega) (by omega) d e g
    | false =>
      simp only [Bool.false_eq_true, if_false]
      show cmp (p.getD (x - 1) 0) (p.getD x 0) (fun b s' => (if b = true then KasT.ret (p, x, q) else kas_desc f p (x + 1) (q + 1)).kasWp cmp Q s') s
      refine ans hc hp (by omega) (by omega) ?_
      cases hlarger : O.blt (kk O key p (x - 1)) (kk O key p x) with
      | true =>
        simp only [if_true]
        exact h x q p hp (Nat.le_refl _) (by omega) hs hq he
      | false =>
        simp only [Bool.false_eq_true, if_false]
        have heqx : kk O key p x = kk O key p (x - 1) := KeyOrd.kle_antisymm hlarger hless
        refine desc_wp hc f _ (x + 1) (q + 1) hp (by omega) (by omega) (fun i j hij hj => ?_) (by omega) (fun i h1 h2 => ?_)
          fun m q' p' a b c d e g => h m q' p' a (by omega) (by omega) d e g
        · by_cases hjx : j < x
          · exact hs i j hij hjx
          · have hj' : j = x := by omega
            subst hj'
            by_cases hi' : i = j
            · subst hi'; exact KeyOrd.kle_refl _
            · rw [heqx]; exact hs i (j - 1) (by omega) (by omega)
        · rw [show x + 1 - 1 = x by omega]
          by_cases hix : i = x
          · subst hix; rfl
          · rw [heqx]; exact he i (by omega) (by omega)

theorem descPart_wp {s : Shared} {m nrem : Nat} {Q : Nat × Array Nat → Shared → Prop} (hc : Answers O key n cmp s) (hp : Perms n p) (hm : m + 1 ≤ nrem) (hn : nrem ≤ n) (hs : NiTo O key p (m + 1))
    (h : ∀ k q, Perms n q → 1 ≤ k → k ≤ nrem → SoTo O key q k → Q (k, q) s) : (kas_descPart m nrem p).kasWp cmp Q s := by
  unfold kas_descPart
  rw [KasT.kasWp_bind]
  refine desc_wp hc (nrem - (m + 1)) p (m + 1) 0 hp (by omega) (by omega) hs (by omega) (fun i h1 h2 => by congr 1; omega) fun x q p' hp' hx1 hx2 hx3 hx4 hx5 => ?_
  have hsz : x ≤ p'.size := by rw [hp'.size]; omega
  dsimp only
  by_cases hq : q > 0
  · rw [if_pos hq]
    refine tail3_wp hc (hp'.rev _ _) (by omega) (by omega) hn (fun i j hij hj => ?_) h
    rw [kk_mirror_equal hsz hx5, kk_mirror_equal hsz hx5]
    exact hx3 i j hij hj
  · rw [if_neg hq]
    exact tail3_wp hc hp' (by omega) (by omega) hn hx3 h

theorem count_wp {s : Shared} {Q : Nat × Array Nat → Shared → Prop} (hc : Answers O key n cmp s) (hp : Perms n p) (h1 : 1 ≤ n)
    (h : ∀ k q, Perms n q → 1 ≤ k → k ≤ n → SoTo O key q k → Q (k, q) s) : (kas_count n p).kasWp cmp Q s := by
  unfold kas_count
  rw [KasT.kasWp_bind]
  refine asc_wp hc hp (n - 1) 1 (Nat.le_refl _) (by omega) (fun i j hij hj => by have : i = j := (by omega); subst this; exact KeyOrd.kle_refl _) fun m hm1 hm2 hsm hor => ?_
  by_cases hnn : m = n
  · rw [if_pos (by simpa using hnn)]
    exact h m p hp hm1 (by omega) hsm
  · rw [if_neg (by simpa using hnn)]
    have hlt : O.klt (kk O key p m) (kk O key p (m - 1)) := hor.resolve_left (by omega)
    by_cases hgt : m > 1
    · rw [if_pos hgt]
      show cmp (p.getD 0 0) (p.getD (m - 1) 0) (fun b s' => (if b = true then KasT.ret (m, p) else kas_descPart m n (kas_rev p 0 m)).kasWp cmp Q s') s
      refine ans hc hp (by omega) (by omega) ?_
      cases hrose : O.blt (kk O key p 0) (kk O key p (m - 1)) with
      | true =>
        simp only [if_true]
        exact h m p hp hm1 (by omega) hsm
      | false =>
        simp only [Bool.false_eq_true, if_false]
        have hsz : m ≤ p.size := by rw [hp.size]; omega
        have hall : ∀ k, 0 ≤ k → k < m → kk O key p k = kk O key p (m - 1) := by
          intro k _ hk
          exact KeyOrd.kle_antisymm (hsm k (m - 1) (by omega) (by omega)) (KeyOrd.kle_trans hrose (hsm 0 k (by omega) hk))
        refine descPart_wp hc (hp.rev _ _) (by omega) (Nat.le_refl _) (fun i j hij hj => ?_) h
        rw [kk_mirror_equal hsz hall, kk_mirror_equal hsz hall]
        by_cases hjn : j < m
        · rw [hall i (by omega) (by omega), hall j (by omega) hjn]; exact KeyOrd.kle_refl _
        · have hj' : j = m := by omega
          subst hj'
          by_cases hi' : i = j
          · subst hi'; exact KeyOrd.kle_refl _
          · rw [hall i (by omega) (by omega)]; exact KeyOrd.kle_of_klt hlt
    · rw [if_neg hgt]
      have hm1' : m = 1 := by omega
      subst hm1'
      refine descPart_wp hc hp (by omega) (Nat.le_refl _) (fun i j hij hj => ?_) h
      by_cases hi' : i = j
      · subst hi'; exact KeyOrd.kle_refl _
      · have hi0 : i = 0 := by omega
        have hj1 : j = 1 := by omega
        subst hi0; subst hj1
        exact KeyOrd.kle_of_klt hlt

theorem place_wp {s : Shared} {k : Nat} {Q : Nat → Shared → Prop} (hc : Answers O key n cmp s) (hp : Perms n p) (hk : k < n) (hs : SoTo O key p k) : ∀ (f l r : Nat), l ≤ r → r ≤ k → r - l ≤ f →
    (∀ i, i < l → O.kle (kk O key p i) (kk O key p k)) → (∀ i, r ≤ i → i < k → O.klt (kk O key p k) (kk O key p i)) →
    (∀ l', l' ≤ k → (∀ i, i < l' → O.kle (kk O key p i) (kk O key p k)) → (∀ i, l' ≤ i → i < k → O.klt (kk O key p k) (kk O key p i)) → Q l' s) → (kas_place p k f l r).kasWp cmp Q s
  | 0, l, r, h1, h2, h3, hlo, hhi, h => by
    have : l = r := by omega
    subst this
    exact h l h2 hlo hhi
  | f + 1, l, r, h1, h2, h3, hlo, hhi, h => by
    show (if l ≥ r then KasT.ret l else KasT.ask (p.getD k 0) (p.getD ((l + r) / 2) 0) fun c => if c = true then kas_place p k f l ((l + r) / 2) else kas_place p k f ((l + r) / 2 + 1) r).kasWp cmp Q s
    by_cases hge : l ≥ r
    · rw [if_pos hge]
      have : l = r := by omega
      subst this
      exact h l h2 hlo hhi
    · rw [if_neg hge]
      show cmp (p.getD k 0) (p.getD ((l + r) / 2) 0) (fun b s' => (if b = true then kas_place p k f l ((l + r) / 2) else kas_place p k f ((l + r) / 2 + 1) r).kasWp cmp Q s') s
      refine ans hc hp hk (by omega) ?_
      cases hless : O.blt (kk O key p k) (kk O key p ((l + r) / 2)) with
      | true =>
        simp only [if_true]
        exact place_wp hc hp hk hs f l ((l + r) / 2) (by omega) (by omega) (by omega) hlo (fun i h1 h2 => KeyOrd.klt_of_klt_of_kle hless (hs _ _ h1 h2)) h
      | false =>
        simp only [Bool.false_eq_true, if_false]
        exact place_wp hc hp hk hs f ((l + r) / 2 + 1) r (by omega) (by omega) (by omega) (fun i h1 => KeyOrd.kle_trans (hs i ((l + r) / 2) (by omega) (by omega)) (show O.kle _ _ from hless)) hhi h

theorem bin_wp {s : Shared} {Q : Array Nat → Shared → Prop} (hc : Answers O key n cmp s) : ∀ (f : Nat) (p : Array Nat) (k : Nat), Perms n p → k + f = n → SoTo O key p k → (∀ q, Perms n q → SoTo O key q n → Q q s) → (kas_bin f p k).kasWp cmp Q s
  | 0, p, k, hp, hk, hs, h => h p hp (by have : k = n := (by omega); exact this ▸ hs)
  | f + 1, p, k, hp, hk, hs, h => by
    show ((kas_place p k k 0 k).bind fun l => kas_bin f (bubble p k (k - l)) (k + 1)).kasWp cmp Q s
    rw [KasT.kasWp_bind]
    refine place_wp hc hp (by omega) hs k 0 k (by omega) (by omega) (by omega) (fun i hi => by omega) (fun i h1 h2 => by omega) fun l hl hlo hhi => ?_
    refine bin_wp hc f _ (k + 1) (hp.bub _ _) (by omega) (fun i j hij hj => ?_) h
    have hks : k < p.size := by rw [hp.size]; omega
    rw [kk_bubble hks (by omega), kk_bubble hks (by omega), show k - (k - l) = l by omega]
    repeat' split
    all_goals first
      | (exfalso; omega)
      | exact KeyOrd.kle_refl _
      | exact hlo _ (by omega)
      | exact KeyOrd.kle_of_klt (hhi _ (by omega) (by omega))
      | exact hs _ _ (by omega) (by omega)

theorem sort_wp {s : Shared} {Q : Array Nat → Shared → Prop} (hc : Answers O key n cmp s) (h1 : 1 ≤ n) (h : ∀ q, Perms n q → SoTo O key q n → Q q s) : (kas_sort n).kasWp cmp Q s := by
  unfold kas_sort
  rw [KasT.kasWp_bind]
  refine count_wp hc (Array.Perm.refl _) h1 fun k q hq hk1 hk2 hk3 => ?_
  dsimp only
  by_cases hlt : k < n
  · rw [if_pos hlt]
    have e : max k 1 = k := by omega
    rw [e]
    exact bin_wp hc _ _ _ hq (by omega) hk3 h
  · rw [if_neg hlt]
    have : k = n := by omega
    subst this
    exact h q hq hk3
end pure
end Mine
end

/-! ## SortP -/
section
open PySem PySem.W PyProof.Rows PySem.Calls PySem.Spec
namespace Mine

/-- pairs in Python's order -/
def plt (a b : Int × Int) : Bool := decide (a.1 < b.1 ∨ (a.1 = b.1 ∧ a.2 < b.2))
def pairO : KeyOrd where
  α := Int × Int
  blt := plt
  irrefl := fun a => by simp [plt]
  trans := fun a b c h k => by simp only [plt, decide_eq_true_eq] at *; omega
  negTrans := fun a b c h => by simp only [plt, decide_eq_true_eq] at *; omega
  total := fun a b h k => by
    simp only [plt, decide_eq_false_iff_not] at *
    exact Prod.ext (by omega) (by omega)

section
variable {prog : Program} {w : World} {A : Around} {E : Value → Shared → Prop} {s : Shared} {h₀ : Heap} {L a P : Addr} {m : Str → Option Value} {news rest : List (Addr × Obj)} {vs us : List Value} {k : Nat}

theorem few_sort {n : Nat} {R : PySem.Fin → Shared → Prop} (F : Fr h₀ L s.heap m) (N : News h₀ L s.heap news) (ho : s.heap.get? a = some (seqObj "list" vs.toArray n)) (haL : a ≠ L) (ha0 : h₀.get? a = none) (hna : ∀ p ∈ news, p.1 ≠ a)
    (h2 : vs.length < 2) (h : ∀ k' h', Fr h₀ L h' m → News h₀ L h' ((a, seqObj "list" vs.toArray k') :: news) → R (.done (.ret .none)) { s with heap := h' }) :
    wpAny (model prog w) A (Builtin.«list.sort» ⟨[.ref a], []⟩) R E s := by
  have s1 := Heap.SameBut.update s.heap a (Obj.mapSeq fun _ => (#[] : Array Value))
  obtain ⟨e1, ho1⟩ : ∃ e1, (s.heap.update a (Obj.mapSeq fun _ => (#[] : Array Value))).get? a = some (seqObj "list" #[] e1) := ⟨_, get?_update_seq ho fun _ => #[]⟩
  have F3 : Fr h₀ L (((s.heap.update a (Obj.mapSeq fun _ => (#[] : Array Value))).push (seqObj "tuple" vs.toArray 0)).push (seqObj "list" #[] 0)) m := ((kas_fr F s1 haL ha0).push _).push _
  have N2 : News h₀ L (((s.heap.update a (Obj.mapSeq fun _ => (#[] : Array Value))).push (seqObj "tuple" vs.toArray 0)).push (seqObj "list" #[] 0)) news :=
    (kas_news N s1 hna).grown fun b x e => Heap.get?_push_of_some _ (Heap.get?_push_of_some _ e)
  have ho6 : (((s.heap.update a (Obj.mapSeq fun _ => #[])).push (seqObj "tuple" vs.toArray 0)).push (seqObj "list" #[] 0)).get? a = some (seqObj "list" #[] e1) :=
    Heap.get?_push_of_some _ (Heap.get?_push_of_some _ ho1)
  have hv : (vs.toArray.zip vs.toArray).map (·.2) = vs.toArray := by
    rw [← Array.toList_inj, Array.toList_map]
    show (pairsOf vs).toList.map _ = _
    rw [pairsOf_toList, List.map_snd_zip (Nat.le_refl _)]
  have s2 := Heap.SameBut.update (((s.heap.update a (Obj.mapSeq fun _ => #[])).push (seqObj "tuple" vs.toArray 0)).push (seqObj "list" #[] 0)) a (Obj.mapSeq fun _ => vs.toArray)
  obtain ⟨c2, hc2⟩ : ∃ c2, ((((s.heap.update a (Obj.mapSeq fun _ => #[])).push (seqObj "tuple" vs.toArray 0)).push (seqObj "list" #[] 0)).update a (Obj.mapSeq fun _ => vs.toArray)).get? a = some (seqObj "list" vs.toArray c2) := ⟨_, get?_update_seq ho6 fun _ => vs.toArray⟩
  rw [list_sort_plain]
  refine wpAny_bind (listItems_at ho rfl ?_)
  refine wpAny_bind (listUpdate_at ho rfl ?_ (by rw [List.size_toArray, sizeLine_eq]; omega) (Nat.zero_le _))
  refine wpAny_bind (seqEpoch_at ho1 rfl ?_)
  refine wpAny_bind (wpAny_newTuple ?_ (by show vs.length ≤ _; rw [sizeLine_eq]; omega))
  refine wpAny_bind (wpAny_newList ?_ (Nat.zero_le _))
  refine wpAny_holding ?_
  show wpAny (model prog w) A _ R E { s with heap := ((s.heap.update a (Obj.mapSeq fun _ => (#[] : Array Value))).push (seqObj "tuple" vs.toArray 0)).push (seqObj "list" #[] 0) }
  dsimp only
  have hn2 : vs.toArray.size < 2 := by rw [List.size_toArray]; omega
  rw [if_pos hn2, if_pos hn2]
  refine wpAny_bind (wpAny_pure ?_)
  rw [StateT.run_pure]
  refine wpAny_bind (wpAny_pure ?_)
  dsimp only
  rw [hv]
  refine wpAny_bind (seqEpoch_at ho6 rfl ?_)
  refine wpAny_bind (listUpdate_at ho6 rfl ?_ (Nat.zero_le _) (by rw [List.size_toArray, sizeLine_eq]; omega))
  simp only [bne_self_eq_false, Bool.false_eq_true, if_false]
  refine wpAny_pure (h c2 _ (kas_fr F3 s2 haL ha0) ?_)
  intro p hp
  rcases List.mem_cons.mp hp with rfl | hp
  · exact ⟨hc2, haL, ha0⟩
  · exact ⟨(s2.2 p.1 (hna p hp)).trans (N2 p hp).1, (N2 p hp).2⟩

/-- the order of pairs, told as a Prop -/
def Ple (a b : Int × Int) : Prop := plt b a = false

theorem pairAt {l : List (Int × Int)} (D : DatAll rest us (l.map pd)) {i : Nat} (hi : i < l.length) :
    ∃ b n t u, us.getD i Value.none = .ref b ∧ (b, ({ cls := .type "tuple", data := .seq #[.int (l.getD i (0, 0)).1 t, .int (l.getD i (0, 0)).2 u] n } : Obj)) ∈ rest := by
  obtain ⟨v, hv, hd⟩ := D.get (k := i) (by rw [List.length_map]; exact hi)
  rw [List.getElem_map] at hd
  obtain ⟨b, n, t, u, rfl, hm⟩ := pd_open hd
  refine ⟨b, n, t, u, ?_, ?_⟩
  · rw [List.getD_eq_getElem?_getD, hv]; rfl
  · rw [List.getD_eq_getElem?_getD, List.getElem?_eq_getElem hi]; exact hm

theorem lt_pairs {b1 b2 : Addr} {n1 n2 : Nat} {x1 y1 x2 y2 : Int} {t1 u1 t2 u2 : Tok} {C : Bool → Shared → Prop}
    (h1 : s.heap.get? b1 = some ({ cls := .type "tuple", data := .seq #[.int x1 t1, .int y1 u1] n1 } : Obj)) (h2 : s.heap.get? b2 = some ({ cls := .type "tuple", data := .seq #[.int x2 t2, .int y2 u2] n2 } : Obj))
    (h : C (plt (x1, y1) (x2, y2)) s) : wpAny (model prog w) A (keyLt' (tuples' true) (.ref b1) (.ref b2)) C E s := by
  refine kat_lt h1 rfl h2 rfl ?_
  show KatLex prog w A true _ C [(.int x1 t1, .int x2 t2), (.int y1 u1, .int y2 u2)] 0 s
  refine kat_cons (wpAny_eqBool_int (kat_go (fun e1 => kat_yes (kat_cons (wpAny_eqBool_int (kat_go (fun e2 => kat_yes (kat_nil ?_)) fun e2 => kat_no ?_)))) fun e1 => kat_no ?_))
  · have a1 : x1 = x2 := by simpa using e1
    have a2 : y1 = y2 := by simpa using e2
    have e : plt (x1, y1) (x2, y2) = decide ((#[Value.int x1 t1, .int y1 u1] : Array Value).size < (#[Value.int x2 t2, .int y2 u2] : Array Value).size) := by
      simp [plt, a1, a2]
    rw [← e]; exact h
  · have a1 : x1 = x2 := by simpa using e1
    show wpAny _ _ (oneLt' false _ _) _ _ _
    refine kat_one _ _ (lt_int ?_)
    show C (decide (y1 < y2)) s
    have e : plt (x1, y1) (x2, y2) = decide (y1 < y2) := by simp [plt, a1]
    rw [← e]; exact h
  · have a1 : x1 ≠ x2 := by simpa using e1
    show wpAny _ _ (oneLt' true _ _) _ _ _
    refine oneLt_int ?_
    have e : plt (x1, y1) (x2, y2) = decide (x1 < x2) := by simp [plt, a1]
    rw [← e]; exact h

theorem tups_of {h : Heap} : ∀ {vs : List Value} {l : List (Int × Int)}, (∀ p ∈ rest, h.get? p.1 = some p.2) → DatAll rest vs (l.map pd) → ∃ fs : List Value, KatTups h vs fs ∧ fs.length = l.length ∧ ∀ v ∈ fs, ∃ i t, v = .int i t
  | [], [], _, _ => ⟨[], KatTups.nil, rfl, fun _ h => nomatch h⟩
  | [], _ :: _, _, D => nomatch D
  | _ :: _, [], _, D => nomatch D
  | v :: vs, q :: l, hr, D => by
    cases D with
    | cons d D =>
      obtain ⟨fs, a1, a2, a3⟩ := tups_of (vs := vs) (l := l) hr D
      obtain ⟨b, n, t, u, rfl, hm⟩ := pd_open d
      refine ⟨.int q.1 t :: fs, KatTups.cons (hr _ hm) rfl rfl rfl a1, by simp [a2], fun v hv => ?_⟩
      rcases List.mem_cons.mp hv with rfl | hv
      · exact ⟨_, _, rfl⟩
      · exact a3 v hv

theorem pick_all {l : List (Int × Int)} (D : DatAll rest us (l.map pd)) : ∀ js : List Nat, (∀ j ∈ js, j < l.length) → DatAll rest (js.map fun i => us.getD i Value.none) ((js.map fun i => l.getD i (0, 0)).map pd)
  | [], _ => .nil
  | j :: js, h => by
    obtain ⟨b, n, t, u, e, hm⟩ := pairAt D (h j (.head _))
    rw [List.map_cons, List.map_cons, List.map_cons, e]
    exact .cons (pd_in hm) (pick_all D js fun i hi => h i (.tail _ hi))

theorem sort_pairs {l : List (Int × Int)} {Q : Value → Shared → Prop} (F : Fr h₀ L s.heap m) (N : News h₀ L s.heap ((P, listOf us.toArray k) :: rest)) (hne : ∀ p ∈ rest, p.1 ≠ P) (D : DatAll rest us (l.map pd)) (h64 : l.length < 64)
    (h : ∀ (us' : List Value) (l' : List (Int × Int)) (k' : Nat) (h' : Heap), Fr h₀ L h' m → News h₀ L h' ((P, listOf (List.toArray us') k') :: rest) → DatAll rest us' (l'.map pd) → l'.Perm l → l'.Pairwise Ple → Q .none { s with heap := h' }) :
    wpAny (model prog w) A (call (.builtin "list.sort") [.ref P]) Q E s := by
  have hlen := D.length
  rw [List.length_map] at hlen
  by_cases h2 : 2 ≤ us.length
  · refine kat_lsort (vs := us) F N (UpdF.head hne) (by simp) h2 (by omega) fun e1 h1 F1 N1 => ?_
    have hr : ∀ p ∈ rest, h1.get? p.1 = some p.2 := fun p hp => (N1 p (.tail _ hp)).1
    obtain ⟨fs, hk1, hk2, hk3⟩ := tups_of hr D
    refine kat_kind (T := .type "int") hk1 (by omega) (fun v hv => ?_) rfl ?_
    · obtain ⟨i, t, rfl⟩ := hk3 v hv
      exact Looks.of_pure rfl
    · show (kas_sort us.length).kasWp (kas_ask prog w A.in1 (tuples' true) us) _ _
      refine sort_wp (O := pairO) (key := fun i => l.getD i (0, 0)) (n := us.length) ?_ (by omega) fun p hp hs => ?_
      · intro i j C hi hj hC
        obtain ⟨b1, n1, t1, u1, e1', hm1⟩ := pairAt D (i := i) (by omega)
        obtain ⟨b2, n2, t2, u2, e2', hm2⟩ := pairAt D (i := j) (by omega)
        show wpAny (model prog w) A.in1 (keyLt' (tuples' true) (us.getD i Value.none) (us.getD j Value.none)) C (fun _ _ => False) _
        rw [e1', e2']
        exact lt_pairs (hr _ hm1) (hr _ hm2) hC
      · have hpl : p.toList.Perm (List.range us.length) := Array.perm_iff_toList_perm.mp hp
        refine KasFin.intro F1 N1 (UpdF.head hne) fun h3 c F3 N3 => h _ (p.toList.map fun i => l.getD i (0, 0)) c h3 F3 N3 (pick_all D _ fun j hj => ?_) ?_ ?_
        · have := hpl.mem_iff.mp hj
          rw [List.mem_range] at this; omega
        · refine (hpl.map _).trans (List.Perm.of_eq ?_)
          rw [hlen]
          refine List.ext_getElem (by simp) fun i a1 a2 => ?_
          simp [List.getD_eq_getElem?_getD, a2]
        · rw [List.pairwise_iff_getElem]
          intro i j hi hj hij
          rw [List.length_map, Array.length_toList] at hi hj
          have q := hs i j (Nat.le_of_lt hij) (by rw [← hp.size]; exact hj)
          simp only [List.getElem_map]
          show plt _ _ = false
          have q' : plt (l.getD (p.getD j 0) (0, 0)) (l.getD (p.getD i 0) (0, 0)) = false := q
          have e1 : p.getD i 0 = p.toList[i] := by simp [Array.getD, hi]
          have e2 : p.getD j 0 = p.toList[j] := by simp [Array.getD, hj]
          rw [e1, e2] at q'
          exact q'
  · have nz := N (P, listOf us.toArray k) (.head _)
    refine wpAny_call_entry PyProof.Rows.slot_list_sort ⟨_, nz.1, rfl⟩ PyProof.Rows.entry_list_sort (few_sort (vs := us) F (fun p hp => N p (.tail _ hp)) nz.1 nz.2.1 nz.2.2 hne (by omega) fun k' h' F' N' => ⟨_, rfl, h us l k' h' F' N' D (List.Perm.refl _) ?_⟩) (PyProof.Rows.args_list_sort _)
    match l, hlen, h2 with
    | [], _, _ => exact .nil
    | [q], _, _ => exact List.pairwise_singleton _ _
    | _ :: _ :: _, hlen, h2 => simp at hlen; omega
end
end Mine
end

/-! ## Pure1 -/
section
open PySem PySem.W PyProof.Rows PySem.Calls PySem.Spec
namespace Mine
theorem nil_or_snoc {α : Type} (l : List α) : l = [] ∨ ∃ i x, l = i ++ [x] := by
  rcases List.eq_nil_or_concat l with h | ⟨i, x, h⟩
  · exact .inl h
  · exact .inr ⟨i, x, by rw [h, List.concat_eq_append]⟩
/-- one turn of plain_set's second loop -/
def stepM (out : List (Int × Int)) (p : Int × Int) : List (Int × Int) :=
  match out.getLast? with
  | some q => if p.1 ≤ q.2 + 1 then out.dropLast ++ [(q.1, if p.2 > q.2 then p.2 else q.2)] else out ++ [p]
  | none => out ++ [p]
def mgl (l : List (Int × Int)) : List (Int × Int) := l.foldl stepM []
def sortP (l : List (Int × Int)) : List (Int × Int) := l.mergeSort fun a b => !plt b a
/-- what plain_set(l, 0) gives where no end is 0 -/
def plain (l : List (Int × Int)) : List (Int × Int) := mgl (sortP (l.map endsP))
theorem mgl_snoc (l : List (Int × Int)) (p : Int × Int) : mgl (l ++ [p]) = stepM (mgl l) p := by
  unfold mgl; rw [List.foldl_append]; rfl
theorem stepM_length (out : List (Int × Int)) (p : Int × Int) : (stepM out p).length ≤ out.length + 1 := by
  unfold stepM
  split
  · split
    · simp
    · simp
  · simp
theorem mgl_length_aux (l : List (Int × Int)) : ∀ out : List (Int × Int), (l.foldl stepM out).length ≤ out.length + l.length := by
  induction l with
  | nil => intro out; simp
  | cons p l ih =>
    intro out
    have h1 := ih (stepM out p)
    have h2 := stepM_length out p
    simp only [List.foldl_cons, List.length_cons]
    omega
theorem mgl_length (l : List (Int × Int)) : (mgl l).length ≤ l.length := by
  have := mgl_length_aux l []
  simpa [mgl] using this
theorem sortP_eq {l l' : List (Int × Int)} (hp : l'.Perm l) (hs : l'.Pairwise Ple) : l' = sortP l := by
  have h1 : (sortP l).Perm l := List.mergeSort_perm _ _
  have h2 : (sortP l).Pairwise Ple := by
    have := List.pairwise_mergeSort (le := fun a b => !plt b a) (fun a b c h k => by
      simp only [plt, Bool.not_eq_true', decide_eq_false_iff_not] at *; omega) (fun a b => by
      simp only [plt, Bool.or_eq_true, Bool.not_eq_true', decide_eq_false_iff_not]; omega) l
    exact this.imp fun h => by simpa [Ple] using h
  exact (hp.trans h1.symm).eq_of_pairwise (le := Ple) (fun a b _ _ h k => pairO.total _ _ k h) hs h2

theorem stepM_in {oi : List (Int × Int)} {qx qy x y : Int} (h : x ≤ qy + 1) : stepM (oi ++ [(qx, qy)]) (x, y) = oi ++ [(qx, if y > qy then y else qy)] := by
  unfold stepM
  simp [h]
theorem stepM_out {oi : List (Int × Int)} {qx qy x y : Int} (h : ¬ x ≤ qy + 1) : stepM (oi ++ [(qx, qy)]) (x, y) = (oi ++ [(qx, qy)]) ++ [(x, y)] := by
  unfold stepM
  simp [h]

/-- how many numbers a plain set bears -/
def sizeS (l : List (Int × Int)) : Int := l.foldl (fun c p => c + (p.2 - p.1 + 1)) 0
theorem sizeS_snoc (l : List (Int × Int)) (p : Int × Int) : sizeS (l ++ [p]) = sizeS l + (p.2 - p.1 + 1) := by
  unfold sizeS; rw [List.foldl_append]; rfl

end Mine
end

/-! ## Pure2 -/
section
open PySem PySem.W PyProof.Rows PySem.Calls PySem.Spec
namespace Mine
def Pos2 (l : List (Int × Int)) : Prop := ∀ p ∈ l, 0 < p.1 ∧ 0 < p.2
theorem stepM_pos {out : List (Int × Int)} {p : Int × Int} (h : Pos2 out) (hp : 0 < p.1 ∧ 0 < p.2) : Pos2 (stepM out p) := by
  rcases nil_or_snoc out with rfl | ⟨oi, ⟨qx, qy⟩, rfl⟩
  · intro q hq
    have : q = p := by simpa [stepM] using hq
    rw [this]; exact hp
  · obtain ⟨x, y⟩ := p
    have hl := h (qx, qy) (by simp)
    dsimp only at hl hp
    by_cases hle : x ≤ qy + 1
    · rw [stepM_in hle]
      intro q hq
      rcases List.mem_append.mp hq with hq | hq
      · exact h q (List.mem_append.mpr (.inl hq))
      · rw [List.mem_singleton.mp hq]
        dsimp only
        refine ⟨hl.1, ?_⟩
        split <;> omega
    · rw [stepM_out hle]
      intro q hq
      rcases List.mem_append.mp hq with hq | hq
      · exact h q hq
      · rw [List.mem_singleton.mp hq]; exact hp
theorem mgl_pos_aux : ∀ (l out : List (Int × Int)), Pos2 out → Pos2 l → Pos2 (l.foldl stepM out)
  | [], _, h, _ => h
  | p :: l, out, h, k => mgl_pos_aux l (stepM out p) (stepM_pos h (k p (.head _))) fun q hq => k q (.tail _ hq)
theorem mem_sortP {l : List (Int × Int)} {p : Int × Int} : p ∈ sortP l ↔ p ∈ l := (List.mergeSort_perm _ _).mem_iff
theorem sortP_length (l : List (Int × Int)) : (sortP l).length = l.length := (List.mergeSort_perm _ _).length_eq
theorem plain_pos {l : List (Int × Int)} (h : Pos2 l) : Pos2 (plain l) := by
  refine mgl_pos_aux _ [] (fun _ h => nomatch h) fun q hq => ?_
  rw [mem_sortP] at hq
  obtain ⟨p, hp, rfl⟩ := List.mem_map.mp hq
  have := h p hp
  unfold endsP
  dsimp only
  constructor <;> split <;> omega
theorem plain_length (l : List (Int × Int)) : (plain l).length ≤ l.length := by
  have h1 := mgl_length (sortP (l.map endsP))
  rw [sortP_length, List.length_map] at h1
  exact h1
/-- joined_sets -/
def jn (a b : List (Int × Int)) : List (Int × Int) := plain (plain a ++ plain b)

def cutP (p q : Int × Int) : Int × Int := (if q.1 > p.1 then q.1 else p.1, if q.2 < p.2 then q.2 else p.2)
def cutK (r : Int × Int) : List (Int × Int) := if r.1 ≤ r.2 then [r] else []
/-- cut_set's two pointers, upon what is left of both -/
def cutL : List (Int × Int) → List (Int × Int) → List (Int × Int)
  | [], _ => []
  | _ :: _, [] => []
  | a :: as, b :: bs => cutK (cutP a b) ++ (if a.2 < b.2 then cutL as (b :: bs) else cutL (a :: as) bs)
termination_by a b => a.length + b.length
theorem cutL_nil (a : List (Int × Int)) : cutL a [] = [] := by cases a <;> simp [cutL]
theorem cutK_length (r : Int × Int) : (cutK r).length ≤ 1 := by
  unfold cutK; split <;> simp
theorem cutL_length (n : Nat) : ∀ a b : List (Int × Int), a.length + b.length ≤ n → (cutL a b).length ≤ a.length + b.length := by
  induction n with
  | zero =>
    intro a b h
    have : a = [] := List.eq_nil_of_length_eq_zero (by omega)
    subst this
    simp [cutL]
  | succ n ih =>
    intro a b h
    cases a with
    | nil => simp [cutL]
    | cons p as =>
      cases b with
      | nil => simp [cutL]
      | cons q bs =>
        rw [cutL, List.length_append]
        simp only [List.length_cons] at h ⊢
        have h1 := ih as (q :: bs) (by simp only [List.length_cons]; omega)
        have h2 := ih (p :: as) bs (by simp only [List.length_cons]; omega)
        simp only [List.length_cons] at h1 h2
        have h3 := cutK_length (cutP p q)
        split <;> omega
/-- cut_set -/
def ct (a b : List (Int × Int)) : List (Int × Int) := cutL (plain a) (plain b)
theorem ct_length (a b : List (Int × Int)) : (ct a b).length ≤ a.length + b.length := by
  have h := cutL_length _ (plain a) (plain b) (Nat.le_refl _)
  have h1 := plain_length a
  have h2 := plain_length b
  unfold ct
  omega

/-- less_set's inner turn: where the next piece begins, what is out -/
def lessI (high : Int) (st : Int × List (Int × Int)) (q : Int × Int) : Int × List (Int × Int) :=
  if q.2 < st.1 ∨ q.1 > high then st else (q.2 + 1, if st.1 < q.1 then st.2 ++ [(st.1, q.1 - 1)] else st.2)
/-- less_set's outer turn -/
def lessO (holes : List (Int × Int)) (out : List (Int × Int)) (p : Int × Int) : List (Int × Int) :=
  if (holes.foldl (lessI p.2) (p.1, out)).1 ≤ p.2 then (holes.foldl (lessI p.2) (p.1, out)).2 ++ [((holes.foldl (lessI p.2) (p.1, out)).1, p.2)] else (holes.foldl (lessI p.2) (p.1, out)).2
def lessS (a b : List (Int × Int)) : List (Int × Int) := a.foldl (lessO b) []
/-- less_set -/
def ls (a b : List (Int × Int)) : List (Int × Int) := lessS (plain a) (plain b)
theorem foldl_snoc {α β : Type} (f : β → α → β) (z : β) (l : List α) (i : Nat) (h : i < l.length) : (l.take (i + 1)).foldl f z = f ((l.take i).foldl f z) l[i] := by
  rw [List.take_add_one, List.getElem?_eq_getElem h, List.foldl_append]; rfl
theorem lessI_length (high : Int) : ∀ (l : List (Int × Int)) (st : Int × List (Int × Int)), (l.foldl (lessI high) st).2.length ≤ st.2.length + l.length
  | [], st => by simp
  | q :: l, st => by
    have h := lessI_length high l (lessI high st q)
    have h2 : (lessI high st q).2.length ≤ st.2.length + 1 := by
      unfold lessI
      split
      · omega
      · dsimp only
        split
        · simp
        · omega
    simp only [List.foldl_cons, List.length_cons]
    omega
theorem lessO_length (b out : List (Int × Int)) (p : Int × Int) : (lessO b out p).length ≤ out.length + b.length + 1 := by
  have h := lessI_length p.2 b (p.1, out)
  dsimp only at h
  unfold lessO
  split
  · rw [List.length_append]; simp only [List.length_cons, List.length_nil]; omega
  · omega
theorem lessS_length (b : List (Int × Int)) : ∀ (a out : List (Int × Int)), (a.foldl (lessO b) out).length ≤ out.length + a.length * (b.length + 1)
  | [], out => by simp
  | p :: a, out => by
    have h := lessS_length b a (lessO b out p)
    have h2 := lessO_length b out p
    simp only [List.foldl_cons, List.length_cons, Nat.add_mul, Nat.one_mul]
    omega

theorem lessI_skip1 {y1 bg x2 y2 : Int} {o : List (Int × Int)} (h : y2 < bg) : lessI y1 (bg, o) (x2, y2) = (bg, o) := if_pos (.inl h)
theorem lessI_skip2 {y1 bg x2 y2 : Int} {o : List (Int × Int)} (h : x2 > y1) : lessI y1 (bg, o) (x2, y2) = (bg, o) := if_pos (.inr h)
theorem lessI_cut {y1 bg x2 y2 : Int} {o : List (Int × Int)} (h1 : ¬ y2 < bg) (h2 : ¬ x2 > y1) (h3 : bg < x2) : lessI y1 (bg, o) (x2, y2) = (y2 + 1, o ++ [(bg, x2 - 1)]) := by
  unfold lessI
  rw [if_neg (fun h => h.elim h1 h2), if_pos h3]
theorem lessI_move {y1 bg x2 y2 : Int} {o : List (Int × Int)} (h1 : ¬ y2 < bg) (h2 : ¬ x2 > y1) (h3 : ¬ bg < x2) : lessI y1 (bg, o) (x2, y2) = (y2 + 1, o) := by
  unfold lessI
  rw [if_neg (fun h => h.elim h1 h2), if_neg h3]

theorem lessO_eq (holes out : List (Int × Int)) (p : Int × Int) : lessO holes out p = if (holes.foldl (lessI p.2) (p.1, out)).1 ≤ p.2 then (holes.foldl (lessI p.2) (p.1, out)).2 ++ [((holes.foldl (lessI p.2) (p.1, out)).1, p.2)] else (holes.foldl (lessI p.2) (p.1, out)).2 := rfl

end Mine
end

/-! ## Pure3 -/
section
open PySem PySem.W PyProof.Rows PySem.Calls PySem.Spec
namespace Mine
/-- a plain set above lo: every pair in order, a gap between any two -/
def NormF : Int → List (Int × Int) → Prop
  | _, [] => True
  | lo, p :: l => lo < p.1 ∧ p.1 ≤ p.2 ∧ NormF (p.2 + 1) l
def Mem (x : Int) : List (Int × Int) → Prop
  | [] => False
  | p :: l => (p.1 ≤ x ∧ x ≤ p.2) ∨ Mem x l
theorem NormF.mono {lo lo' : Int} (h : lo' ≤ lo) : ∀ {l : List (Int × Int)}, NormF lo l → NormF lo' l
  | [], _ => trivial
  | _ :: _, ⟨a, b, c⟩ => ⟨by omega, b, c⟩
theorem NormF.gt {x : Int} : ∀ {l : List (Int × Int)} {lo : Int}, NormF lo l → Mem x l → lo < x
  | [], _, _, h => h.elim
  | p :: l, lo, ⟨a, b, c⟩, h => by
    rcases h with h | h
    · omega
    · have := NormF.gt c h; omega
theorem mem_app {x : Int} : ∀ {a b : List (Int × Int)}, Mem x (a ++ b) ↔ Mem x a ∨ Mem x b
  | [], b => by simp [Mem]
  | p :: a, b => by
    have h := mem_app (x := x) (a := a) (b := b)
    simp only [List.cons_append, Mem, h, or_assoc]
theorem norm_ext : ∀ {a b : List (Int × Int)} {lo lo' : Int}, NormF lo a → NormF lo' b → (∀ x, Mem x a ↔ Mem x b) → a = b
  | [], [], _, _, _, _, _ => rfl
  | [], q :: b, _, _, _, ⟨_, h, _⟩, k => ((k q.1).mpr (.inl ⟨by omega, h⟩)).elim
  | p :: a, [], _, _, ⟨_, h, _⟩, _, k => ((k p.1).mp (.inl ⟨by omega, h⟩)).elim
  | p :: a, q :: b, lo, lo', ⟨h1, h2, h3⟩, ⟨g1, g2, g3⟩, k => by
    have e1 : p.1 = q.1 := by
      have a1 := (k p.1).mp (.inl ⟨by omega, h2⟩)
      have a2 := (k q.1).mpr (.inl ⟨by omega, g2⟩)
      have b1 : q.1 ≤ p.1 := by
        rcases a1 with a1 | a1
        · omega
        · have := g3.gt a1; omega
      have b2 : p.1 ≤ q.1 := by
        rcases a2 with a2 | a2
        · omega
        · have := h3.gt a2; omega
      omega
    have e2 : p.2 = q.2 := by
      rcases Int.lt_trichotomy p.2 q.2 with h | h | h
      · have a1 := (k (p.2 + 1)).mpr (.inl ⟨by omega, by omega⟩)
        rcases a1 with a1 | a1
        · omega
        · have := h3.gt a1; omega
      · exact h
      · have a1 := (k (q.2 + 1)).mp (.inl ⟨by omega, by omega⟩)
        rcases a1 with a1 | a1
        · omega
        · have := g3.gt a1; omega
    have e : p = q := Prod.ext e1 e2
    subst e
    rw [norm_ext h3 g3 fun x => ⟨fun h => ?_, fun h => ?_⟩]
    · rcases (k x).mp (.inr h) with a1 | a1
      · have := h3.gt h; omega
      · exact a1
    · rcases (k x).mpr (.inr h) with a1 | a1
      · have := g3.gt h; omega
      · exact a1
/-- plain_set's second loop, from the front -/
def mr : Int × Int → List (Int × Int) → List (Int × Int)
  | c, [] => [c]
  | c, p :: l => if p.1 ≤ c.2 + 1 then mr (c.1, if p.2 > c.2 then p.2 else c.2) l else c :: mr p l
theorem stepM_mr : ∀ (l oi : List (Int × Int)) (c : Int × Int), l.foldl stepM (oi ++ [c]) = oi ++ mr c l
  | [], oi, c => rfl
  | p :: l, oi, (cx, cy) => by
    obtain ⟨x, y⟩ := p
    rw [List.foldl_cons, mr]
    by_cases h : x ≤ cy + 1
    · rw [stepM_in h, stepM_mr l, if_pos h]
    · rw [stepM_out h, stepM_mr l, if_neg h, List.append_assoc]; rfl
theorem mgl_mr (p : Int × Int) (l : List (Int × Int)) : mgl (p :: l) = mr p l := by
  have h := stepM_mr l [] p
  simpa [mgl, stepM] using h
theorem mr_norm : ∀ (l : List (Int × Int)) (c : Int × Int) (lo : Int), lo < c.1 → c.1 ≤ c.2 → (∀ p ∈ l, c.1 ≤ p.1) → (∀ p ∈ l, p.1 ≤ p.2) → l.Pairwise (fun p q => p.1 ≤ q.1) → NormF lo (mr c l) ∧ ∀ x, Mem x (mr c l) ↔ (c.1 ≤ x ∧ x ≤ c.2) ∨ Mem x l
  | [], c, lo, h1, h2, _, _, _ => ⟨⟨h1, h2, trivial⟩, fun x => Iff.rfl⟩
  | p :: l, c, lo, h1, h2, h3, h4, h5 => by
    rw [List.pairwise_cons] at h5
    have a1 := h3 p (.head _)
    have a2 := h4 p (.head _)
    rw [mr]
    split
    · rename_i hle
      have q := mr_norm l (c.1, if p.2 > c.2 then p.2 else c.2) lo h1 (by dsimp only; split <;> omega) (fun r hr => h3 r (.tail _ hr)) (fun r hr => h4 r (.tail _ hr)) h5.2
      refine ⟨q.1, fun x => ?_⟩
      rw [q.2 x]
      simp only [Mem]
      rw [← or_assoc]
      refine or_congr ?_ Iff.rfl
      split <;> omega
    · rename_i hle
      have q := mr_norm l p (c.2 + 1) (by omega) a2 h5.1 (fun r hr => h4 r (.tail _ hr)) h5.2
      refine ⟨⟨h1, h2, q.1⟩, fun x => ?_⟩
      simp only [Mem]
      rw [q.2 x]
theorem mem_mem {x : Int} : ∀ {l : List (Int × Int)}, Mem x l ↔ ∃ p ∈ l, p.1 ≤ x ∧ x ≤ p.2
  | [] => by simp [Mem]
  | p :: l => by simp only [Mem, mem_mem (l := l), List.mem_cons, exists_eq_or_imp]
theorem sortP_pairs (l : List (Int × Int)) : (sortP l).Pairwise Ple := by
  have := List.pairwise_mergeSort (le := fun a b => !plt b a) (fun a b c h k => by
      simp only [plt, Bool.not_eq_true', decide_eq_false_iff_not] at *; omega) (fun a b => by
      simp only [plt, Bool.or_eq_true, Bool.not_eq_true', decide_eq_false_iff_not]; omega) l
  exact this.imp fun h => by simpa [Ple] using h
theorem plain_spec {l : List (Int × Int)} (hl : Pos2 l) : NormF 0 (plain l) ∧ ∀ x, Mem x (plain l) ↔ Mem x (l.map endsP) := by
  have hs := sortP_pairs (l.map endsP)
  have hm : ∀ x, Mem x (sortP (l.map endsP)) ↔ Mem x (l.map endsP) := fun x => by
    rw [mem_mem, mem_mem]
    simp only [mem_sortP]
  have hp : ∀ p ∈ sortP (l.map endsP), 0 < p.1 ∧ p.1 ≤ p.2 := fun p hp => by
    rw [mem_sortP] at hp
    obtain ⟨q, hq, rfl⟩ := List.mem_map.mp hp
    have := hl q hq
    unfold endsP
    dsimp only
    constructor <;> (repeat' split) <;> omega
  unfold plain
  generalize sortP (l.map endsP) = s at *
  cases s with
  | nil => exact ⟨trivial, hm⟩
  | cons p s =>
    rw [mgl_mr]
    rw [List.pairwise_cons] at hs
    have lows : ∀ {a b : Int × Int}, Ple a b → a.1 ≤ b.1 := fun {a b} h => by
      simp only [Ple, plt] at h
      simp at h
      omega
    have q := mr_norm s p 0 (hp p (.head _)).1 (hp p (.head _)).2 (fun r hr => lows (hs.1 r hr)) (fun r hr => (hp r (.tail _ hr)).2) (hs.2.imp lows)
    exact ⟨q.1, fun x => (q.2 x).trans (hm x)⟩
theorem NormF.all {p : Int × Int} : ∀ {l : List (Int × Int)} {lo : Int}, NormF lo l → p ∈ l → lo < p.1 ∧ p.1 ≤ p.2
  | [], _, _, h => nomatch h
  | q :: l, lo, ⟨a, b, c⟩, h => by
    rcases List.mem_cons.mp h with rfl | h
    · exact ⟨a, b⟩
    · have := NormF.all c h; omega
theorem NormF.pos {l : List (Int × Int)} (h : NormF 0 l) : Pos2 l := fun p hp => by
  have := h.all hp; omega
theorem endsP_id {p : Int × Int} (h : p.1 ≤ p.2) : endsP p = p := by
  unfold endsP
  rw [if_neg (by omega)]
  refine Prod.ext rfl ?_
  dsimp only
  split <;> omega
theorem plain_id {l : List (Int × Int)} (h : NormF 0 l) : plain l = l := by
  have q := plain_spec h.pos
  refine norm_ext q.1 h fun x => ?_
  rw [q.2 x, show l.map endsP = l from (List.map_congr_left fun p hp => endsP_id (h.all hp).2).trans (List.map_id _)]
theorem cutK_mem {r : Int × Int} {x : Int} : Mem x (cutK r) ↔ r.1 ≤ x ∧ x ≤ r.2 := by
  unfold cutK
  split
  · simp [Mem]
  · simp only [Mem, false_iff]; omega
theorem norm_app {h : Int} : ∀ {a b : List (Int × Int)} {lo : Int}, NormF lo a → (∀ p ∈ a, p.2 ≤ h) → NormF (h + 1) b → lo ≤ h + 1 → NormF lo (a ++ b)
  | [], b, lo, _, _, k, hl => k.mono hl
  | p :: a, b, lo, ⟨h1, h2, h3⟩, g, k, hl => ⟨h1, h2, norm_app h3 (fun q hq => g q (.tail _ hq)) k (by have := g p (.head _); omega)⟩
theorem cutL_spec (n : Nat) : ∀ (a b : List (Int × Int)) (la lb : Int), a.length + b.length ≤ n → NormF la a → NormF lb b → NormF (max la lb) (cutL a b) ∧ ∀ x, Mem x (cutL a b) ↔ Mem x a ∧ Mem x b := by
  induction n with
  | zero =>
    intro a b la lb h ha hb
    have : a = [] := List.eq_nil_of_length_eq_zero (by omega)
    subst this
    simp [cutL, NormF, Mem]
  | succ n ih =>
    intro a b la lb h ha hb
    cases a with
    | nil => simp [cutL, NormF, Mem]
    | cons p as =>
      cases b with
      | nil => simp [cutL, NormF, Mem]
      | cons q bs =>
        obtain ⟨a1, a2, a3⟩ := ha
        obtain ⟨b1, b2, b3⟩ := hb
        rw [cutL]
        simp only [List.length_cons] at h
        by_cases hc : p.2 < q.2
        · rw [if_pos hc]
          have r := ih as (q :: bs) (p.2 + 1) lb (by simp only [List.length_cons]; omega) a3 ⟨b1, b2, b3⟩
          refine ⟨?_, fun x => ?_⟩
          · unfold cutK
            split
            · rename_i hr
              revert hr
              unfold cutP; dsimp only
              intro hr
              refine ⟨?_, hr, ?_⟩
              · dsimp only; split <;> omega
              · refine r.1.mono ?_
                dsimp only; split <;> omega
            · exact r.1.mono (by omega)
          · rw [mem_app, cutK_mem, r.2 x]
            unfold cutP
            dsimp only
            simp only [Mem]
            have c1 := fun h : Mem x as => a3.gt h
            have c2 := fun h : Mem x bs => b3.gt h
            by_cases m1 : Mem x as <;> by_cases m2 : Mem x bs <;> simp only [m1, m2, true_implies, or_true, and_true, or_false, true_and, false_and, and_false] at c1 c2 ⊢ <;> (repeat' split) <;> omega
        · rw [if_neg hc]
          have r := ih (p :: as) bs la (q.2 + 1) (by simp only [List.length_cons]; omega) ⟨a1, a2, a3⟩ b3
          refine ⟨?_, fun x => ?_⟩
          · unfold cutK
            split
            · rename_i hr
              revert hr
              unfold cutP; dsimp only
              intro hr
              refine ⟨?_, hr, ?_⟩
              · dsimp only; split <;> omega
              · refine r.1.mono ?_
                dsimp only; split <;> omega
            · exact r.1.mono (by omega)
          · rw [mem_app, cutK_mem, r.2 x]
            unfold cutP
            dsimp only
            simp only [Mem]
            have c1 := fun h : Mem x as => a3.gt h
            have c2 := fun h : Mem x bs => b3.gt h
            by_cases m1 : Mem x as <;> by_cases m2 : Mem x bs <;> simp only [m1, m2, true_implies, or_true, and_true, or_false, true_and, false_and, and_false] at c1 c2 ⊢ <;> (repeat' split) <;> omega
/-- what is left of begin..high -/
def lp (high : Int) : Int → List (Int × Int) → List (Int × Int)
  | b, [] => if b ≤ high then [(b, high)] else []
  | b, q :: l => if q.2 < b ∨ q.1 > high then lp high b l else (if b < q.1 then [(b, q.1 - 1)] else []) ++ lp high (q.2 + 1) l
theorem lessO_lp (high : Int) : ∀ (l : List (Int × Int)) (b : Int) (out : List (Int × Int)), (if (l.foldl (lessI high) (b, out)).1 ≤ high then (l.foldl (lessI high) (b, out)).2 ++ [((l.foldl (lessI high) (b, out)).1, high)] else (l.foldl (lessI high) (b, out)).2) = out ++ lp high b l
  | [], b, out => by
    rw [lp]
    show (if b ≤ high then out ++ [(b, high)] else out) = _
    split <;> simp
  | q :: l, b, out => by
    rw [List.foldl_cons, lp]
    unfold lessI
    dsimp only
    split
    · exact lessO_lp high l b out
    · split
      · have h := lessO_lp high l (q.2 + 1) (out ++ [(b, q.1 - 1)])
        rw [List.append_assoc] at h
        exact h
      · exact lessO_lp high l (q.2 + 1) out
theorem lessS_lp (b : List (Int × Int)) : ∀ (a out : List (Int × Int)), a.foldl (lessO b) out = out ++ a.flatMap fun p => lp p.2 p.1 b
  | [], out => by simp
  | p :: a, out => by
    rw [List.foldl_cons, lessS_lp b a, List.flatMap_cons, ← List.append_assoc]
    congr 1
    exact lessO_lp p.2 b p.1 out
theorem lp_spec (high : Int) : ∀ (l : List (Int × Int)) (b lo : Int), NormF lo l → NormF (b - 1) (lp high b l) ∧ ∀ x, Mem x (lp high b l) ↔ (b ≤ x ∧ x ≤ high) ∧ ¬ Mem x l
  | [], b, lo, _ => by
    rw [lp]
    split
    · rename_i h
      exact ⟨⟨by dsimp only; omega, h, trivial⟩, fun x => by simp [Mem]⟩
    · refine ⟨trivial, fun x => ?_⟩
      simp only [Mem, not_false_eq_true, and_true, false_iff]
      omega
  | q :: l, b, lo, ⟨h1, h2, h3⟩ => by
    rw [lp]
    by_cases hs : q.2 < b ∨ q.1 > high
    · rw [if_pos hs]
      have r := lp_spec high l b _ h3
      refine ⟨r.1, fun x => ?_⟩
      rw [r.2 x]
      simp only [Mem]
      by_cases m : Mem x l <;> simp only [m, not_true_eq_false, and_false, or_true, not_false_eq_true, and_true, or_false] <;> omega
    · rw [if_neg hs]
      have r := lp_spec high l (q.2 + 1) _ h3
      have c := fun (x : Int) (h : Mem x l) => h3.gt h
      refine ⟨?_, fun x => ?_⟩
      · split
        · refine ⟨by dsimp only; omega, by dsimp only; omega, r.1.mono ?_⟩
          dsimp only; omega
        · exact r.1.mono (by omega)
      · rw [mem_app, r.2 x]
        have e : Mem x (if b < q.1 then [(b, q.1 - 1)] else []) ↔ b ≤ x ∧ x ≤ q.1 - 1 := by
          split
          · simp [Mem]
          · simp only [Mem, false_iff]; omega
        rw [e]
        simp only [Mem]
        have c' := c x
        by_cases m : Mem x l <;> simp only [m, true_implies, not_true_eq_false, and_false, or_true, or_false, not_false_eq_true, and_true, iff_false] at c' ⊢ <;> omega
theorem flat_spec (b : List (Int × Int)) (lb : Int) (hb : NormF lb b) : ∀ (a : List (Int × Int)) (la : Int), NormF la a → NormF la (a.flatMap fun p => lp p.2 p.1 b) ∧ ∀ x, Mem x (a.flatMap fun p => lp p.2 p.1 b) ↔ Mem x a ∧ ¬ Mem x b
  | [], la, _ => by simp [NormF, Mem]
  | p :: a, la, ⟨h1, h2, h3⟩ => by
    have r := flat_spec b lb hb a _ h3
    have s := lp_spec p.2 b p.1 lb hb
    rw [List.flatMap_cons]
    refine ⟨norm_app (h := p.2) (s.1.mono (by omega)) (fun z hz => ?_) r.1 (by omega), fun x => ?_⟩
    · have h := s.1.all hz
      have := (s.2 z.2).mp (mem_mem.mpr ⟨z, hz, h.2, Int.le_refl _⟩)
      exact this.1.2
    · rw [mem_app, r.2 x, s.2 x]
      simp only [Mem]
      by_cases m : Mem x b <;> simp [m]
theorem lessS_spec {a b : List (Int × Int)} (ha : NormF 0 a) (hb : NormF 0 b) : NormF 0 (lessS a b) ∧ ∀ x, Mem x (lessS a b) ↔ Mem x a ∧ ¬ Mem x b := by
  unfold lessS
  rw [lessS_lp, List.nil_append]
  exact flat_spec b 0 hb a 0 ha
section
variable {a b c : List (Int × Int)}
theorem ls_spec (ha : Pos2 a) (hb : Pos2 b) : NormF 0 (ls a b) ∧ ∀ x, Mem x (ls a b) ↔ Mem x (plain a) ∧ ¬ Mem x (plain b) := lessS_spec (plain_spec ha).1 (plain_spec hb).1
theorem ct_spec (ha : Pos2 a) (hb : Pos2 b) : NormF 0 (ct a b) ∧ ∀ x, Mem x (ct a b) ↔ Mem x (plain a) ∧ Mem x (plain b) := by
  have h := cutL_spec _ (plain a) (plain b) 0 0 (Nat.le_refl _) (plain_spec ha).1 (plain_spec hb).1
  exact ⟨h.1.mono (by omega), h.2⟩
theorem jn_spec (ha : Pos2 a) (hb : Pos2 b) : NormF 0 (jn a b) ∧ ∀ x, Mem x (jn a b) ↔ Mem x (plain a) ∨ Mem x (plain b) := by
  have na := (plain_spec ha).1
  have nb := (plain_spec hb).1
  have hp : Pos2 (plain a ++ plain b) := fun p hp => (List.mem_append.mp hp).elim (na.pos p) (nb.pos p)
  have h := plain_spec hp
  refine ⟨h.1, fun x => ?_⟩
  rw [show jn a b = plain (plain a ++ plain b) from rfl, h.2 x, List.map_append, mem_app]
  have e : ∀ {l : List (Int × Int)}, NormF 0 l → l.map endsP = l := fun {l} h => (List.map_congr_left fun p hp => endsP_id (h.all hp).2).trans (List.map_id _)
  rw [e na, e nb]
end

end Mine
end

/-! ## Pure4 -/
section
open PySem PySem.W PyProof.Rows PySem.Calls PySem.Spec
namespace Mine
open Classical in
/-- how many of 1 to n are in P -/
noncomputable def cnt (P : Int → Prop) : Nat → Int
  | 0 => 0
  | n + 1 => cnt P n + if P ((n : Int) + 1) then 1 else 0
theorem cnt_add {P Q R : Int → Prop} (h : ∀ x, R x ↔ P x ∨ Q x) (d : ∀ x, ¬ (P x ∧ Q x)) : ∀ n, cnt R n = cnt P n + cnt Q n
  | 0 => rfl
  | n + 1 => by
    rw [cnt, cnt, cnt, cnt_add h d n]
    have h1 := h ((n : Int) + 1)
    have d1 := d ((n : Int) + 1)
    by_cases p : P ((n : Int) + 1)
    · by_cases q : Q ((n : Int) + 1)
      · exact absurd ⟨p, q⟩ d1
      · rw [if_pos p, if_neg q, if_pos (h1.mpr (.inl p))]; omega
    · by_cases q : Q ((n : Int) + 1)
      · rw [if_neg p, if_pos q, if_pos (h1.mpr (.inr q))]; omega
      · rw [if_neg p, if_neg q, if_neg (fun r => (h1.mp r).elim p q)]; omega
theorem cnt_none : ∀ n, cnt (fun _ => False) n = 0
  | 0 => rfl
  | n + 1 => by rw [cnt, cnt_none n]; simp
theorem cnt_run {a b : Int} (ha : 0 < a) (hb : a ≤ b) : ∀ n : Nat, cnt (fun x => a ≤ x ∧ x ≤ b) n = if (n : Int) < a then 0 else (if (n : Int) < b then (n : Int) else b) - a + 1
  | 0 => by
    rw [cnt, if_pos]
    exact ha
  | n + 1 => by
    rw [cnt, cnt_run ha hb n]
    have e : (((n + 1 : Nat) : Nat) : Int) = (n : Int) + 1 := by omega
    rw [e]
    (repeat' split) <;> omega
theorem sizeS_from : ∀ (l : List (Int × Int)) (z : Int), l.foldl (fun c p => c + (p.2 - p.1 + 1)) z = z + sizeS l
  | [], z => by simp [sizeS]
  | p :: l, z => by
    unfold sizeS
    rw [List.foldl_cons, List.foldl_cons, sizeS_from l, sizeS_from l (0 + _)]
    omega
theorem sizeS_cnt : ∀ (l : List (Int × Int)) (lo : Int) (n : Nat), 0 ≤ lo → NormF lo l → (∀ p ∈ l, p.2 ≤ (n : Int)) → sizeS l = cnt (fun x => Mem x l) n
  | [], lo, n, _, _, _ => by
    show sizeS [] = cnt (fun _ => False) n
    rw [cnt_none]; rfl
  | p :: l, lo, n, h0, ⟨h1, h2, h3⟩, hn => by
    rw [cnt_add (R := fun x => Mem x (p :: l)) (P := fun x => p.1 ≤ x ∧ x ≤ p.2) (Q := fun x => Mem x l) (fun x => Iff.rfl) (fun x h => by have := h3.gt h.2; have := h.1; omega), cnt_run (by omega) h2, ← sizeS_cnt l (p.2 + 1) n (by omega) h3 fun q hq => hn q (.tail _ hq)]
    have hb := hn p (.head _)
    have e : sizeS (p :: l) = (0 + (p.2 - p.1 + 1)) + sizeS l := by
      rw [← sizeS_from]; rfl
    rw [e]
    (repeat' split) <;> omega
theorem high_of : ∀ l : List (Int × Int), ∃ n : Nat, ∀ p ∈ l, p.2 ≤ (n : Int)
  | [] => ⟨0, fun _ h => nomatch h⟩
  | p :: l => by
    obtain ⟨n, h⟩ := high_of l
    refine ⟨n + p.2.toNat, fun q hq => ?_⟩
    rcases List.mem_cons.mp hq with rfl | hq
    · omega
    · have := h q hq; omega
theorem size_add {a b c : List (Int × Int)} (ha : NormF 0 a) (hb : NormF 0 b) (hc : NormF 0 c) (h : ∀ x, Mem x c ↔ Mem x a ∨ Mem x b) (d : ∀ x, ¬ (Mem x a ∧ Mem x b)) : sizeS c = sizeS a + sizeS b := by
  obtain ⟨na, ka⟩ := high_of a
  obtain ⟨nb, kb⟩ := high_of b
  obtain ⟨nc, kc⟩ := high_of c
  rw [sizeS_cnt a 0 (na + nb + nc) (by omega) ha fun p hp => by have := ka p hp; omega, sizeS_cnt b 0 (na + nb + nc) (by omega) hb fun p hp => by have := kb p hp; omega, sizeS_cnt c 0 (na + nb + nc) (by omega) hc fun p hp => by have := kc p hp; omega]
  exact cnt_add h d _
section
variable {A B C : List (Int × Int)}
theorem pos_ls (ha : Pos2 A) (hb : Pos2 B) : Pos2 (ls A B) := (ls_spec ha hb).1.pos
theorem pos_ct (ha : Pos2 A) (hb : Pos2 B) : Pos2 (ct A B) := (ct_spec ha hb).1.pos
theorem pos_jn (ha : Pos2 A) (hb : Pos2 B) : Pos2 (jn A B) := (jn_spec ha hb).1.pos
theorem len_ls (hA : A.length ≤ 4) (hB : B.length ≤ 4) : (ls A B).length ≤ 20 := by
  have h := lessS_length (plain B) (plain A) []
  have h1 := plain_length A
  have h2 := plain_length B
  have h3 : (plain A).length * ((plain B).length + 1) ≤ 4 * 5 := Nat.mul_le_mul (by omega) (by omega)
  simp only [List.length_nil] at h
  show (List.foldl (lessO (plain B)) [] (plain A)).length ≤ 20
  omega
theorem len_ct (hA : A.length ≤ 4) (hB : B.length ≤ 4) : (ct A B).length ≤ 8 := by
  have := ct_length A B; omega
theorem len_jn (hA : A.length ≤ 4) (hB : B.length ≤ 4) : (jn A B).length ≤ 8 := by
  have h := plain_length (plain A ++ plain B)
  rw [List.length_append] at h
  have h1 := plain_length A
  have h2 := plain_length B
  show (plain (plain A ++ plain B)).length ≤ 8
  omega
theorem law1 (hA : Pos2 A) (hB : Pos2 B) : ct (ls A B) (ct A B) = [] := by
  have l := ls_spec hA hB
  have k := ct_spec hA hB
  have h := ct_spec l.1.pos k.1.pos
  refine norm_ext h.1 (lo' := 0) trivial fun x => ?_
  rw [h.2 x, plain_id l.1, plain_id k.1, l.2 x, k.2 x]
  simp only [Mem, iff_false]
  exact fun h => h.1.2 h.2.2
theorem law2 (hA : Pos2 A) (hB : Pos2 B) : jn (ls A B) (ct A B) = plain A := by
  have l := ls_spec hA hB
  have k := ct_spec hA hB
  have h := jn_spec l.1.pos k.1.pos
  refine norm_ext h.1 (plain_spec hA).1 fun x => ?_
  rw [h.2 x, plain_id l.1, plain_id k.1, l.2 x, k.2 x]
  by_cases m : Mem x (plain B) <;> simp [m]
theorem law3 (hA : Pos2 A) (hB : Pos2 B) : ct (ls A B) B = [] := by
  have l := ls_spec hA hB
  have h := ct_spec l.1.pos hB
  refine norm_ext h.1 (lo' := 0) trivial fun x => ?_
  rw [h.2 x, plain_id l.1, l.2 x]
  simp only [Mem, iff_false]
  exact fun h => h.1.2 h.2
theorem law4 (hA : Pos2 A) (hB : Pos2 B) (hC : Pos2 C) : ls (ls A B) C = ls A (jn B C) := by
  have l := ls_spec hA hB
  have k := jn_spec hB hC
  have h1 := ls_spec l.1.pos hC
  have h2 := ls_spec hA k.1.pos
  refine norm_ext h1.1 h2.1 fun x => ?_
  rw [h1.2 x, h2.2 x, plain_id l.1, plain_id k.1, l.2 x, k.2 x, not_or, and_assoc]
theorem law5 (hA : Pos2 A) (hB : Pos2 B) : ls A (ct A B) = ls A B := by
  have k := ct_spec hA hB
  have h1 := ls_spec hA k.1.pos
  have h2 := ls_spec hA hB
  refine norm_ext h1.1 h2.1 fun x => ?_
  rw [h1.2 x, h2.2 x, plain_id k.1, k.2 x]
  by_cases m : Mem x (plain A) <;> simp [m]
theorem law6 (hA : Pos2 A) (hB : Pos2 B) (hC : Pos2 C) : ct A (jn B C) = jn (ct A B) (ct A C) := by
  have k := jn_spec hB hC
  have k1 := ct_spec hA hB
  have k2 := ct_spec hA hC
  have h1 := ct_spec hA k.1.pos
  have h2 := jn_spec k1.1.pos k2.1.pos
  refine norm_ext h1.1 h2.1 fun x => ?_
  rw [h1.2 x, h2.2 x, plain_id k.1, plain_id k1.1, plain_id k2.1, k.2 x, k1.2 x, k2.2 x, and_or_left]
theorem law7 (hA : Pos2 A) : jn A A = plain A := by
  have h := jn_spec hA hA
  refine norm_ext h.1 (plain_spec hA).1 fun x => ?_
  rw [h.2 x, or_self]
theorem law8 (hA : Pos2 A) : ct A A = plain A := by
  have h := ct_spec hA hA
  refine norm_ext h.1 (plain_spec hA).1 fun x => ?_
  rw [h.2 x, and_self]
theorem law9 (hA : Pos2 A) : ls A A = [] := by
  have h := ls_spec hA hA
  refine norm_ext h.1 (lo' := 0) trivial fun x => ?_
  rw [h.2 x]
  simp only [Mem, iff_false]
  exact fun h => h.2 h.1
theorem law10 (hA : Pos2 A) (hB : Pos2 B) : sizeS (plain (ls A B)) + sizeS (plain (ct A B)) = sizeS (plain A) := by
  have l := ls_spec hA hB
  have k := ct_spec hA hB
  rw [plain_id l.1, plain_id k.1, size_add l.1 k.1 (plain_spec hA).1]
  · intro x
    rw [l.2 x, k.2 x]
    by_cases m : Mem x (plain B) <;> simp [m]
  · intro x
    rw [l.2 x, k.2 x]
    exact fun h => h.1.2 h.2.2
theorem law11 (hA : Pos2 A) (hB : Pos2 B) : sizeS (plain (jn A B)) = sizeS (plain (ls A B)) + sizeS (plain B) := by
  have l := ls_spec hA hB
  have k := jn_spec hA hB
  rw [plain_id l.1, plain_id k.1, size_add l.1 (plain_spec hB).1 k.1]
  · intro x
    rw [l.2 x, k.2 x]
    by_cases m : Mem x (plain B) <;> simp [m]
  · intro x
    rw [l.2 x]
    exact fun h => h.1.2 h.2
end

end Mine
end

/-! ## Rules -/
section
open PySem PySem.W PyProof.Rows PySem.Calls PySem.Spec
namespace Mine
section
variable {prog : Program} {w : World} {A : Around} {E : Value → Shared → Prop} {s : Shared} {h₀ : Heap} {L P : Addr} {m : Str → Option Value} {news rest : List (Addr × Obj)} {us vi : List Value} {v v' : Value} {k n : Nat}
theorem fit_line {n : Nat} (h : n ≤ sizeLine) : (n : Int) < 2 ^ 63 := by
  rw [sizeLine_eq] at h
  omega
theorem len_listN {Q : Value → Shared → Prop} (N : News h₀ L s.heap news) (hm : (P, listOf us.toArray k) ∈ news) (hz : us.toArray.size ≤ sizeLine) (h : ∀ t tk, Q (.int us.length t) { s with toks := tk }) :
    wpAny (model prog w) A (call (.builtin "len") [.ref P]) Q E s :=
  len_list (items := us.toArray) ⟨_, (N _ hm).1, rfl, k, rfl⟩ (fit_line hz) (by rw [List.size_toArray]; exact h _ _)
theorem len_tupN {Q : Value → Shared → Prop} (N : News h₀ L s.heap news) (hm : (P, tupO us n) ∈ news) (hz : us.length ≤ sizeLine) (h : ∀ t tk, Q (.int us.length t) { s with toks := tk }) :
    wpAny (model prog w) A (call (.builtin "len") [.ref P]) Q E s :=
  len_tuple (items := us.toArray) ⟨_, (N _ hm).1, rfl, n, rfl⟩ (by rw [List.size_toArray]; exact fit_line hz) (by rw [List.size_toArray]; exact h _ _)
theorem back_listN {u : Tok} {Q : Value → Shared → Prop} (N : News h₀ L s.heap news) (hm : (P, listOf (vi ++ [v]).toArray k) ∈ news) (h : Q v s) :
    wpAny (model prog w) A (getItem (.ref P) (.int (-1) u)) Q E s :=
  wpAny_getItem_list_neg (items := (vi ++ [v]).toArray) ⟨_, (N _ hm).1, rfl, k, rfl⟩ (by decide) (by simp; omega) (by decide) (by simp; rw [show ((-1 : Int) + ((vi.length : Int) + 1)).toNat = vi.length by omega]; simp) h
theorem back_tailN {value slice : PySem.Expr} {u : Tok} {Q : Value → Shared → Prop} (N : News h₀ L s.heap news) (hm : (P, listOf (vi ++ [v]).toArray k) ∈ news) (h : Q v s)
    (hs : subscripted slice false (.ref P) (.int (-1) u) = operate [.ref P, .int (-1) u] (getItem (.ref P) (.int (-1) u)) := by with_unfolding_all rfl) :
    wpAny (model prog w) A (subscriptTail value slice (.ref P) (.int (-1) u)) Q E s :=
  have hl : s.heap.IsList P (vi ++ [v]).toArray := ⟨_, (N _ hm).1, rfl, k, rfl⟩
  tail_any hl.typeIs slot_list_getitem.lookup (back_listN N hm h) hs
theorem at_tupN {value slice : PySem.Expr} {i : Int} {u : Tok} {Q : Value → Shared → Prop} (N : News h₀ L s.heap news) (hm : (P, tupO us n) ∈ news) (h0 : 0 ≤ i) (hhi : i < 2 ^ 63) (hv : us[i.toNat]? = some v) (h : Q v s)
    (hs : subscripted slice false (.ref P) (.int i u) = operate [.ref P, .int i u] (getItem (.ref P) (.int i u)) := by with_unfolding_all rfl) :
    wpAny (model prog w) A (subscriptTail value slice (.ref P) (.int i u)) Q E s := by
  have hl : i.toNat < us.length := (List.getElem?_eq_some_iff.mp hv).1
  refine item_tupleT (t := P) (l := us) (j := i.toNat) ⟨_, (N _ hm).1, rfl, n, rfl⟩ (by omega) hhi ?_ hv h hs
  unfold seqIndex?
  have hi : ¬ i < 0 := by omega
  simp only [hi, if_false]
  rw [if_pos (by simp only [Bool.and_eq_true, decide_eq_true_eq]; omega)]
theorem set_backN {t : Tok} {news' : List (Addr × Obj)} {Q : Unit → Shared → Prop} (F : Fr h₀ L s.heap m) (N : News h₀ L s.heap news) (U : Upd P (listOf (vi ++ [v]).toArray k) (listOf (vi ++ [v']).toArray k) news news')
    (h : ∀ h', Fr h₀ L h' m → News h₀ L h' news' → Q () { s with heap := h' }) : wpAny (model prog w) A (setItem (.ref P) (.int (-1) t) v') Q E s := by
  obtain ⟨pre, post, rfl, rfl, a, b⟩ := U.split
  have z := N (P, listOf (vi ++ [v]).toArray k) (List.mem_append.mpr (.inr (.head _)))
  refine ki_setBack z.1 (by decide) (by simp; omega) (by decide) (h _ (F.change (Heap.SameBut.update ..) z.2.1 z.2.2) (ki_turn _ N a b ?_ ?_))
  · show (vi ++ [v]).toArray.setIfInBounds ((-1 : Int) + (vi ++ [v]).toArray.size).toNat v' = (vi ++ [v']).toArray
    have e : ((-1 : Int) + (vi ++ [v]).toArray.size).toNat = vi.length := by simp; omega
    rw [e]
    simp
  · simp
end
section
variable {prog : Program} {w : World} {A : Around} {E : Value → Shared → Prop} {s : Shared} {h₀ h' : Heap} {L O : Addr} {m m₀ m' : Str → Option Value} {news base tl add own led : List (Addr × Obj)} {us us' : List Value} {k k' : Nat}
theorem tupleN {Q : Value → Shared → Prop} (F : Fr h₀ L s.heap m) (N : News h₀ L s.heap news) (hm : (O, listOf us.toArray k) ∈ news) (hz : us.length ≤ 16384)
    (h : ∀ D h', Fr h₀ L h' m → News h₀ L h' ((D, tupO us 0) :: news) → (∀ p ∈ news, p.1 < D) → Q (.ref D) { s with heap := h' }) : wpAny (model prog w) A (call (.type "tuple") [.ref O]) Q E s :=
  kde_tupleOf (items := us.toArray) F N ⟨_, (N _ hm).1, rfl, k, rfl⟩ (by rw [List.size_toArray]; exact hz) rfl h

theorem ne_left {P : Addr} {a b : List (Addr × Obj)} (h : ∀ p ∈ a ++ b, p.1 ≠ P) : ∀ p ∈ a, p.1 ≠ P := fun p hp => h p (List.mem_append.mpr (.inl hp))
theorem ne_right {P : Addr} {a b : List (Addr × Obj)} (h : ∀ p ∈ a ++ b, p.1 ≠ P) : ∀ p ∈ b, p.1 ≠ P := fun p hp => h p (List.mem_append.mpr (.inr hp))
theorem ne_cons_tail {P : Addr} {q : Addr × Obj} {b : List (Addr × Obj)} (h : ∀ p ∈ q :: b, p.1 ≠ P) : ∀ p ∈ b, p.1 ≠ P := fun p hp => h p (.tail _ hp)
theorem above_lt {D : Addr} {o : Obj} (h : ∀ q ∈ led, q.1 < D) : Above led [(D, o)] := by
  intro q hq p hp
  rw [List.mem_singleton.mp hp]
  exact h q hq
theorem above_cons {D : Addr} {o : Obj} (h : ∀ q ∈ led, q.1 < D) (k : Above led tl) : Above led ((D, o) :: tl) := by
  intro q hq p hp
  rcases List.mem_cons.mp hp with rfl | hp
  · exact h q hq
  · exact k q hq p hp
theorem lt_nil {D : Addr} : ∀ q ∈ ([] : List (Addr × Obj)), q.1 < D := fun _ h => nomatch h
theorem lt_cons {D : Addr} {q : Addr × Obj} {b : List (Addr × Obj)} (h : q.1 < D) (k : ∀ p ∈ b, p.1 < D) : ∀ p ∈ q :: b, p.1 < D :=
  fun p hp => (List.mem_cons.mp hp).elim (fun e => e ▸ h) (k p)
theorem lt_app {D : Addr} {a b : List (Addr × Obj)} (h : ∀ p ∈ a, p.1 < D) (k : ∀ p ∈ b, p.1 < D) : ∀ p ∈ a ++ b, p.1 < D :=
  fun p hp => (List.mem_append.mp hp).elim (h p) (k p)
theorem lt_all {D : Addr} {a b : List (Addr × Obj)} (h : AllLt D b) (hs : ∀ p ∈ a, p ∈ b) : ∀ p ∈ a, p.1 < D := fun p hp => ktn_ltOf h p (hs p hp)
theorem above_one {D : Addr} {o : Obj} (h : AllLt D led) : Above led [(D, o)] := by
  intro q hq p hp
  rw [List.mem_singleton.mp hp]
  exact ktn_ltOf h q hq
theorem above_app (h : Above base tl) (k : Above led add) (hs : ∀ p ∈ base, p ∈ led) : Above base (tl ++ add) := by
  intro q hq p hp
  rcases List.mem_append.mp hp with hp | hp
  · exact h q hq p hp
  · exact k q (hs q hq) p hp
theorem above_nil : Above base [] := fun _ _ _ h => nomatch h
theorem above_sub (h : Above led tl) (hs : ∀ p ∈ base, p ∈ led) : Above base tl := fun q hq p hp => h q (hs q hq) p hp

/-- between the turns of a loop that fills the list O with pairs -/
def JL (O : Addr) (base : List (Addr × Obj)) (f : Nat → List (Int × Int)) (i : Nat) (_ : Str → Option Value) (nx : List (Addr × Obj)) : Prop :=
  ∃ us k tl, nx = (O, listOf (List.toArray us) k) :: (base ++ tl) ∧ (∀ p ∈ base ++ tl, p.1 ≠ O) ∧ Above base tl ∧ DatAll tl us ((f i).map pd)
theorem JL.start {f : Nat → List (Int × Int)} (hf : f 0 = []) (h : ∀ p ∈ base, p.1 ≠ O) : JL O base f 0 m ((O, listOf #[] k) :: base) :=
  ⟨[], k, [], by rw [List.append_nil], by rw [List.append_nil]; exact h, above_nil, by rw [hf]; exact .nil⟩
theorem endJ {f : Nat → List (Int × Int)} {i : Nat} {xs : List Str} {s₁ : Shared} {tk : Nat} {o : Obj} (us' : List Value) (k' : Nat) (F : Fr h₀ L h' m') {news' : List (Addr × Obj)} (N : News h₀ L h' news')
    (hn : ∀ p ∈ (O, listOf (List.toArray us') k') :: (base ++ (tl ++ add)), p ∈ news') (ho : ∀ p ∈ own, p ∈ news') (hoff : OwnOff own (((O, o) :: (base ++ tl)).map (·.1)))
    (hne : ∀ p ∈ base ++ tl, p.1 ≠ O) (hab : Above base tl) (hadd : Above ((O, o) :: (base ++ (tl ++ own))) add) (hm : ∀ z, xs.contains z = false → m' z = m₀ z)
    (D : DatAll (tl ++ add) us' ((f (i + 1)).map pd)) :
    InvEndG h₀ L (fun m' nx => (∀ z, xs.contains z = false → m' z = m₀ z) ∧ JL O base f (i + 1) m' nx) own s₁ { s₁ with heap := h', toks := tk } := by
  have hown : OwnOff own (add.map (·.1)) := off_lt hadd fun p hp => .tail _ (List.mem_append.mpr (.inr (List.mem_append.mpr (.inr hp))))
  have hO : ∀ p ∈ own, p.1 ≠ O := ne_own hoff (.head _)
  have hoff' : OwnOff own ((base ++ tl).map (·.1)) := off_tail hoff
  refine endX ((O, listOf (List.toArray us') k') :: (base ++ (tl ++ add))) F N hn ho ?_ hm ⟨us', k', tl ++ add, rfl, ?_, above_app hab hadd fun p hp => .tail _ (List.mem_append.mpr (.inl hp)), D⟩
  · rw [← List.append_assoc]
    exact off_cons hO (off_app hoff' hown)
  · rw [← List.append_assoc]
    exact ne_app hne (ne_lt hadd (.head _))
end

/-- a goal that the walk leaves alone -/
def Hold (P : Prop) : Prop := P
section
variable {prog : Program} {w : World} {A : Around} {E : Value → Shared → Prop} {s : Shared} {env : Env} {h₀ : Heap} {target : PySem.Expr} {body : List Stmt} {Q : Flow → Shared → Prop}
theorem For_hold {iter : PySem.Expr} {pos : Pos} {m : Str → Option Value} (F : Fr h₀ env.locals s.heap m)
    (h : wpAny (model prog w) A (eval iter env) (fun xv s₁ => Hold (wpAny (model prog w) A (pyIter xv) (fun it s₂ => TurnsAt prog w A h₀ env target body Q E it s₂) E s₁)) E s)
    (hs : ∀ x, foldedSetIterable iter env x = pure x := by intro _; rfl)
    (hE : PassesOwn (model prog w) A env E := by passes_own) :
    wpAny (model prog w) A (exec (.For target iter body [] pos) env) Q E s := For_turns F h hs hE
end

section
variable {prog : Program} {w : World} {A : Around} {E : Value → Shared → Prop} {s : Shared} {env : Env} {h₀ : Heap} {body : List Stmt} {Q : Flow → Shared → Prop} {x : Str} {px : Pos}
theorem loopX_range {r : Addr} {n : Nat} {t₀ u₀ v₀ : Tok} {m₀ : Str → Option Value} {news : List (Addr × Obj)} (xs : List Str) (J : Nat → (Str → Option Value) → List (Addr × Obj) → Prop)
    (hh : A.handled = none) (hr : IsRange s.heap r 0 (n : Int) 1 t₀ u₀ v₀) (hz : n ≤ sizeLine) (F : Fr h₀ env.locals s.heap m₀) (N : News h₀ env.locals s.heap news) (hj : J 0 m₀ news)
    (turn : ∀ i t u nx h tk own, i < n → OwnOff own (nx.map (·.1)) → J i u nx → Fr h₀ env.locals h (fun y => if xs.contains y = true then u y else m₀ y) → News h₀ env.locals h (nx ++ own) →
      wpAny (model prog w) A (assign (.Name x px) env (.int (i : Int) t)) (fun _ s₂ => wpAny (model prog w) A (execs body env) (InvX h₀ env.locals m₀ xs (J (i + 1)) own { s with heap := h, toks := tk } Q) E s₂) E { s with heap := h, toks := tk })
    (done : ∀ u nx h tk, J n u nx → Fr h₀ env.locals h (fun y => if xs.contains y = true then u y else m₀ y) → News h₀ env.locals h nx → Q .next { s with heap := h, toks := tk }) :
    wpAny (model prog w) A (pyIter (.ref r)) (fun it s₂ => TurnsAt prog w A h₀ env (.Name x px) body Q E it s₂) E s := by
  have hn := fit_line hz
  rw [sizeLine_eq] at hz
  have hsmall : Builtin.Range.small 0 (n : Int) 1 = true := small_one (by decide) (by decide) (by omega) (by omega)
  have hsize : Builtin.Range.rangeSize 0 (n : Int) 1 = (n : Int) := by
    have q := rangeSize_nat 0 (n : Int)
    rw [q]; simp
  refine wpAny_pyIter_range hr hsmall ?_
  have W := KTurns.ofWalks (target := .Name x px) (Walks.range (prog := prog) (w := w) hh s.heap.objs.size 0 1 n) fun i v s Q E st q => wpAny_pure q
  refine ⟨_, _, _, n, _, _, _, m₀, news, (fun i m nx => (∀ z, xs.contains z = false → m z = m₀ z) ∧ J i m nx), rfl, W, ?_, ?_, ?_, (by rw [hsize]; simpa using Heap.get?_push_size _ rfl), F.push _, (fun p hp => ⟨Heap.get?_push_of_some _ (N p hp).1, (N p hp).2⟩), ⟨fun _ _ => rfl, hj⟩, ?_, ?_⟩
  · intro hm
    exact absurd F.ns.lt ((List.mem_singleton.mp hm) ▸ Nat.lt_irrefl _)
  · intro b hb
    rw [List.mem_singleton.mp hb]
    exact next_is_new F
  · intro p hp hI
    exact absurd (Heap.lt_size (N p hp).1) ((List.mem_singleton.mp hI) ▸ Nat.lt_irrefl _)
  · rintro i v m₁ nx hh' tk' own hin ⟨t, rfl⟩ hJi hoff hown hget hfp hst F₁ N₁
    have hI0 : h₀.get? s.heap.objs.size = none := next_is_new F
    have hst' : ∃ o, hh'.get? s.heap.objs.size = some o := ⟨_, hst⟩
    obtain ⟨oI, hoI⟩ := hst'
    have hIown : (s.heap.objs.size, oI) ∈ own := hfp _ (List.mem_cons.mpr (.inl rfl)) hI0 _ hoI
    have hsep : OwnOff own (nx.map (·.1)) := by
      intro p hp b hb e
      obtain ⟨q, hq, rfl⟩ := List.mem_map.mp hb
      have h1 : p.1 = s.heap.objs.size := List.mem_singleton.mp (hown p hp)
      exact hoff q hq (List.mem_singleton.mpr (e ▸ h1))
    have N₂ : News h₀ env.locals hh' (nx ++ own) := fun p hp => N₁ p ((List.mem_append.mp hp).elim (fun h => List.mem_append.mpr (.inr h)) fun h => List.mem_append.mpr (.inl h))
    have ei : (0 : Int) + (i : Int) * 1 = (i : Int) := by omega
    rw [ei]
    refine wpAny_mono (turn i t m₁ nx hh' tk' own hin hsep hJi.2 (fr_over F₁ hJi.1) N₂) (fun _ s₂ p => wpAny_mono p (fun f s₃ q => ?_) fun _ _ e => e) fun _ _ e => e
    have fin : InvEndG h₀ env.locals (fun m' nx => (∀ z, xs.contains z = false → m' z = m₀ z) ∧ J (i + 1) m' nx) own { s with heap := hh', toks := tk' } s₃ →
        LoopStepU h₀ env.locals [s.heap.objs.size] own (fun m nx => (∀ z, xs.contains z = false → m z = m₀ z) ∧ J (i + 1) m nx) { s with heap := hh', toks := tk' } .next s₃ := by
      rintro ⟨h', tk, m', news', nx', e, F', N', hn, ho, ha, hm⟩
      refine ⟨rfl, h', tk, m', nx', e, F', fun p hp => ?_, fun p hp hq => ?_, hm⟩
      · rcases List.mem_append.mp hp with h | h
        · exact N' p (ho p h)
        · exact N' p (hn p h)
      · exact ha _ hIown p.1 (List.mem_map.mpr ⟨p, hp, rfl⟩) (List.mem_singleton.mp hq).symm
    cases f with
    | ret v => exact .ret q
    | brk => exact .brk q
    | next => exact .next (fin q)
    | cont => exact .cont (fin q)
  · intro h' tk m' news' F' N' _ hJn
    exact done m' news' h' tk hJn.2 (fr_over F' hJn.1) N'
end

theorem fr_name {h₀ h : Heap} {L : Addr} {m : Str → Option Value} {x : Str} {v : Value} (F : Fr h₀ L h m) (hv : m x = some v) : Fr h₀ L h (fun y => if y = x then some v else m y) := by
  have e : (fun y => if y = x then some v else m y) = m := by
    funext y
    by_cases h : y = x
    · rw [if_pos h, h, hv]
    · rw [if_neg h]
  rw [e]; exact F

theorem hold_it {P : Prop} (h : Hold P) : P := h
section
variable {prog : Program} {w : World} {A : Around} {E : Value → Shared → Prop} {Q : Flow → Shared → Prop} {s : Shared} {env : Env} {h₀ : Heap} {L : Addr}
theorem whileX {test : PySem.Expr} {body : List Stmt} {pos : Pos} {m₀ : Str → Option Value} {news : List (Addr × Obj)} (xs : List Str) (J : Nat → (Str → Option Value) → List (Addr × Obj) → Prop) {n₀ : Nat}
    (F : Fr h₀ L s.heap m₀) (N : News h₀ L s.heap news) (hJ : J n₀ m₀ news)
    (turn : ∀ n u nx h tk, J n u nx → Fr h₀ L h (fun y => if xs.contains y = true then u y else m₀ y) → News h₀ L h nx →
      wpAny (model prog w) A (isTrue test env (eval test env)) (fun b s₂ =>
        if b = true then wpAny (model prog w) A (execs body env) (WhileStep2 h₀ L s (fun n m nx => (∀ z, xs.contains z = false → m z = m₀ z) ∧ J n m nx) Q n) E s₂ else Q .next s₂) E { s with heap := h, toks := tk })
    (hE : PassesOwn (model prog w) A env E := by passes_own) :
    wpAny (model prog w) A (exec (.While test body [] pos) env) Q E s :=
  While_inv2 (fun n m nx => (∀ z, xs.contains z = false → m z = m₀ z) ∧ J n m nx) F N ⟨fun _ _ => rfl, hJ⟩ (fun n m₁ nx h tk F₁ N₁ hj => turn n m₁ nx h tk hj.2 (fr_over F₁ hj.1) N₁) hE
theorem endW {xs : List Str} {J : Nat → (Str → Option Value) → List (Addr × Obj) → Prop} {n n' : Nat} {h' : Heap} {tk : Nat} {m₀ m' : Str → Option Value} {news' : List (Addr × Obj)} (nx : List (Addr × Obj))
    (F : Fr h₀ L h' m') (N : News h₀ L h' news') (hs : ∀ p ∈ nx, p ∈ news') (hn : n' < n) (hm : ∀ z, xs.contains z = false → m' z = m₀ z) (hj : J n' m' nx) :
    WhileStep2 h₀ L s (fun n m nx => (∀ z, xs.contains z = false → m z = m₀ z) ∧ J n m nx) Q n .next { s with heap := h', toks := tk } :=
  ⟨h', tk, m', nx, n', rfl, F, fun p hp => N p (hs p hp), hn, hm, hj⟩
end

theorem JL.more {O : Addr} {base tl add : List (Addr × Obj)} {f : Nat → List (Int × Int)} {i : Nat} {m : Str → Option Value} {o : Obj} (us' : List Value) (k' : Nat)
    (hne : ∀ p ∈ base ++ tl, p.1 ≠ O) (hab : Above base tl) (hadd : Above ((O, o) :: (base ++ tl)) add) (D : DatAll (tl ++ add) us' ((f i).map pd)) :
    JL O base f i m ((O, listOf (List.toArray us') k') :: (base ++ (tl ++ add))) := by
  refine ⟨us', k', tl ++ add, rfl, ?_, above_app hab hadd fun p hp => .tail _ (List.mem_append.mpr (.inl hp)), D⟩
  rw [← List.append_assoc]
  exact ne_app hne (ne_lt hadd (.head _))
theorem nat_up {v : Nat} {t : Tok} : (some (Value.int ((v : Int) + 1) t) : Option Value) = some (Value.int ((v + 1 : Nat) : Int) t) := by
  rw [Int.natCast_add]; rfl

theorem mem_use {l l' : List (Addr × Obj)} {a : Addr} {o : Obj} (h : (a, o) ∈ l) (s : ∀ p ∈ l, p ∈ l') : (a, o) ∈ l' := s _ h

/-- as JL, some of the items made before; and the name x holds an int -/
def JI (x : Str) (O : Addr) (base old : List (Addr × Obj)) (f : Nat → List (Int × Int)) (g : Nat → Int) (i : Nat) (u : Str → Option Value) (nx : List (Addr × Obj)) : Prop :=
  (∃ t, u x = some (.int (g i) t)) ∧ ∃ us k tl, nx = (O, listOf (List.toArray us) k) :: (base ++ tl) ∧ (∀ p ∈ base ++ tl, p.1 ≠ O) ∧ Above base tl ∧ DatAll (old ++ tl) us ((f i).map pd)
theorem endI {x : Str} {h₀ h' : Heap} {L O : Addr} {m₀ m' : Str → Option Value} {base old tl add own : List (Addr × Obj)} {f : Nat → List (Int × Int)} {g : Nat → Int} {i : Nat} {xs : List Str} {s₁ : Shared} {tk : Nat} {o : Obj} (us' : List Value) (k' : Nat) (F : Fr h₀ L h' m') {news' : List (Addr × Obj)} (N : News h₀ L h' news')
    (hn : ∀ p ∈ (O, listOf (List.toArray us') k') :: (base ++ (tl ++ add)), p ∈ news') (ho : ∀ p ∈ own, p ∈ news') (hoff : OwnOff own (((O, o) :: (base ++ tl)).map (·.1)))
    (hne : ∀ p ∈ base ++ tl, p.1 ≠ O) (hab : Above base tl) (hadd : Above ((O, o) :: (base ++ (tl ++ own))) add) (hm : ∀ z, xs.contains z = false → m' z = m₀ z)
    (hx : ∃ t, m' x = some (.int (g (i + 1)) t)) (D : DatAll (old ++ (tl ++ add)) us' ((f (i + 1)).map pd)) :
    InvEndG h₀ L (fun m' nx => (∀ z, xs.contains z = false → m' z = m₀ z) ∧ JI x O base old f g (i + 1) m' nx) own s₁ { s₁ with heap := h', toks := tk } := by
  have hown : OwnOff own (add.map (·.1)) := off_lt hadd fun p hp => .tail _ (List.mem_append.mpr (.inr (List.mem_append.mpr (.inr hp))))
  have hO : ∀ p ∈ own, p.1 ≠ O := ne_own hoff (.head _)
  have hoff' : OwnOff own ((base ++ tl).map (·.1)) := off_tail hoff
  refine endX ((O, listOf (List.toArray us') k') :: (base ++ (tl ++ add))) F N hn ho ?_ hm ⟨hx, us', k', tl ++ add, rfl, ?_, above_app hab hadd fun p hp => .tail _ (List.mem_append.mpr (.inl hp)), D⟩
  · rw [← List.append_assoc]
    exact off_cons hO (off_app hoff' hown)
  · rw [← List.append_assoc]
    exact ne_app hne (ne_lt hadd (.head _))

theorem endI1 {x : Str} {h₀ h' : Heap} {L O D : Addr} {o₅ : Obj} {m₀ m' : Str → Option Value} {base old tl own X : List (Addr × Obj)} {f : Nat → List (Int × Int)} {g : Nat → Int} {i : Nat} {xs : List Str} {s₁ : Shared} {tk : Nat} {o : Obj} (us' : List Value) (k' : Nat) (F : Fr h₀ L h' m') (N : News h₀ L h' ((D, o₅) :: (O, listOf (List.toArray us') k') :: X))
    (hX : ∀ p ∈ base ++ (tl ++ own), p ∈ X) (hoff : OwnOff own (((O, o) :: (base ++ tl)).map (·.1)))
    (hne : ∀ p ∈ base ++ tl, p.1 ≠ O) (hab : Above base tl) (hlt : ∀ q ∈ (O, o) :: (base ++ (tl ++ own)), q.1 < D) (hm : ∀ z, xs.contains z = false → m' z = m₀ z)
    (hx : ∃ t, m' x = some (.int (g (i + 1)) t)) (hD : DatAll (old ++ (tl ++ [(D, o₅)])) us' ((f (i + 1)).map pd)) :
    InvEndG h₀ L (fun m' nx => (∀ z, xs.contains z = false → m' z = m₀ z) ∧ JI x O base old f g (i + 1) m' nx) own s₁ { s₁ with heap := h', toks := tk } := by
  refine endI (add := [(D, o₅)]) us' k' F N (fun p hp => ?_) (fun p hp => .tail _ (.tail _ (hX p (List.mem_append.mpr (.inr (List.mem_append.mpr (.inr hp))))))) hoff hne hab (above_lt hlt) hm hx hD
  rcases List.mem_cons.mp hp with rfl | hp
  · exact .tail _ (.head _)
  · rcases List.mem_append.mp hp with hp | hp
    · exact .tail _ (.tail _ (hX p (List.mem_append.mpr (.inl hp))))
    · rcases List.mem_append.mp hp with hp | hp
      · exact .tail _ (.tail _ (hX p (List.mem_append.mpr (.inr (List.mem_append.mpr (.inl hp))))))
      · rw [List.mem_singleton.mp hp]
        exact .head _

theorem endJ2 {h₀ h' : Heap} {L O : Addr} {m₀ m' : Str → Option Value} {base tl add own : List (Addr × Obj)} {f : Nat → List (Int × Int)} {i : Nat} {xs : List Str} {s₁ : Shared} {tk : Nat} {o : Obj} (us' : List Value) (k' : Nat) (F : Fr h₀ L h' m') {news' : List (Addr × Obj)} (N : News h₀ L h' news')
    (hn : ∀ p ∈ (O, listOf (List.toArray us') k') :: (base ++ (tl ++ add)), p ∈ news') (ho : ∀ p ∈ own, p ∈ news') (hoff : OwnOff own (((O, o) :: (base ++ tl)).map (·.1)))
    (hne : ∀ p ∈ base ++ tl, p.1 ≠ O) (hab : Above base tl) (hneA : ∀ p ∈ add, p.1 ≠ O) (hadd : Above (base ++ (tl ++ own)) add) (hm : ∀ z, xs.contains z = false → m' z = m₀ z)
    (D : DatAll (tl ++ add) us' ((f (i + 1)).map pd)) :
    InvEndG h₀ L (fun m' nx => (∀ z, xs.contains z = false → m' z = m₀ z) ∧ JL O base f (i + 1) m' nx) own s₁ { s₁ with heap := h', toks := tk } := by
  have hown : OwnOff own (add.map (·.1)) := off_lt hadd fun p hp => List.mem_append.mpr (.inr (List.mem_append.mpr (.inr hp)))
  have hO : ∀ p ∈ own, p.1 ≠ O := ne_own hoff (.head _)
  have hoff' : OwnOff own ((base ++ tl).map (·.1)) := off_tail hoff
  refine endX ((O, listOf (List.toArray us') k') :: (base ++ (tl ++ add))) F N hn ho ?_ hm ⟨us', k', tl ++ add, rfl, ?_, above_app hab hadd fun p hp => List.mem_append.mpr (.inl hp), D⟩
  · rw [← List.append_assoc]
    exact off_cons hO (off_app hoff' hown)
  · rw [← List.append_assoc]
    exact ne_app hne hneA
theorem endJ3 {h₀ h' : Heap} {L O D : Addr} {o₅ : Obj} {m₀ m' : Str → Option Value} {base tl add own X : List (Addr × Obj)} {f : Nat → List (Int × Int)} {i : Nat} {xs : List Str} {s₁ : Shared} {tk : Nat} {o : Obj} (us' : List Value) (k' : Nat) (F : Fr h₀ L h' m') (N : News h₀ L h' ((D, o₅) :: (O, listOf (List.toArray us') k') :: X))
    (hX : ∀ p ∈ base ++ (tl ++ (own ++ add)), p ∈ X) (hoff : OwnOff own (((O, o) :: (base ++ tl)).map (·.1)))
    (hne : ∀ p ∈ base ++ tl, p.1 ≠ O) (hab : Above base tl) (hneA : ∀ p ∈ add, p.1 ≠ O) (hadd : Above (base ++ (tl ++ own)) add) (hD1 : O < D) (hlt : ∀ q ∈ base ++ (tl ++ own), q.1 < D) (hm : ∀ z, xs.contains z = false → m' z = m₀ z)
    (hD : DatAll (tl ++ (add ++ [(D, o₅)])) us' ((f (i + 1)).map pd)) :
    InvEndG h₀ L (fun m' nx => (∀ z, xs.contains z = false → m' z = m₀ z) ∧ JL O base f (i + 1) m' nx) own s₁ { s₁ with heap := h', toks := tk } := by
  refine endJ2 (add := add ++ [(D, o₅)]) us' k' F N (fun p hp => ?_) (fun p hp => .tail _ (.tail _ (hX p (List.mem_append.mpr (.inr (List.mem_append.mpr (.inr (List.mem_append.mpr (.inl hp))))))))) hoff hne hab
    (ne_app hneA (ne_cons (Nat.ne_of_gt hD1) ne_nil)) (fun q hq p hp => (List.mem_append.mp hp).elim (hadd q hq p) (above_lt hlt q hq p)) hm hD
  rcases List.mem_cons.mp hp with rfl | hp
  · exact .tail _ (.head _)
  · rcases List.mem_append.mp hp with hp | hp
    · exact .tail _ (.tail _ (hX p (List.mem_append.mpr (.inl hp))))
    · rcases List.mem_append.mp hp with hp | hp
      · exact .tail _ (.tail _ (hX p (List.mem_append.mpr (.inr (List.mem_append.mpr (.inl hp))))))
      · rcases List.mem_append.mp hp with hp | hp
        · exact .tail _ (.tail _ (hX p (List.mem_append.mpr (.inr (List.mem_append.mpr (.inr (List.mem_append.mpr (.inr hp))))))))
        · rw [List.mem_singleton.mp hp]
          exact .head _

end Mine
end

/-! ## Plain -/
section
open PySem PySem.W PyProof.Rows PySem.Calls PySem.Spec
namespace Mine
local macro_rules | `(tactic| walk_at "my sub") => `(tactic| (intro p9 h9; (simp only [List.mem_append, List.mem_cons, List.not_mem_nil, or_false, false_or] at h9 ⊢); (repeat' (refine Or.elim h9 ?_ ?_ <;> clear h9 <;> intro h9)) <;> (simp only [h9, true_or, or_true]; done)))
local macro_rules | `(tactic| walk_at "my same") => `(tactic| (intro z9 h9; (try dsimp only); (simp only [List.contains_cons, List.contains_nil, Bool.or_false, Bool.or_eq_false_iff, beq_eq_false_iff_ne, ne_eq] at h9); (simp [h9]; done)))
local macro_rules | `(tactic| walk_at "my mem") => `(tactic| first | exact List.Mem.head _ | (refine List.Mem.tail _ ?_; walk_at "my mem"))
local macro_rules | `(tactic| walk_at "my ne") => `(tactic| first
  | assumption
  | exact ne_nil
  | exact ne_all (by assumption)
  | exact ne_allSub (And.right (by assumption)) (by walk_at "my sub")
  | exact ne_own (by assumption) (by walk_at "my mem")
  | exact ne_lt (by assumption) (by walk_at "my mem")
  | (refine ne_app ?_ ?_ <;> walk_at "my ne")
  | (refine ne_cons (by (refine neN ?_; (try dsimp only); omega)) ?_; walk_at "my ne"))
local macro_rules | `(tactic| walk_at "my lt") => `(tactic| first
  | assumption
  | exact lt_nil
  | exact lt_all (by assumption) (by walk_at "my sub")
  | (refine lt_cons (by (try dsimp only); omega) ?_; walk_at "my lt")
  | (refine lt_app ?_ ?_ <;> walk_at "my lt"))
local macro_rules | `(tactic| k_all) => `(tactic| walk_at "my ne")
local macro_rules | `(tactic| walk_at "my off") => `(tactic| first
  | assumption
  | exact off_nil
  | exact off_lt (by assumption) (by walk_at "my sub")
  | exact off_tail (by assumption)
  | (refine off_app ?_ ?_ <;> walk_at "my off")
  | (refine off_cons (by walk_at "my ne") ?_; walk_at "my off"))
local macro_rules | `(tactic| walk_at "exec For") => `(tactic| (k_here; (rename Fr _ _ _ _ => lF'); (with_unfolding_all refine' For_hold lF' ?_); k_whole))
local macro_rules | `(tactic| walk_at "exec For Name Name cons nil") => `(tactic| (k_here; (rename Fr _ _ _ _ => lF'); (with_unfolding_all refine' For_hold lF' ?_); k_whole))
local macro_rules | `(tactic| walk_at "exec For Name Call cons nil") => `(tactic| (k_here; (rename Fr _ _ _ _ => lF'); (with_unfolding_all refine' For_hold lF' ?_); k_whole))
local macro_rules | `(tactic| walk_at "exec For Tuple Name cons nil") => `(tactic| (k_here; (rename Fr _ _ _ _ => lF'); (with_unfolding_all refine' For_hold lF' ?_); k_whole))
local macro_rules | `(tactic| walk_at "exec For Tuple Call cons nil") => `(tactic| (k_here; (rename Fr _ _ _ _ => lF'); (with_unfolding_all refine' For_hold lF' ?_); k_whole))
local macro_rules | `(tactic| walk_at "exec For Name Subscript cons nil") => `(tactic| (k_here; (rename Fr _ _ _ _ => lF'); (with_unfolding_all refine' For_hold lF' ?_); k_whole))
local macro_rules | `(tactic| walk_at "call builtin:list.append") => `(tactic| (k_here; (show wpAny _ _ (call (Value.builtin "list.append") [Value.ref _, _]) _ _ _); k_dflt (refine' append_K ?k1 ?k2 ?k3 ?_ ?z; (case k1 => k_asm); (case k2 => k_asm); (case k3 => k_upd); (case z => first | assumption | size_fits); k_whole); intro h' F' N'; (try k_sweep)))
local macro_rules | `(tactic| walk_at "call builtin:len") => `(tactic| (k_here; (show wpAny _ _ (call (Value.builtin "len") [Value.ref _]) _ _ _); k_dflt (first
  | (refine' len_listN ?k1 ?k2 ?z ?_; (case k1 => k_asm); (case k2 => k_mem); (case z => assumption); k_whole)
  | (refine' len_tupN ?k1 ?k2 ?z ?_; (case k1 => k_asm); (case k2 => k_mem); (case z => assumption); k_whole)); intro t9 tk9; (try dsimp only)))
local macro_rules | `(tactic| walk_at "subscriptTail") => `(tactic| (k_here; (show wpAny _ _ (subscriptTail _ _ (Value.ref _) (Value.int (-1) _)) _ _ _); k_dflt (refine' back_tailN ?k1 ?k2 ?_ ?k3; (case k1 => k_asm); (case k2 => k_mem); (case k3 => with_unfolding_all rfl); k_whole)))
local macro_rules | `(tactic| walk_at "getItem ref int") => `(tactic| (k_here; (show wpAny _ _ (getItem (Value.ref _) (Value.int (-1) _)) _ _ _); k_dflt (refine' back_listN ?k1 ?k2 ?_; (case k1 => k_asm); (case k2 => k_mem); k_whole)))
local macro_rules | `(tactic| walk_at "setItem ref int") => `(tactic| (k_here; (show wpAny _ _ (setItem (Value.ref _) (Value.int (-1) _) _) _ _ _); k_dflt (refine' set_backN ?k1 ?k2 ?k3 ?_; (case k1 => k_asm); (case k2 => k_asm); (case k3 => k_upd); k_whole); intro h' F' N'; (try k_sweep)))
local macro_rules | `(tactic| walk_at "call type:tuple") => `(tactic| (k_here; (show wpAny _ _ (call (Value.type "tuple") [Value.ref _]) _ _ _); k_dflt (refine' tupleN ?k1 ?k2 ?k3 ?z ?_; (case k1 => k_asm); (case k2 => k_asm); (case k3 => k_mem); (case z => assumption); k_whole); intro D' h' F' N' l1; (try k_lt l1); (try k_sweep)))
local macro_rules | `(tactic| walk_at "subscriptTail") => `(tactic| (k_here; (show wpAny _ _ (subscriptTail _ _ (Value.ref _) (Value.int _ _)) _ _ _); k_dflt (refine' at_tupN ?k1 ?k2 ?k3 ?k4 ?k5 ?_ ?k6; (case k1 => k_asm); (case k2 => k_mem); (case k5 => assumption); (case k3 => omega); (case k4 => omega); (case k6 => with_unfolding_all rfl); k_whole)))
local macro_rules | `(tactic| k_mem) => `(tactic| exact mem_use (by assumption) (by walk_at "my sub"))
def plainT : Deed (List (Int × Int)) where
  Rel := fun news vs d => ∃ v t, vs = [v, .int 0 t] ∧ SetIn news v d
  Ok := fun d => (∀ p ∈ d, 0 < p.1 ∧ 0 < p.2) ∧ d.length < 64
  deep := 2
  Out := fun news r d => SetIn news r (plain d)
local macro_rules | `(tactic| walk_at "call ref") => `(tactic| (k_here; (with_reducible show wpAny _ _ (call (Value.ref 68) _) _ _ _); k_dflt (
  refine' does_use (ends_does _ _ _ _) ?k1 ?k2 ?k3 ?k4 ?k5 ?kK ?kR ?ko ?kd ?ku ?_; (case k1 => k_asm); (case k2 => k_asm); (case k3 => k_asm); (case k4 => k_asm); (case k5 => k_asm); (case kK => exact rfl); (case kd => dsimp only [endsT]; ktr_room); (case ku => dsimp only [endsT]; ktr_units);
  (case kR => exact ⟨_, _, rfl, by assumption⟩); (case ko => (dsimp only [endsT]; exact ⟨by assumption, by assumption⟩));
  intro r9 tl9 h9 tk9 F9 N9 hl9 ho9; (simp only [List.cons_append, List.append_assoc] at N9); (obtain ⟨a9, n9, t9, u9, e9, hm9⟩ := pd_open ho9); subst e9; clear hm9; (try dsimp only); (try k_fold))))

theorem plain_does (w : World) (mean : ExcName → Option Value) (mg mb : Str → Option Value) : Does w mean mg mb 75 plainT := by
  w_on
  unfold Does
  k_fill
  intro d dp un gd cn cs a ccd cl outer A₀ base h₀ L m news s vs Q E B F X N T hk hR hok hd hu hret
  obtain ⟨v, t, rfl, hv⟩ := hR
  obtain ⟨a1, ws, n1, rfl, hm, hds⟩ := set_open hv
  obtain ⟨ok1, ok2⟩ := hok
  dsimp only [plainT] at hd hu hret
  clear hv
  have hlen := hds.length
  rw [List.length_map] at hlen
  refine wpAny_call ?_
  k_dflt ktr_enter
  k_steps
  rename_i P h1 l1 h2 F1 N1
  unfold Hold
  refine loopX_tup [Str.ofString "pair", Str.ofString "ends"] (JL P news fun i => (d.take i).map endsP) ?_ (.tail _ hm) F1 N1 ?_ ?_ ?_ ?_
  · exact rfl
  · exact JL.start rfl fun p hp => Nat.ne_of_lt (l1 p hp)
  · rintro i m nx ⟨us, k, tl, rfl, -⟩
    exact .tail _ (List.mem_append.mpr (.inl hm))
  · rintro i v m₁ nx h tk own hi hv hoff ⟨us, k, tl, rfl, hne, hab, hus⟩ F₁ N₁
    clear F1 N1
    have hne1 := ne_left hne
    have hne2 := ne_right hne
    dsimp only at hus
    dsimp only [envOf] at F₁ N₁
    simp only [List.cons_append, List.append_assoc] at N₁
    have hi' : i < d.length := by omega
    obtain ⟨v', hv', hdv⟩ := hds.get (k := i) (by rw [List.length_map]; exact hi')
    rw [hv] at hv'
    cases hv'
    rw [List.getElem_map] at hdv
    obtain ⟨okx, oky⟩ := ok1 _ (List.getElem_mem hi')
    have hdv2 : DatIn ((P, listOf (List.toArray us) k) :: (news ++ (tl ++ own))) v (pd d[i]) := hdv.mono fun p hp => .tail _ (List.mem_append.mpr (.inl hp))
    have hlen2 := hus.length
    rw [List.length_map, List.length_map, List.length_take] at hlen2
    have hsz : us.toArray.size ≤ sizeLine := by rw [List.size_toArray, sizeLine_eq]; omega
    k_steps
    rename Above _ _ => hl9
    rename Deed.Out endsT _ _ _ => ho9
    rename Fr _ _ _ _ => F2
    rename News _ _ _ _ => N2
    rename_i hA tl9 h9 tk9 a9 n9 t9 u9 hB hC
    rw [List.push_toArray] at N2
    refine endJ (add := tl9) (us ++ [Value.ref a9]) (k + 1) F2 N2 ?_ ?_ hoff hne hab hl9 ?_ ?_
    · walk_at "my sub"
    · walk_at "my sub"
    · walk_at "my same"
    · rw [List.take_add_one, List.getElem?_eq_getElem hi', List.map_append, List.map_append]
      exact (hus.mono fun p hp => List.mem_append.mpr (.inl hp)).append (.one (ho9.mono fun p hp => List.mem_append.mpr (.inr hp)))
  · rintro u nx h tk ⟨us, k, tl, rfl, hne, hab, hus⟩ F₁ N₁
    clear F1 N1
    dsimp only at hus
    rw [hlen, List.take_length] at hus
    dsimp only [envOf] at F₁ N₁
    dsimp only
    k_steps
    refine sort_pairs (l := d.map endsP) F₁ N₁ hne (hus.mono fun p hp => List.mem_append.mpr (.inr hp)) (by rw [List.length_map]; exact ok2) fun us' l' k' h' F₂ N₂ D₂ hperm hpw => ?_
    clear F₁ N₁
    k_steps
    rename Fr _ _ _ _ => F₃
    rename News _ _ _ _ => N₃
    rename_i O h3 l2 h4
    have hlen2 := D₂.length
    rw [List.length_map] at hlen2
    have hlen3 := hperm.length_eq
    rw [List.length_map] at hlen3
    unfold Hold
    refine loopX_list [Str.ofString "low", Str.ofString "high"] (JL O ((P, listOf (List.toArray us') k') :: (news ++ tl)) fun i => mgl (l'.take i)) ?_ (.tail _ (.head _)) F₃ N₃ ?_ ?_ ?_ ?_
    · exact rfl
    · exact JL.start rfl (ne_all l2)
    · rintro i m nx ⟨us, k, tl, rfl, -⟩
      exact .tail _ (.head _)
    · rintro i v m₁ nx h tk own hi hv hoff ⟨vs, kv, tl', rfl, hne', hab', hvs⟩ F₁ N₁
      clear F₃ N₃
      have hne1 := ne_left hne'
      have hne2 := ne_right hne'
      have hne3 := ne_cons_tail hne1
      have hne4 := ne_left hne3
      have hne5 := ne_right hne3
      have hne6 : P ≠ O := hne1 _ (.head _)
      dsimp only at hvs
      dsimp only [envOf] at F₁ N₁
      simp only [List.cons_append, List.append_assoc] at N₁
      have hi' : i < l'.length := by omega
      obtain ⟨v', hv', hdv⟩ := D₂.get (k := i) (by rw [List.length_map]; exact hi')
      rw [hv] at hv'
      cases hv'
      rw [List.getElem_map] at hdv
      obtain ⟨b2, n2, t2, u2, rfl, hm2⟩ := pd_open hdv
      have hm3 : (b2, ({ cls := .type "tuple", data := .seq #[.int (l'[i]).1 t2, .int (l'[i]).2 u2] n2 } : Obj)) ∈ (O, listOf (List.toArray vs) kv) :: (P, listOf (List.toArray us') k') :: (news ++ (tl ++ (tl' ++ own))) := by
        refine .tail _ (.tail _ ?_)
        rw [← List.append_assoc]
        exact List.mem_append.mpr (.inl hm2)
      have hvl := hvs.length
      rw [List.length_map] at hvl
      have hvl2 := mgl_length (l'.take i)
      rw [List.length_take] at hvl2
      have hstep : mgl (l'.take (i + 1)) = stepM (mgl (l'.take i)) l'[i] := by
        rw [List.take_add_one, List.getElem?_eq_getElem hi']
        exact mgl_snoc _ _
      have hsz : vs.toArray.size ≤ sizeLine := by rw [List.size_toArray, sizeLine_eq]; omega
      generalize l'[i] = q at *
      obtain ⟨x, y⟩ := q
      generalize mgl (l'.take i) = out at *
      dsimp only at hm3
      rcases nil_or_snoc vs with rfl | ⟨vi, vl, rfl⟩
      · have e0 : out = [] := List.eq_nil_of_length_eq_zero hvl.symm
        subst e0
        k_steps
        rename Fr _ _ _ _ => F2
        rename News _ _ _ _ => N2
        rename_i D5 h5 l5 h6
        obtain ⟨l5, l6, l7⟩ := l5
        rw [List.push_toArray] at N2
        refine endJ (add := [(D5, { cls := .type "tuple", data := .seq #[.int x t2, .int y u2] })]) ([] ++ [Value.ref D5]) (kv + 1) F2 N2 ?_ ?_ hoff hne' hab' (above_lt (by walk_at "my lt")) ?_ ?_
        · walk_at "my sub"
        · walk_at "my sub"
        · walk_at "my same"
        · rw [hstep]
          exact .one (pd_in (List.mem_append.mpr (.inr (.head _))))
      · rcases nil_or_snoc out with rfl | ⟨oi, q, rfl⟩
        · simp at hvl
        · rw [List.map_append] at hvs
          obtain ⟨es, e, e1, hvi, hvl3⟩ := hvs.snoc
          obtain ⟨rfl, e2⟩ := List.append_inj' e1 rfl
          obtain rfl : pd q = e := by simpa using e2
          obtain ⟨qx, qy⟩ := q
          obtain ⟨c, n3, t3, u3, rfl, hm4⟩ := pd_open hvl3
          dsimp only at hm4
          have hm5 : (c, ({ cls := .type "tuple", data := .seq #[.int qx t3, .int qy u3] n3 } : Obj)) ∈ (O, listOf (List.toArray (vi ++ [.ref c])) kv) :: (P, listOf (List.toArray us') k') :: (news ++ (tl ++ (tl' ++ own))) :=
            .tail _ (.tail _ (List.mem_append.mpr (.inr (List.mem_append.mpr (.inr (List.mem_append.mpr (.inl hm4)))))))
          clear e1 e2
          k_steps
          · rename x ≤ qy + 1 => hle
            rename Fr _ _ _ _ => F2
            rename News _ _ _ _ => N2
            rename_i D5 h5 l5 h6
            obtain ⟨l5, l6, l7⟩ := l5
            refine endJ (add := [(D5, { cls := .type "tuple", data := .seq #[.int qx t3, .int (if y > qy then y else qy) (if y > qy then u2 else u3)] })]) (vi ++ [Value.ref D5]) kv F2 N2 ?_ ?_ hoff hne' hab' (above_lt (by walk_at "my lt")) ?_ ?_
            · walk_at "my sub"
            · walk_at "my sub"
            · walk_at "my same"
            · rw [hstep, stepM_in hle, List.map_append]
              exact (hvi.mono fun p hp => List.mem_append.mpr (.inl hp)).append (.one (pd_in (List.mem_append.mpr (.inr (.head _)))))
          · rename ¬ x ≤ qy + 1 => hle
            rename Fr _ _ _ _ => F2
            rename News _ _ _ _ => N2
            rename_i D5 h5 l5 h6
            obtain ⟨l5, l6, l7⟩ := l5
            rw [List.push_toArray] at N2
            refine endJ (add := [(D5, { cls := .type "tuple", data := .seq #[.int x t2, .int y u2] })]) ((vi ++ [Value.ref c]) ++ [Value.ref D5]) (kv + 1) F2 N2 ?_ ?_ hoff hne' hab' (above_lt (by walk_at "my lt")) ?_ ?_
            · walk_at "my sub"
            · walk_at "my sub"
            · walk_at "my same"
            · rw [hstep, stepM_out hle, List.map_append, List.map_append]
              exact (hvs.mono fun p hp => List.mem_append.mpr (.inl hp)).append (.one (pd_in (List.mem_append.mpr (.inr (.head _)))))
          · rename ¬ (0 : Int) < _ => h9
            exfalso
            simp only [List.length_append, List.length_cons] at h9
            omega
    · rintro u2 nx h tk ⟨vs, kv, tl', rfl, hne', hab', hvs⟩ F₁ N₁
      clear F₃ N₃
      dsimp only at hvs
      dsimp only [envOf] at F₁ N₁
      dsimp only
      rw [hlen2, List.take_length] at hvs
      have hvl := hvs.length
      rw [List.length_map] at hvl
      have hvl2 := mgl_length l'
      have hz : vs.length ≤ 16384 := by omega
      k_steps
      rename Fr h₀ L _ m => F2
      rename News h₀ L _ _ => N2
      rename_i D5 h5 F5 N5 l5 T5 X5
      obtain ⟨l5, l6⟩ := l5
      have e := sortP_eq hperm hpw
      subst e
      refine hret _ ((D5, tupO vs 0) :: tl') _ _ F2 (fun p hp => N2 p ?_) (above_cons (by walk_at "my lt") (above_sub hab' (by walk_at "my sub"))) (.tuple (.head _) (hvs.mono fun p hp => .tail _ hp))
      revert p
      walk_at "my sub"

end Mine
end

/-! ## Settled -/
section
open PySem PySem.W PyProof.Rows PySem.Calls PySem.Spec
namespace Mine
local macro_rules | `(tactic| walk_at "my sub") => `(tactic| (intro p9 h9; (simp only [List.mem_append, List.mem_cons, List.not_mem_nil, or_false, false_or] at h9 ⊢); (repeat' (refine Or.elim h9 ?_ ?_ <;> clear h9 <;> intro h9)) <;> (simp only [h9, true_or, or_true]; done)))
local macro_rules | `(tactic| walk_at "my same") => `(tactic| (intro z9 h9; (try dsimp only); (simp only [List.contains_cons, List.contains_nil, Bool.or_false, Bool.or_eq_false_iff, beq_eq_false_iff_ne, ne_eq] at h9); (simp [h9]; done)))
local macro_rules | `(tactic| walk_at "my mem") => `(tactic| first | exact List.Mem.head _ | (refine List.Mem.tail _ ?_; walk_at "my mem"))
local macro_rules | `(tactic| walk_at "my ne") => `(tactic| first
  | assumption
  | exact ne_nil
  | exact ne_all (by assumption)
  | exact ne_allSub (And.right (by assumption)) (by walk_at "my sub")
  | exact ne_own (by assumption) (by walk_at "my mem")
  | exact ne_lt (by assumption) (by walk_at "my mem")
  | (refine ne_app ?_ ?_ <;> walk_at "my ne")
  | (refine ne_cons (by (refine neN ?_; (try dsimp only); omega)) ?_; walk_at "my ne"))
local macro_rules | `(tactic| walk_at "my lt") => `(tactic| first
  | assumption
  | exact lt_nil
  | exact lt_all (by assumption) (by walk_at "my sub")
  | (refine lt_cons (by (try dsimp only); omega) ?_; walk_at "my lt")
  | (refine lt_app ?_ ?_ <;> walk_at "my lt"))
local macro_rules | `(tactic| k_all) => `(tactic| walk_at "my ne")
local macro_rules | `(tactic| walk_at "my off") => `(tactic| first
  | assumption
  | exact off_nil
  | exact off_lt (by assumption) (by walk_at "my sub")
  | exact off_tail (by assumption)
  | (refine off_app ?_ ?_ <;> walk_at "my off")
  | (refine off_cons (by walk_at "my ne") ?_; walk_at "my off"))
local macro_rules | `(tactic| walk_at "exec For") => `(tactic| (k_here; (rename Fr _ _ _ _ => lF'); (with_unfolding_all refine' For_hold lF' ?_); k_whole))
local macro_rules | `(tactic| walk_at "exec For Name Name cons nil") => `(tactic| (k_here; (rename Fr _ _ _ _ => lF'); (with_unfolding_all refine' For_hold lF' ?_); k_whole))
local macro_rules | `(tactic| walk_at "exec For Name Call cons nil") => `(tactic| (k_here; (rename Fr _ _ _ _ => lF'); (with_unfolding_all refine' For_hold lF' ?_); k_whole))
local macro_rules | `(tactic| walk_at "exec For Tuple Name cons nil") => `(tactic| (k_here; (rename Fr _ _ _ _ => lF'); (with_unfolding_all refine' For_hold lF' ?_); k_whole))
local macro_rules | `(tactic| walk_at "exec For Tuple Call cons nil") => `(tactic| (k_here; (rename Fr _ _ _ _ => lF'); (with_unfolding_all refine' For_hold lF' ?_); k_whole))
local macro_rules | `(tactic| walk_at "exec For Name Subscript cons nil") => `(tactic| (k_here; (rename Fr _ _ _ _ => lF'); (with_unfolding_all refine' For_hold lF' ?_); k_whole))
local macro_rules | `(tactic| walk_at "call builtin:list.append") => `(tactic| (k_here; (show wpAny _ _ (call (Value.builtin "list.append") [Value.ref _, _]) _ _ _); k_dflt (refine' append_K ?k1 ?k2 ?k3 ?_ ?z; (case k1 => k_asm); (case k2 => k_asm); (case k3 => k_upd); (case z => first | assumption | size_fits); k_whole); intro h' F' N'; (try k_sweep)))
local macro_rules | `(tactic| walk_at "call builtin:len") => `(tactic| (k_here; (show wpAny _ _ (call (Value.builtin "len") [Value.ref _]) _ _ _); k_dflt (first
  | (refine' len_listN ?k1 ?k2 ?z ?_; (case k1 => k_asm); (case k2 => k_mem); (case z => assumption); k_whole)
  | (refine' len_tupN ?k1 ?k2 ?z ?_; (case k1 => k_asm); (case k2 => k_mem); (case z => assumption); k_whole)); intro t9 tk9; (try dsimp only)))
local macro_rules | `(tactic| walk_at "subscriptTail") => `(tactic| (k_here; (show wpAny _ _ (subscriptTail _ _ (Value.ref _) (Value.int (-1) _)) _ _ _); k_dflt (refine' back_tailN ?k1 ?k2 ?_ ?k3; (case k1 => k_asm); (case k2 => k_mem); (case k3 => with_unfolding_all rfl); k_whole)))
local macro_rules | `(tactic| walk_at "getItem ref int") => `(tactic| (k_here; (show wpAny _ _ (getItem (Value.ref _) (Value.int (-1) _)) _ _ _); k_dflt (refine' back_listN ?k1 ?k2 ?_; (case k1 => k_asm); (case k2 => k_mem); k_whole)))
local macro_rules | `(tactic| walk_at "setItem ref int") => `(tactic| (k_here; (show wpAny _ _ (setItem (Value.ref _) (Value.int (-1) _) _) _ _ _); k_dflt (refine' set_backN ?k1 ?k2 ?k3 ?_; (case k1 => k_asm); (case k2 => k_asm); (case k3 => k_upd); k_whole); intro h' F' N'; (try k_sweep)))
local macro_rules | `(tactic| walk_at "call type:tuple") => `(tactic| (k_here; (show wpAny _ _ (call (Value.type "tuple") [Value.ref _]) _ _ _); k_dflt (refine' tupleN ?k1 ?k2 ?k3 ?z ?_; (case k1 => k_asm); (case k2 => k_asm); (case k3 => k_mem); (case z => assumption); k_whole); intro D' h' F' N' l1; (try k_lt l1); (try k_sweep)))
local macro_rules | `(tactic| walk_at "subscriptTail") => `(tactic| (k_here; (show wpAny _ _ (subscriptTail _ _ (Value.ref _) (Value.int _ _)) _ _ _); k_dflt (refine' at_tupN ?k1 ?k2 ?k3 ?k4 ?k5 ?_ ?k6; (case k1 => k_asm); (case k2 => k_mem); (case k5 => assumption); (case k3 => omega); (case k4 => omega); (case k6 => with_unfolding_all rfl); k_whole)))
local macro_rules | `(tactic| k_mem) => `(tactic| exact mem_use (by assumption) (by walk_at "my sub"))
def settledT : Deed (List (Int × Int)) where
  Rel := fun news vs d => ∃ v, vs = [v] ∧ SetIn news v d
  Ok := fun d => (∀ p ∈ d, 0 < p.1 ∧ 0 < p.2) ∧ d.length < 64
  deep := 3
  Out := fun news r d => SetIn news r (plain d)
local macro_rules | `(tactic| walk_at "my pad") => `(tactic| skip)
local macro_rules | `(tactic| walk_at "call ref") => `(tactic| (k_here; (with_reducible show wpAny _ _ (call (Value.ref 75) _) _ _ _); k_dflt (
  refine' does_use (plain_does _ _ _ _) ?k1 ?k2 ?k3 ?k4 ?k5 ?kK ?kR ?ko ?kd ?ku ?_; (case k1 => k_asm); (case k2 => k_asm); (case k3 => k_asm); (case k4 => k_asm); (case k5 => k_asm); (case kK => exact rfl); (case kd => dsimp only [plainT]; ktr_room); (case ku => dsimp only [plainT]; ktr_units);
  (case kR => exact ⟨_, _, rfl, by assumption⟩); (case ko => (dsimp only [plainT]; exact ⟨by assumption, by assumption⟩));
  intro r9 tl9 h9 tk9 F9 N9 hl9 ho9; (try simp only [List.cons_append, List.append_assoc] at N9); (try dsimp only); (try k_fold))))
theorem settled_does (w : World) (mean : ExcName → Option Value) (mg mb : Str → Option Value) : Does w mean mg mb 82 settledT := by
  w_on
  unfold Does
  k_fill
  intro d dp un gd cn cs a ccd cl outer A₀ base h₀ L m news s vs Q E B F X N T hk hR hok hd hu hret
  obtain ⟨v, rfl, hv⟩ := hR
  obtain ⟨a1, ws, n1, rfl, hm, hds⟩ := set_open hv
  obtain ⟨ok1, ok2⟩ := hok
  dsimp only [settledT] at hd hu hret
  have hlen := hds.length
  rw [List.length_map] at hlen
  have hz : ws.length ≤ sizeLine := by rw [sizeLine_eq]; omega
  have hw : ws.length < 64 := by omega
  refine wpAny_call ?_
  k_dflt ktr_enter
  k_steps
  rename IsRange _ _ _ _ _ _ _ _ => hr
  rename Fr _ _ _ _ => F1
  rename News _ _ _ _ => N1
  unfold Hold
  refine loopX_range [Str.ofString "at"] (fun _ _ nx => nx = news) ?_ hr hz F1 N1 rfl ?_ ?_
  · exact rfl
  · rintro i t u nx h tk own hi hoff rfl F₁ N₁
    clear hr F1 N1
    dsimp only [envOf] at F₁ N₁
    have hi' : i < d.length := by omega
    obtain ⟨v', hv', hdv⟩ := hds.get (k := i) (by rw [List.length_map]; exact hi')
    rw [List.getElem_map] at hdv
    obtain ⟨okx, oky⟩ := ok1 _ (List.getElem_mem hi')
    obtain ⟨b2, n2, t2, u2, rfl, hm2⟩ := pd_open hdv
    have hm3 : (b2, ({ cls := .type "tuple", data := .seq #[.int (d[i]).1 t2, .int (d[i]).2 u2] n2 } : Obj)) ∈ nx ++ own := List.mem_append.mpr (.inl hm2)
    have hm4 : (a1, tupO ws n1) ∈ nx ++ own := List.mem_append.mpr (.inl hm)
    have hvi : ws[((i : Nat) : Int).toNat]? = some (.ref b2) := by rw [Int.toNat_natCast]; exact hv'
    generalize d[i] = q at *
    obtain ⟨x, y⟩ := q
    dsimp only at hm3 okx oky
    have hx : x ≠ 0 := by omega
    have hy : y ≠ 0 := by omega
    clear hm2 hdv
    k_steps
    any_goals (exfalso; omega)
    rename Fr _ _ _ _ => F2
    rename News _ _ _ _ => N2
    refine endX (J := fun _ nx' => nx' = nx) nx F2 N2 ?_ ?_ hoff ?_ rfl
    · walk_at "my sub"
    · walk_at "my sub"
    · walk_at "my same"
  · rintro u nx h tk rfl F₁ N₁
    clear hr F1 N1
    dsimp only [envOf] at F₁ N₁
    dsimp only
    k_steps
    rename Fr h₀ L _ m => F2
    rename News h₀ L _ _ => N2
    rename Above _ _ => hl9
    rename Deed.Out plainT _ _ _ => ho9
    exact hret _ _ _ _ F2 N2 hl9 ho9

end Mine
end

/-! ## Sizeof -/
section
open PySem PySem.W PyProof.Rows PySem.Calls PySem.Spec
namespace Mine
local macro_rules | `(tactic| walk_at "my sub") => `(tactic| (intro p9 h9; (simp only [List.mem_append, List.mem_cons, List.not_mem_nil, or_false, false_or] at h9 ⊢); (repeat' (refine Or.elim h9 ?_ ?_ <;> clear h9 <;> intro h9)) <;> (simp only [h9, true_or, or_true]; done)))
local macro_rules | `(tactic| walk_at "my same") => `(tactic| (intro z9 h9; (try dsimp only); (simp only [List.contains_cons, List.contains_nil, Bool.or_false, Bool.or_eq_false_iff, beq_eq_false_iff_ne, ne_eq] at h9); (simp [h9]; done)))
local macro_rules | `(tactic| walk_at "my mem") => `(tactic| first | exact List.Mem.head _ | (refine List.Mem.tail _ ?_; walk_at "my mem"))
local macro_rules | `(tactic| walk_at "my ne") => `(tactic| first
  | assumption
  | exact ne_nil
  | exact ne_all (by assumption)
  | exact ne_allSub (And.right (by assumption)) (by walk_at "my sub")
  | exact ne_own (by assumption) (by walk_at "my mem")
  | exact ne_lt (by assumption) (by walk_at "my mem")
  | (refine ne_app ?_ ?_ <;> walk_at "my ne")
  | (refine ne_cons (by (refine neN ?_; (try dsimp only); omega)) ?_; walk_at "my ne"))
local macro_rules | `(tactic| walk_at "my lt") => `(tactic| first
  | assumption
  | exact lt_nil
  | exact lt_all (by assumption) (by walk_at "my sub")
  | (refine lt_cons (by (try dsimp only); omega) ?_; walk_at "my lt")
  | (refine lt_app ?_ ?_ <;> walk_at "my lt"))
local macro_rules | `(tactic| k_all) => `(tactic| walk_at "my ne")
local macro_rules | `(tactic| walk_at "my off") => `(tactic| first
  | assumption
  | exact off_nil
  | exact off_lt (by assumption) (by walk_at "my sub")
  | exact off_tail (by assumption)
  | (refine off_app ?_ ?_ <;> walk_at "my off")
  | (refine off_cons (by walk_at "my ne") ?_; walk_at "my off"))
local macro_rules | `(tactic| walk_at "exec For") => `(tactic| (k_here; (rename Fr _ _ _ _ => lF'); (with_unfolding_all refine' For_hold lF' ?_); k_whole))
local macro_rules | `(tactic| walk_at "exec For Name Name cons nil") => `(tactic| (k_here; (rename Fr _ _ _ _ => lF'); (with_unfolding_all refine' For_hold lF' ?_); k_whole))
local macro_rules | `(tactic| walk_at "exec For Name Call cons nil") => `(tactic| (k_here; (rename Fr _ _ _ _ => lF'); (with_unfolding_all refine' For_hold lF' ?_); k_whole))
local macro_rules | `(tactic| walk_at "exec For Tuple Name cons nil") => `(tactic| (k_here; (rename Fr _ _ _ _ => lF'); (with_unfolding_all refine' For_hold lF' ?_); k_whole))
local macro_rules | `(tactic| walk_at "exec For Tuple Call cons nil") => `(tactic| (k_here; (rename Fr _ _ _ _ => lF'); (with_unfolding_all refine' For_hold lF' ?_); k_whole))
local macro_rules | `(tactic| walk_at "exec For Name Subscript cons nil") => `(tactic| (k_here; (rename Fr _ _ _ _ => lF'); (with_unfolding_all refine' For_hold lF' ?_); k_whole))
local macro_rules | `(tactic| walk_at "call builtin:list.append") => `(tactic| (k_here; (show wpAny _ _ (call (Value.builtin "list.append") [Value.ref _, _]) _ _ _); k_dflt (refine' append_K ?k1 ?k2 ?k3 ?_ ?z; (case k1 => k_asm); (case k2 => k_asm); (case k3 => k_upd); (case z => first | assumption | size_fits); k_whole); intro h' F' N'; (try k_sweep)))
local macro_rules | `(tactic| walk_at "call builtin:len") => `(tactic| (k_here; (show wpAny _ _ (call (Value.builtin "len") [Value.ref _]) _ _ _); k_dflt (first
  | (refine' len_listN ?k1 ?k2 ?z ?_; (case k1 => k_asm); (case k2 => k_mem); (case z => assumption); k_whole)
  | (refine' len_tupN ?k1 ?k2 ?z ?_; (case k1 => k_asm); (case k2 => k_mem); (case z => assumption); k_whole)); intro t9 tk9; (try dsimp only)))
local macro_rules | `(tactic| walk_at "subscriptTail") => `(tactic| (k_here; (show wpAny _ _ (subscriptTail _ _ (Value.ref _) (Value.int (-1) _)) _ _ _); k_dflt (refine' back_tailN ?k1 ?k2 ?_ ?k3; (case k1 => k_asm); (case k2 => k_mem); (case k3 => with_unfolding_all rfl); k_whole)))
local macro_rules | `(tactic| walk_at "getItem ref int") => `(tactic| (k_here; (show wpAny _ _ (getItem (Value.ref _) (Value.int (-1) _)) _ _ _); k_dflt (refine' back_listN ?k1 ?k2 ?_; (case k1 => k_asm); (case k2 => k_mem); k_whole)))
local macro_rules | `(tactic| walk_at "setItem ref int") => `(tactic| (k_here; (show wpAny _ _ (setItem (Value.ref _) (Value.int (-1) _) _) _ _ _); k_dflt (refine' set_backN ?k1 ?k2 ?k3 ?_; (case k1 => k_asm); (case k2 => k_asm); (case k3 => k_upd); k_whole); intro h' F' N'; (try k_sweep)))
local macro_rules | `(tactic| walk_at "call type:tuple") => `(tactic| (k_here; (show wpAny _ _ (call (Value.type "tuple") [Value.ref _]) _ _ _); k_dflt (refine' tupleN ?k1 ?k2 ?k3 ?z ?_; (case k1 => k_asm); (case k2 => k_asm); (case k3 => k_mem); (case z => assumption); k_whole); intro D' h' F' N' l1; (try k_lt l1); (try k_sweep)))
local macro_rules | `(tactic| walk_at "subscriptTail") => `(tactic| (k_here; (show wpAny _ _ (subscriptTail _ _ (Value.ref _) (Value.int _ _)) _ _ _); k_dflt (refine' at_tupN ?k1 ?k2 ?k3 ?k4 ?k5 ?_ ?k6; (case k1 => k_asm); (case k2 => k_mem); (case k5 => assumption); (case k3 => omega); (case k4 => omega); (case k6 => with_unfolding_all rfl); k_whole)))
local macro_rules | `(tactic| k_mem) => `(tactic| exact mem_use (by assumption) (by walk_at "my sub"))

def sizeT : Deed (List (Int × Int)) where
  Rel := fun news vs d => ∃ v, vs = [v] ∧ SetIn news v d
  Ok := fun d => (∀ p ∈ d, 0 < p.1 ∧ 0 < p.2) ∧ d.length < 64
  deep := 4
  Out := fun _ r d => ∃ t, r = .int (sizeS (plain d)) t
local macro_rules | `(tactic| walk_at "my pad") => `(tactic| skip)
local macro_rules | `(tactic| walk_at "my pad") => `(tactic| skip)
local macro_rules | `(tactic| walk_at "call ref") => `(tactic| (k_here; (with_reducible show wpAny _ _ (call (Value.ref 82) _) _ _ _); k_dflt (
  refine' does_use (settled_does _ _ _ _) ?k1 ?k2 ?k3 ?k4 ?k5 ?kK ?kR ?ko ?kd ?ku ?_; (case k1 => k_asm); (case k2 => k_asm); (case k3 => k_asm); (case k4 => k_asm); (case k5 => k_asm); (case kK => exact rfl); (case kd => dsimp only [settledT]; ktr_room); (case ku => dsimp only [settledT]; ktr_units);
  (case kR => exact ⟨_, rfl, by assumption⟩); (case ko => (dsimp only [settledT]; exact ⟨by assumption, by assumption⟩));
  intro r9 tl9 h9 tk9 F9 N9 hl9 ho9; (try simp only [List.cons_append, List.append_assoc] at N9); (obtain ⟨a9, ws9, n9, e9, hm9, hd9⟩ := set_open ho9); subst e9; (try dsimp only); (try k_fold))))
theorem size_does (w : World) (mean : ExcName → Option Value) (mg mb : Str → Option Value) : Does w mean mg mb 89 sizeT := by
  w_on
  unfold Does
  k_fill
  intro d dp un gd cn cs a ccd cl outer A₀ base h₀ L m news s vs Q E B F X N T hk hR hok hd hu hret
  obtain ⟨v, rfl, hv⟩ := hR
  obtain ⟨a1, ws, n1, rfl, hm, hds⟩ := set_open hv
  obtain ⟨ok1, ok2⟩ := hok
  dsimp only [sizeT] at hd hu hret
  refine wpAny_call ?_
  k_dflt ktr_enter
  k_steps
  unfold Hold
  rename_i hA lF NA tl9 h9 tk9 F1 N1 hl9 a9 ws9 n9 hm9 hd9 ho9
  clear lF NA
  have hlen := hd9.length
  rw [List.length_map] at hlen
  refine loopX_tup [Str.ofString "low", Str.ofString "high", Str.ofString "count"] (fun i u nx => nx = news ++ tl9 ∧ ∃ t, u (Str.ofString "count") = some (.int (sizeS ((plain d).take i)) t)) ?_ (List.mem_append.mpr (.inr hm9)) F1 N1 ?_ ?_ ?_ ?_
  · exact rfl
  · exact ⟨rfl, _, rfl⟩
  · rintro i m nx ⟨rfl, -⟩
    exact List.mem_append.mpr (.inr hm9)
  · rintro i v u nx h tk own hi hv hoff ⟨rfl, tc, hcount⟩ F₁ N₁
    clear F1 N1
    dsimp only [envOf] at F₁ N₁
    replace F₁ := fr_name (x := Str.ofString "count") (v := .int (sizeS ((plain d).take i)) tc) F₁ hcount
    have hi' : i < (plain d).length := by omega
    obtain ⟨v', hv', hdv⟩ := hd9.get (k := i) (by rw [List.length_map]; exact hi')
    rw [hv] at hv'
    cases hv'
    rw [List.getElem_map] at hdv
    obtain ⟨b2, n2, t2, u2, rfl, hm2⟩ := pd_open hdv
    have hstep : sizeS ((plain d).take (i + 1)) = sizeS ((plain d).take i) + ((plain d)[i].2 - (plain d)[i].1 + 1) := by
      rw [List.take_add_one, List.getElem?_eq_getElem hi']
      exact sizeS_snoc _ _
    have hm3 : (b2, ({ cls := .type "tuple", data := .seq #[.int (plain d)[i].1 t2, .int (plain d)[i].2 u2] n2 } : Obj)) ∈ news ++ tl9 ++ own := List.mem_append.mpr (.inl (List.mem_append.mpr (.inr hm2)))
    generalize (plain d)[i] = q at *
    obtain ⟨x, y⟩ := q
    generalize sizeS ((plain d).take i) = c at *
    dsimp only at hm3 hstep
    clear hm2 hdv
    k_steps
    rename Fr _ _ _ _ => F2
    rename News _ _ _ _ => N2
    refine endX (J := fun u nx => nx = news ++ tl9 ∧ ∃ t, u (Str.ofString "count") = some (.int (sizeS ((plain d).take (i + 1))) t)) (news ++ tl9) F2 N2 ?_ ?_ hoff ?_ ⟨rfl, ?_⟩
    · walk_at "my sub"
    · walk_at "my sub"
    · walk_at "my same"
    · rw [hstep]
      exact ⟨_, rfl⟩
  · rintro u nx h tk ⟨rfl, tc, hcount⟩ F₁ N₁
    clear F1 N1
    dsimp only [envOf] at F₁ N₁
    rw [hlen, List.take_length] at hcount
    replace F₁ := fr_name (x := Str.ofString "count") F₁ hcount
    dsimp only
    k_steps
    rename Fr h₀ L _ m => F2
    rename News h₀ L _ _ => N2
    exact hret _ _ _ _ F2 N2 hl9 ⟨_, rfl⟩

end Mine
end

/-! ## Joined -/
section
open PySem PySem.W PyProof.Rows PySem.Calls PySem.Spec
namespace Mine
local macro_rules | `(tactic| walk_at "my sub") => `(tactic| (intro p9 h9; (simp only [List.mem_append, List.mem_cons, List.not_mem_nil, or_false, false_or] at h9 ⊢); (repeat' (refine Or.elim h9 ?_ ?_ <;> clear h9 <;> intro h9)) <;> (simp only [h9, true_or, or_true]; done)))
local macro_rules | `(tactic| walk_at "my same") => `(tactic| (intro z9 h9; (try dsimp only); (simp only [List.contains_cons, List.contains_nil, Bool.or_false, Bool.or_eq_false_iff, beq_eq_false_iff_ne, ne_eq] at h9); (simp [h9]; done)))
local macro_rules | `(tactic| walk_at "my mem") => `(tactic| first | exact List.Mem.head _ | (refine List.Mem.tail _ ?_; walk_at "my mem"))
local macro_rules | `(tactic| walk_at "my ne") => `(tactic| first
  | assumption
  | exact ne_nil
  | exact ne_all (by assumption)
  | exact ne_allSub (And.right (by assumption)) (by walk_at "my sub")
  | exact ne_own (by assumption) (by walk_at "my mem")
  | exact ne_lt (by assumption) (by walk_at "my mem")
  | (refine ne_app ?_ ?_ <;> walk_at "my ne")
  | (refine ne_cons (by (refine neN ?_; (try dsimp only); omega)) ?_; walk_at "my ne"))
local macro_rules | `(tactic| walk_at "my lt") => `(tactic| first
  | assumption
  | exact lt_nil
  | exact lt_all (by assumption) (by walk_at "my sub")
  | (refine lt_cons (by (try dsimp only); omega) ?_; walk_at "my lt")
  | (refine lt_app ?_ ?_ <;> walk_at "my lt"))
local macro_rules | `(tactic| k_all) => `(tactic| walk_at "my ne")
local macro_rules | `(tactic| walk_at "my off") => `(tactic| first
  | assumption
  | exact off_nil
  | exact off_lt (by assumption) (by walk_at "my sub")
  | exact off_tail (by assumption)
  | (refine off_app ?_ ?_ <;> walk_at "my off")
  | (refine off_cons (by walk_at "my ne") ?_; walk_at "my off"))
local macro_rules | `(tactic| walk_at "exec For") => `(tactic| (k_here; (rename Fr _ _ _ _ => lF'); (with_unfolding_all refine' For_hold lF' ?_); k_whole))
local macro_rules | `(tactic| walk_at "exec For Name Name cons nil") => `(tactic| (k_here; (rename Fr _ _ _ _ => lF'); (with_unfolding_all refine' For_hold lF' ?_); k_whole))
local macro_rules | `(tactic| walk_at "exec For Name Call cons nil") => `(tactic| (k_here; (rename Fr _ _ _ _ => lF'); (with_unfolding_all refine' For_hold lF' ?_); k_whole))
local macro_rules | `(tactic| walk_at "exec For Tuple Name cons nil") => `(tactic| (k_here; (rename Fr _ _ _ _ => lF'); (with_unfolding_all refine' For_hold lF' ?_); k_whole))
local macro_rules | `(tactic| walk_at "exec For Tuple Call cons nil") => `(tactic| (k_here; (rename Fr _ _ _ _ => lF'); (with_unfolding_all refine' For_hold lF' ?_); k_whole))
local macro_rules | `(tactic| walk_at "exec For Name Subscript cons nil") => `(tactic| (k_here; (rename Fr _ _ _ _ => lF'); (with_unfolding_all refine' For_hold lF' ?_); k_whole))
local macro_rules | `(tactic| walk_at "call builtin:list.append") => `(tactic| (k_here; (show wpAny _ _ (call (Value.builtin "list.append") [Value.ref _, _]) _ _ _); k_dflt (refine' append_K ?k1 ?k2 ?k3 ?_ ?z; (case k1 => k_asm); (case k2 => k_asm); (case k3 => k_upd); (case z => first | assumption | size_fits); k_whole); intro h' F' N'; (try k_sweep)))
local macro_rules | `(tactic| walk_at "call builtin:len") => `(tactic| (k_here; (show wpAny _ _ (call (Value.builtin "len") [Value.ref _]) _ _ _); k_dflt (first
  | (refine' len_listN ?k1 ?k2 ?z ?_; (case k1 => k_asm); (case k2 => k_mem); (case z => assumption); k_whole)
  | (refine' len_tupN ?k1 ?k2 ?z ?_; (case k1 => k_asm); (case k2 => k_mem); (case z => assumption); k_whole)); intro t9 tk9; (try dsimp only)))
local macro_rules | `(tactic| walk_at "subscriptTail") => `(tactic| (k_here; (show wpAny _ _ (subscriptTail _ _ (Value.ref _) (Value.int (-1) _)) _ _ _); k_dflt (refine' back_tailN ?k1 ?k2 ?_ ?k3; (case k1 => k_asm); (case k2 => k_mem); (case k3 => with_unfolding_all rfl); k_whole)))
local macro_rules | `(tactic| walk_at "getItem ref int") => `(tactic| (k_here; (show wpAny _ _ (getItem (Value.ref _) (Value.int (-1) _)) _ _ _); k_dflt (refine' back_listN ?k1 ?k2 ?_; (case k1 => k_asm); (case k2 => k_mem); k_whole)))
local macro_rules | `(tactic| walk_at "setItem ref int") => `(tactic| (k_here; (show wpAny _ _ (setItem (Value.ref _) (Value.int (-1) _) _) _ _ _); k_dflt (refine' set_backN ?k1 ?k2 ?k3 ?_; (case k1 => k_asm); (case k2 => k_asm); (case k3 => k_upd); k_whole); intro h' F' N'; (try k_sweep)))
local macro_rules | `(tactic| walk_at "call type:tuple") => `(tactic| (k_here; (show wpAny _ _ (call (Value.type "tuple") [Value.ref _]) _ _ _); k_dflt (refine' tupleN ?k1 ?k2 ?k3 ?z ?_; (case k1 => k_asm); (case k2 => k_asm); (case k3 => k_mem); (case z => assumption); k_whole); intro D' h' F' N' l1; (try k_lt l1); (try k_sweep)))
local macro_rules | `(tactic| walk_at "subscriptTail") => `(tactic| (k_here; (show wpAny _ _ (subscriptTail _ _ (Value.ref _) (Value.int _ _)) _ _ _); k_dflt (refine' at_tupN ?k1 ?k2 ?k3 ?k4 ?k5 ?_ ?k6; (case k1 => k_asm); (case k2 => k_mem); (case k5 => assumption); (case k3 => omega); (case k4 => omega); (case k6 => with_unfolding_all rfl); k_whole)))
local macro_rules | `(tactic| k_mem) => `(tactic| exact mem_use (by assumption) (by walk_at "my sub"))
def joinT : Deed (List (Int × Int) × List (Int × Int)) where
  Rel := fun news vs d => ∃ v u, vs = [v, u] ∧ SetIn news v d.1 ∧ SetIn news u d.2
  Ok := fun d => Pos2 d.1 ∧ Pos2 d.2 ∧ d.1.length + d.2.length < 64
  deep := 4
  Out := fun tl r d => SetIn tl r (jn d.1 d.2)
theorem add_sets {prog : Program} {w : World} {A : Around} {E : Value → Shared → Prop} {s : Shared} {h₀ : Heap} {L : Addr} {m : Str → Option Value} {news : List (Addr × Obj)} {v u : Value} {a b : List (Int × Int)} {Q : Value → Shared → Prop}
    (F : Fr h₀ L s.heap m) (N : News h₀ L s.heap news) (ha : SetIn news v a) (hb : SetIn news u b) (hz : a.length + b.length ≤ sizeLine)
    (h : ∀ r h' add, Fr h₀ L h' m → News h₀ L h' (news ++ add) → Above news add → SetIn (news ++ add) r (a ++ b) → Q r { s with heap := h' }) : wpAny (model prog w) A (binaryOp .Add v u) Q E s := by
  obtain ⟨a1, vs, n1, rfl, hm, hd⟩ := set_open ha
  obtain ⟨a2, ws, n2, rfl, km, kd⟩ := set_open hb
  have l1 := hd.length
  have l2 := kd.length
  rw [List.length_map] at l1 l2
  refine add_tuples F N ⟨_, (N _ hm).1, rfl, n1, rfl⟩ ⟨_, (N _ km).1, rfl, n2, rfl⟩ (fun e => ?_) (fun _ e => ?_) (fun _ _ h' F' N' => ?_) (by omega)
  · have e' : a = [] := List.eq_nil_of_length_eq_zero (by rw [← l1, e]; rfl)
    refine h _ _ [] F (by rw [List.append_nil]; exact N) above_nil ?_
    rw [List.append_nil, e']
    exact hb
  · have e' : b = [] := List.eq_nil_of_length_eq_zero (by rw [← l2, e]; rfl)
    refine h _ _ [] F (by rw [List.append_nil]; exact N) above_nil ?_
    rw [List.append_nil, e', List.append_nil]
    exact ha
  · refine h _ _ [(s.heap.objs.size, _)] F' (ktn_tl1 N') (above_lt fun q hq => Heap.lt_size (N q hq).1) (.tuple ktn_new ?_)
    rw [List.map_append]
    exact (hd.mono ktn_subA).append (kd.mono ktn_subA)
local macro_rules | `(tactic| walk_at "my set") => `(tactic| first
  | assumption
  | (refine' DatIn.mono ?setS ?setH; (case setH => assumption); (case setS => walk_at "my sub")))
local macro_rules | `(tactic| walk_at "binaryOp Add ref ref") => `(tactic| (k_here; k_dflt (refine' add_sets ?k1 ?k2 ?k3 ?k4 ?k5 ?_; (case k1 => k_asm); (case k2 => k_asm); (case k3 => walk_at "my set"); (case k4 => walk_at "my set"); (case k5 => rw [sizeLine_eq]; omega)); intro r9 h9 tl9 F9 N9 hl9 ho9; (try simp only [List.cons_append, List.append_assoc] at N9 ho9); (try dsimp only); (try k_fold)))
local macro_rules | `(tactic| walk_at "call ref") => `(tactic| (k_here; (with_reducible show wpAny _ _ (call (Value.ref 82) _) _ _ _); k_dflt (
  refine' does_use (settled_does _ _ _ _) ?k1 ?k2 ?k3 ?k4 ?k5 ?kK ?kR ?ko ?kd ?ku ?_; (case k1 => k_asm); (case k2 => k_asm); (case k3 => k_asm); (case k4 => k_asm); (case k5 => k_asm); (case kK => exact rfl); (case kd => dsimp only [settledT]; ktr_room); (case ku => dsimp only [settledT]; ktr_units);
  (case kR => (refine ⟨_, rfl, ?setG⟩; (case setG => walk_at "my set"))); (case ko => (dsimp only [settledT]; exact ⟨by assumption, by omega⟩));
  intro r9 tl9 h9 tk9 F9 N9 hl9 ho9; (try simp only [List.cons_append, List.append_assoc] at N9); (dsimp only [settledT] at ho9); (obtain ⟨a9, ws9, n9, e9, hm9, hd9⟩ := set_open ho9); subst e9; clear hm9 hd9; (try dsimp only); (try k_fold))))
local macro_rules | `(tactic| walk_at "call ref") => `(tactic| (k_here; (with_reducible show wpAny _ _ (call (Value.ref 75) _) _ _ _); k_dflt (
  refine' does_use (plain_does _ _ _ _) ?k1 ?k2 ?k3 ?k4 ?k5 ?kK ?kR ?ko ?kd ?ku ?_; (case k1 => k_asm); (case k2 => k_asm); (case k3 => k_asm); (case k4 => k_asm); (case k5 => k_asm); (case kK => exact rfl); (case kd => dsimp only [plainT]; ktr_room); (case ku => dsimp only [plainT]; ktr_units);
  (case kR => (refine ⟨_, _, rfl, ?setG⟩; (case setG => walk_at "my set"))); (case ko => (dsimp only [plainT]; exact ⟨by assumption, by (first | assumption | omega)⟩));
  intro r9 tl9 h9 tk9 F9 N9 hl9 ho9; (try simp only [List.cons_append, List.append_assoc] at N9); (dsimp only [plainT] at ho9); (try dsimp only); (try k_fold))))
theorem join_does (w : World) (mean : ExcName → Option Value) (mg mb : Str → Option Value) : Does w mean mg mb 96 joinT := by
  w_on
  unfold Does
  k_fill
  intro d dp un gd cn cs a ccd cl outer A₀ base h₀ L m news s vs Q E B F X N T hk hR hok hd hu hret
  obtain ⟨d1, d2⟩ := d
  obtain ⟨v, u, rfl, hv, hv2⟩ := hR
  obtain ⟨ok1, ok2, ok3⟩ := hok
  dsimp only at ok1 ok2 ok3 hv hv2
  dsimp only [joinT] at hd hu hret
  obtain ⟨a1, ws1, n1, rfl, hm1, hds1⟩ := set_open hv
  obtain ⟨a2, ws2, n2, rfl, hm2, hds2⟩ := set_open hv2
  have p1 := plain_length d1
  have p2 := plain_length d2
  have q1 : ∀ p ∈ plain d1 ++ plain d2, 0 < p.1 ∧ 0 < p.2 := fun p hp => (List.mem_append.mp hp).elim (plain_pos ok1 p) (plain_pos ok2 p)
  have q2 : (plain d1 ++ plain d2).length < 64 := by rw [List.length_append]; omega
  unfold Pos2 at ok1 ok2
  clear hm1 hm2 hds1 hds2
  refine wpAny_call ?_
  k_dflt ktr_enter
  k_steps
  rename Fr h₀ L _ m => F2
  rename News h₀ L _ _ => N2
  rename Above _ _ => hl9
  rename SetIn _ _ (plain (plain d1 ++ plain d2)) => ho9
  refine hret _ _ _ _ F2 (fun p hp => N2 p ?_) (above_sub hl9 (by walk_at "my sub")) ho9
  revert p
  walk_at "my sub"

end Mine
end

/-! ## Cut -/
section
open PySem PySem.W PyProof.Rows PySem.Calls PySem.Spec
namespace Mine
local macro_rules | `(tactic| walk_at "my sub") => `(tactic| (intro p9 h9; (simp only [List.mem_append, List.mem_cons, List.not_mem_nil, or_false, false_or] at h9 ⊢); (repeat' (refine Or.elim h9 ?_ ?_ <;> clear h9 <;> intro h9)) <;> (simp only [h9, true_or, or_true]; done)))
local macro_rules | `(tactic| walk_at "my same") => `(tactic| (intro z9 h9; (try dsimp only); (simp only [List.contains_cons, List.contains_nil, Bool.or_false, Bool.or_eq_false_iff, beq_eq_false_iff_ne, ne_eq] at h9); (simp [h9]; done)))
local macro_rules | `(tactic| walk_at "my mem") => `(tactic| first | exact List.Mem.head _ | (refine List.Mem.tail _ ?_; walk_at "my mem"))
local macro_rules | `(tactic| walk_at "my ne") => `(tactic| first
  | assumption
  | exact ne_nil
  | exact ne_all (by assumption)
  | exact ne_allSub (And.right (by assumption)) (by walk_at "my sub")
  | exact ne_own (by assumption) (by walk_at "my mem")
  | exact ne_lt (by assumption) (by walk_at "my mem")
  | (refine ne_app ?_ ?_ <;> walk_at "my ne")
  | (refine ne_cons (by (refine neN ?_; (try dsimp only); omega)) ?_; walk_at "my ne"))
local macro_rules | `(tactic| walk_at "my lt") => `(tactic| first
  | assumption
  | exact lt_nil
  | exact lt_all (by assumption) (by walk_at "my sub")
  | (refine lt_cons (by (try dsimp only); omega) ?_; walk_at "my lt")
  | (refine lt_app ?_ ?_ <;> walk_at "my lt"))
local macro_rules | `(tactic| k_all) => `(tactic| walk_at "my ne")
local macro_rules | `(tactic| walk_at "my off") => `(tactic| first
  | assumption
  | exact off_nil
  | exact off_lt (by assumption) (by walk_at "my sub")
  | exact off_tail (by assumption)
  | (refine off_app ?_ ?_ <;> walk_at "my off")
  | (refine off_cons (by walk_at "my ne") ?_; walk_at "my off"))
local macro_rules | `(tactic| walk_at "exec For") => `(tactic| (k_here; (rename Fr _ _ _ _ => lF'); (with_unfolding_all refine' For_hold lF' ?_); k_whole))
local macro_rules | `(tactic| walk_at "exec For Name Name cons nil") => `(tactic| (k_here; (rename Fr _ _ _ _ => lF'); (with_unfolding_all refine' For_hold lF' ?_); k_whole))
local macro_rules | `(tactic| walk_at "exec For Name Call cons nil") => `(tactic| (k_here; (rename Fr _ _ _ _ => lF'); (with_unfolding_all refine' For_hold lF' ?_); k_whole))
local macro_rules | `(tactic| walk_at "exec For Tuple Name cons nil") => `(tactic| (k_here; (rename Fr _ _ _ _ => lF'); (with_unfolding_all refine' For_hold lF' ?_); k_whole))
local macro_rules | `(tactic| walk_at "exec For Tuple Call cons nil") => `(tactic| (k_here; (rename Fr _ _ _ _ => lF'); (with_unfolding_all refine' For_hold lF' ?_); k_whole))
local macro_rules | `(tactic| walk_at "exec For Name Subscript cons nil") => `(tactic| (k_here; (rename Fr _ _ _ _ => lF'); (with_unfolding_all refine' For_hold lF' ?_); k_whole))
local macro_rules | `(tactic| walk_at "call builtin:list.append") => `(tactic| (k_here; (show wpAny _ _ (call (Value.builtin "list.append") [Value.ref _, _]) _ _ _); k_dflt (refine' append_K ?k1 ?k2 ?k3 ?_ ?z; (case k1 => k_asm); (case k2 => k_asm); (case k3 => k_upd); (case z => first | assumption | size_fits); k_whole); intro h' F' N'; (try k_sweep)))
local macro_rules | `(tactic| walk_at "call builtin:len") => `(tactic| (k_here; (show wpAny _ _ (call (Value.builtin "len") [Value.ref _]) _ _ _); k_dflt (first
  | (refine' len_listN ?k1 ?k2 ?z ?_; (case k1 => k_asm); (case k2 => k_mem); (case z => assumption); k_whole)
  | (refine' len_tupN ?k1 ?k2 ?z ?_; (case k1 => k_asm); (case k2 => k_mem); (case z => assumption); k_whole)); intro t9 tk9; (try dsimp only)))
local macro_rules | `(tactic| walk_at "subscriptTail") => `(tactic| (k_here; (show wpAny _ _ (subscriptTail _ _ (Value.ref _) (Value.int (-1) _)) _ _ _); k_dflt (refine' back_tailN ?k1 ?k2 ?_ ?k3; (case k1 => k_asm); (case k2 => k_mem); (case k3 => with_unfolding_all rfl); k_whole)))
local macro_rules | `(tactic| walk_at "getItem ref int") => `(tactic| (k_here; (show wpAny _ _ (getItem (Value.ref _) (Value.int (-1) _)) _ _ _); k_dflt (refine' back_listN ?k1 ?k2 ?_; (case k1 => k_asm); (case k2 => k_mem); k_whole)))
local macro_rules | `(tactic| walk_at "setItem ref int") => `(tactic| (k_here; (show wpAny _ _ (setItem (Value.ref _) (Value.int (-1) _) _) _ _ _); k_dflt (refine' set_backN ?k1 ?k2 ?k3 ?_; (case k1 => k_asm); (case k2 => k_asm); (case k3 => k_upd); k_whole); intro h' F' N'; (try k_sweep)))
local macro_rules | `(tactic| walk_at "call type:tuple") => `(tactic| (k_here; (show wpAny _ _ (call (Value.type "tuple") [Value.ref _]) _ _ _); k_dflt (refine' tupleN ?k1 ?k2 ?k3 ?z ?_; (case k1 => k_asm); (case k2 => k_asm); (case k3 => k_mem); (case z => assumption); k_whole); intro D' h' F' N' l1; (try k_lt l1); (try k_sweep)))
local macro_rules | `(tactic| walk_at "subscriptTail") => `(tactic| (k_here; (show wpAny _ _ (subscriptTail _ _ (Value.ref _) (Value.int _ _)) _ _ _); k_dflt (refine' at_tupN ?k1 ?k2 ?k3 ?k4 ?k5 ?_ ?k6; (case k1 => k_asm); (case k2 => k_mem); (case k5 => assumption); (case k3 => omega); (case k4 => omega); (case k6 => with_unfolding_all rfl); k_whole)))
local macro_rules | `(tactic| k_mem) => `(tactic| exact mem_use (by assumption) (by walk_at "my sub"))

def cutT : Deed (List (Int × Int) × List (Int × Int)) where
  Rel := fun news vs d => ∃ v u, vs = [v, u] ∧ SetIn news v d.1 ∧ SetIn news u d.2
  Ok := fun d => Pos2 d.1 ∧ Pos2 d.2 ∧ d.1.length + d.2.length < 64
  deep := 4
  Out := fun tl r d => SetIn tl r (ct d.1 d.2)
def JC (O : Addr) (base : List (Addr × Obj)) (A B : List (Int × Int)) (n : Nat) (u : Str → Option Value) (nx : List (Addr × Obj)) : Prop :=
  ∃ (i j : Nat) (out : List (Int × Int)), n = A.length + B.length - i - j ∧ i ≤ A.length ∧ j ≤ B.length ∧ out ++ cutL (A.drop i) (B.drop j) = cutL A B ∧
    (∃ t, u (Str.ofString "i") = some (.int (i : Int) t)) ∧ (∃ t, u (Str.ofString "j") = some (.int (j : Int) t)) ∧ JL O base (fun _ => out) 0 u nx
local macro_rules | `(tactic| walk_at "my set") => `(tactic| first
  | assumption
  | (refine' DatIn.mono ?setS ?setH; (case setH => assumption); (case setS => walk_at "my sub")))
local macro_rules | `(tactic| walk_at "call ref") => `(tactic| (k_here; (with_reducible show wpAny _ _ (call (Value.ref 82) _) _ _ _); k_dflt (
  refine' does_use (settled_does _ _ _ _) ?k1 ?k2 ?k3 ?k4 ?k5 ?kK ?kR ?ko ?kd ?ku ?_; (case k1 => k_asm); (case k2 => k_asm); (case k3 => k_asm); (case k4 => k_asm); (case k5 => k_asm); (case kK => exact rfl); (case kd => dsimp only [settledT]; ktr_room); (case ku => dsimp only [settledT]; ktr_units);
  (case kR => (refine ⟨_, rfl, ?setG⟩; (case setG => walk_at "my set"))); (case ko => (dsimp only [settledT]; exact ⟨by assumption, by omega⟩));
  intro r9 tl9 h9 tk9 F9 N9 hl9 ho9; (try simp only [List.cons_append, List.append_assoc] at N9); (dsimp only [settledT] at ho9); (obtain ⟨a9, ws9, n9, e9, hm9, hd9⟩ := set_open ho9); subst e9; (try dsimp only); (try k_fold))))
local macro_rules | `(tactic| walk_at "exec While BoolOp cons nil") => `(tactic| ((with_reducible show wpAny _ _ (exec (Stmt.While _ _ _ _) _) _ _ _); (refine hold_it ?_)))
theorem cut_does (w : World) (mean : ExcName → Option Value) (mg mb : Str → Option Value) : Does w mean mg mb 103 cutT := by
  w_on
  unfold Does
  k_fill
  intro d dp un gd cn cs a ccd cl outer A₀ base h₀ L m news s vs Q E B F X N T hk hR hok hd hu hret
  obtain ⟨d1, d2⟩ := d
  obtain ⟨v, u, rfl, hv, hv2⟩ := hR
  obtain ⟨ok1, ok2, ok3⟩ := hok
  dsimp only at ok1 ok2 ok3 hv hv2
  dsimp only [cutT] at hd hu hret
  obtain ⟨a1, ws1, n1, rfl, hm1, hds1⟩ := set_open hv
  obtain ⟨a2, ws2, n2, rfl, hm2, hds2⟩ := set_open hv2
  have p1 := plain_length d1
  have p2 := plain_length d2
  unfold Pos2 at ok1 ok2
  clear hm1 hm2 hds1 hds2
  refine wpAny_call ?_
  k_dflt ktr_enter
  k_steps
  unfold Hold
  rename_i tlA hpA tkA hlA aA wsA nA hmA hdA hoA qkA ekA hpA2 tkA2 tlB hpB tkB hlB aB wsB nB hmB hdB hoB hpB2 O hpO lO hp1 hp2 hp3 F1 N1
  have hA : (aA, tupO wsA nA) ∈ news ++ (tlA ++ tlB) := List.mem_append.mpr (.inr (List.mem_append.mpr (.inl hmA)))
  have hB : (aB, tupO wsB nB) ∈ news ++ (tlA ++ tlB) := List.mem_append.mpr (.inr (List.mem_append.mpr (.inr hmB)))
  have hAd : DatAll (news ++ (tlA ++ tlB)) wsA ((plain d1).map pd) := hdA.mono fun p hp => List.mem_append.mpr (.inr (List.mem_append.mpr (.inl hp)))
  have hBd : DatAll (news ++ (tlA ++ tlB)) wsB ((plain d2).map pd) := hdB.mono fun p hp => List.mem_append.mpr (.inr (List.mem_append.mpr (.inr hp)))
  have hsubN : ∀ p ∈ news, p ∈ news ++ (tlA ++ tlB) := fun p hp => List.mem_append.mpr (.inl hp)
  clear hlA hlB hmA hmB hdA hdB hoA hoB
  have hct : ct d1 d2 = cutL (plain d1) (plain d2) := rfl
  generalize plain d1 = A at *
  generalize plain d2 = B at *
  generalize news ++ (tlA ++ tlB) = base9 at *
  have hlenA := hAd.length
  have hlenB := hBd.length
  rw [List.length_map] at hlenA hlenB
  have hzA : wsA.length ≤ sizeLine := by rw [sizeLine_eq]; omega
  have hzB : wsB.length ≤ sizeLine := by rw [sizeLine_eq]; omega
  have hlen := cutL_length _ A B (Nat.le_refl _)
  with_unfolding_all refine' whileX [Str.ofString "i", Str.ofString "j", Str.ofString "low", Str.ofString "high"] (JC O base9 A B) (n₀ := A.length + B.length - 0 - 0) F1 N1 ?_ ?_
  · exact ⟨0, 0, [], rfl, Nat.zero_le _, Nat.zero_le _, rfl, ⟨_, rfl⟩, ⟨_, rfl⟩, JL.start rfl fun p hp => Nat.ne_of_lt (lO p hp)⟩
  · rintro n u nx h tk ⟨i, j, out, rfl, hi, hj, hcut, ⟨ti, hui⟩, ⟨tj, huj⟩, us, k, tl, rfl, hne, hab, hus⟩ F₁ N₁
    clear F1 N1
    have hne1 := ne_left hne
    have hne2 := ne_right hne
    dsimp only at hus
    dsimp only [envOf] at F₁ N₁
    replace F₁ := fr_name (x := Str.ofString "i") (v := .int (i : Int) ti) F₁ hui
    replace F₁ := fr_name (x := Str.ofString "j") (v := .int (j : Int) tj) F₁ huj
    have hlenU := hus.length
    rw [List.length_map] at hlenU
    have hcl := congrArg List.length hcut
    rw [List.length_append] at hcl
    have hsz : us.toArray.size ≤ sizeLine := by rw [List.size_toArray, sizeLine_eq]; omega
    have hz16 : us.length ≤ 16384 := by omega
    by_cases hi2 : i < A.length
    · by_cases hj2 : j < B.length
      · obtain ⟨v1, hv1, hdv1⟩ := hAd.get (k := i) (by rw [List.length_map]; exact hi2)
        obtain ⟨v2, hv2', hdv2⟩ := hBd.get (k := j) (by rw [List.length_map]; exact hj2)
        rw [List.getElem_map] at hdv1 hdv2
        obtain ⟨b1, m1, t1, s1, rfl, hb1⟩ := pd_open hdv1
        obtain ⟨b2, m2, t2, s2, rfl, hb2⟩ := pd_open hdv2
        have hvi : wsA[((i : Nat) : Int).toNat]? = some (.ref b1) := by rw [Int.toNat_natCast]; exact hv1
        have hvj : wsB[((j : Nat) : Int).toNat]? = some (.ref b2) := by rw [Int.toNat_natCast]; exact hv2'
        rw [List.drop_eq_getElem_cons hi2, List.drop_eq_getElem_cons hj2, cutL] at hcut
        have eA := List.drop_eq_getElem_cons hi2
        have eB := List.drop_eq_getElem_cons hj2
        clear hdv1 hdv2
        generalize A[i] = p at *
        generalize B[j] = q at *
        obtain ⟨x1, y1⟩ := p
        obtain ⟨x2, y2⟩ := q
        dsimp only at hb1 hb2
        k_steps
        · rename (if x2 > x1 then x2 else x1) ≤ (if y2 < y1 then y2 else y1) => hle
          rename y1 < y2 => hlt
          rename Fr _ _ _ _ => F2
          rename News _ _ _ _ => N2
          rw [show cutK (cutP (x1, y1) (x2, y2)) = [((if x2 > x1 then x2 else x1), (if y2 < y1 then y2 else y1))] from if_pos hle] at hcut
          dsimp only at hcut
          rw [if_pos hlt] at hcut
          rename_i D5 h5 l5 hC hD
          obtain ⟨l5, l6⟩ := l5
          rw [List.push_toArray] at N2
          refine endW (n' := A.length + B.length - (i + 1) - (j)) ((O, listOf (List.toArray (us ++ [Value.ref D5])) (k + 1)) :: (base9 ++ (tl ++ [(D5, { cls := .type "tuple", data := .seq #[.int (if x2 > x1 then x2 else x1) (if x2 > x1 then t2 else t1), .int (if y2 < y1 then y2 else y1) (if y2 < y1 then s2 else s1)] })]))) F2 N2 ?_ (by omega) ?_ ⟨i + 1, j, (out ++ [((if x2 > x1 then x2 else x1), (if y2 < y1 then y2 else y1))]), rfl, by omega, by omega, ?_, ⟨_, nat_up⟩, ⟨_, rfl⟩, (JL.more (us ++ [Value.ref D5]) (k + 1) hne hab (o := listOf (List.toArray us) k) (above_lt (by walk_at "my lt")) (by rw [List.map_append]; exact (hus.mono fun p hp => List.mem_append.mpr (.inl hp)).append (.one (pd_in (List.mem_append.mpr (.inr (.head _)))))))⟩
          · walk_at "my sub"
          · walk_at "my same"
          · rw [eB, List.append_assoc]; exact hcut
        · rename (if x2 > x1 then x2 else x1) ≤ (if y2 < y1 then y2 else y1) => hle
          rename ¬ y1 < y2 => hlt
          rename Fr _ _ _ _ => F2
          rename News _ _ _ _ => N2
          rw [show cutK (cutP (x1, y1) (x2, y2)) = [((if x2 > x1 then x2 else x1), (if y2 < y1 then y2 else y1))] from if_pos hle] at hcut
          dsimp only at hcut
          rw [if_neg hlt] at hcut
          rename_i D5 h5 l5 hC hD
          obtain ⟨l5, l6⟩ := l5
          rw [List.push_toArray] at N2
          refine endW (n' := A.length + B.length - (i) - (j + 1)) ((O, listOf (List.toArray (us ++ [Value.ref D5])) (k + 1)) :: (base9 ++ (tl ++ [(D5, { cls := .type "tuple", data := .seq #[.int (if x2 > x1 then x2 else x1) (if x2 > x1 then t2 else t1), .int (if y2 < y1 then y2 else y1) (if y2 < y1 then s2 else s1)] })]))) F2 N2 ?_ (by omega) ?_ ⟨i, j + 1, (out ++ [((if x2 > x1 then x2 else x1), (if y2 < y1 then y2 else y1))]), rfl, by omega, by omega, ?_, ⟨_, rfl⟩, ⟨_, nat_up⟩, (JL.more (us ++ [Value.ref D5]) (k + 1) hne hab (o := listOf (List.toArray us) k) (above_lt (by walk_at "my lt")) (by rw [List.map_append]; exact (hus.mono fun p hp => List.mem_append.mpr (.inl hp)).append (.one (pd_in (List.mem_append.mpr (.inr (.head _)))))))⟩
          · walk_at "my sub"
          · walk_at "my same"
          · rw [eA, List.append_assoc]; exact hcut
        · rename ¬ (if x2 > x1 then x2 else x1) ≤ (if y2 < y1 then y2 else y1) => hle
          rename y1 < y2 => hlt
          rename Fr _ _ _ _ => F2
          rename News _ _ _ _ => N2
          rw [show cutK (cutP (x1, y1) (x2, y2)) = [] from if_neg hle] at hcut
          dsimp only at hcut
          rw [if_pos hlt] at hcut
          refine endW (n' := A.length + B.length - (i + 1) - (j)) ((O, listOf (List.toArray us) k) :: (base9 ++ tl)) F2 N2 ?_ (by omega) ?_ ⟨i + 1, j, out, rfl, by omega, by omega, ?_, ⟨_, nat_up⟩, ⟨_, rfl⟩, ⟨us, k, tl, rfl, hne, hab, hus⟩⟩
          · walk_at "my sub"
          · walk_at "my same"
          · rw [eB]; exact hcut
        · rename ¬ (if x2 > x1 then x2 else x1) ≤ (if y2 < y1 then y2 else y1) => hle
          rename ¬ y1 < y2 => hlt
          rename Fr _ _ _ _ => F2
          rename News _ _ _ _ => N2
          rw [show cutK (cutP (x1, y1) (x2, y2)) = [] from if_neg hle] at hcut
          dsimp only at hcut
          rw [if_neg hlt] at hcut
          refine endW (n' := A.length + B.length - (i) - (j + 1)) ((O, listOf (List.toArray us) k) :: (base9 ++ tl)) F2 N2 ?_ (by omega) ?_ ⟨i, j + 1, out, rfl, by omega, by omega, ?_, ⟨_, rfl⟩, ⟨_, nat_up⟩, ⟨us, k, tl, rfl, hne, hab, hus⟩⟩
          · walk_at "my sub"
          · walk_at "my same"
          · rw [eA]; exact hcut
      · have hout : out = cutL A B := by
          rw [List.drop_eq_nil_of_le (by omega : B.length ≤ j), cutL_nil, List.append_nil] at hcut
          exact hcut
        k_steps
        rename Fr h₀ L _ m => F2
        rename News h₀ L _ _ => N2
        rename_i D5 h5 F5 N5 l5 T5 X5
        obtain ⟨l5, l6⟩ := l5
        subst hout
        refine hret _ ((D5, tupO us 0) :: tl) _ _ F2 (fun p hp => N2 p ?_) (above_cons (fun q hq => lt_all l6 (by walk_at "my sub") q (hsubN q hq)) (above_sub hab hsubN)) (.tuple (.head _) (by rw [hct]; exact hus.mono fun p hp => .tail _ hp))
        rcases List.mem_append.mp hp with hp | hp
        · exact .tail _ (.tail _ (List.mem_append.mpr (.inl (hsubN p hp))))
        · rcases List.mem_cons.mp hp with rfl | hp
          · exact .head _
          · exact .tail _ (.tail _ (List.mem_append.mpr (.inr hp)))
    · have hout : out = cutL A B := by
        rw [List.drop_eq_nil_of_le (by omega : A.length ≤ i), show cutL [] (B.drop j) = [] by simp [cutL], List.append_nil] at hcut
        exact hcut
      k_steps
      rename Fr h₀ L _ m => F2
      rename News h₀ L _ _ => N2
      rename_i D5 h5 F5 N5 l5 T5 X5
      obtain ⟨l5, l6⟩ := l5
      subst hout
      refine hret _ ((D5, tupO us 0) :: tl) _ _ F2 (fun p hp => N2 p ?_) (above_cons (fun q hq => lt_all l6 (by walk_at "my sub") q (hsubN q hq)) (above_sub hab hsubN)) (.tuple (.head _) (by rw [hct]; exact hus.mono fun p hp => .tail _ hp))
      rcases List.mem_append.mp hp with hp | hp
      · exact .tail _ (.tail _ (List.mem_append.mpr (.inl (hsubN p hp))))
      · rcases List.mem_cons.mp hp with rfl | hp
        · exact .head _
        · exact .tail _ (.tail _ (List.mem_append.mpr (.inr hp)))

end Mine
end

/-! ## Less -/
section
open PySem PySem.W PyProof.Rows PySem.Calls PySem.Spec
namespace Mine
local macro_rules | `(tactic| walk_at "my sub") => `(tactic| (intro p9 h9; (simp only [List.mem_append, List.mem_cons, List.not_mem_nil, or_false, false_or] at h9 ⊢); (repeat' (refine Or.elim h9 ?_ ?_ <;> clear h9 <;> intro h9)) <;> (simp only [h9, true_or, or_true]; done)))
local macro_rules | `(tactic| walk_at "my same") => `(tactic| (intro z9 h9; (try dsimp only); (simp only [List.contains_cons, List.contains_nil, Bool.or_false, Bool.or_eq_false_iff, beq_eq_false_iff_ne, ne_eq] at h9); (simp [h9]; done)))
local macro_rules | `(tactic| walk_at "my mem") => `(tactic| first | exact List.Mem.head _ | (refine List.Mem.tail _ ?_; walk_at "my mem"))
local macro_rules | `(tactic| walk_at "my ne") => `(tactic| first
  | assumption
  | exact ne_nil
  | exact ne_all (by assumption)
  | exact ne_allSub (And.right (by assumption)) (by walk_at "my sub")
  | exact ne_own (by assumption) (by walk_at "my mem")
  | exact ne_lt (by assumption) (by walk_at "my mem")
  | (refine ne_app ?_ ?_ <;> walk_at "my ne")
  | (refine ne_cons (by (refine neN ?_; (try dsimp only); omega)) ?_; walk_at "my ne"))
local macro_rules | `(tactic| walk_at "my lt") => `(tactic| first
  | assumption
  | exact lt_nil
  | exact lt_all (by assumption) (by walk_at "my sub")
  | (refine lt_cons (by (try dsimp only); omega) ?_; walk_at "my lt")
  | (refine lt_app ?_ ?_ <;> walk_at "my lt"))
local macro_rules | `(tactic| k_all) => `(tactic| walk_at "my ne")
local macro_rules | `(tactic| walk_at "my off") => `(tactic| first
  | assumption
  | exact off_nil
  | exact off_lt (by assumption) (by walk_at "my sub")
  | exact off_tail (by assumption)
  | (refine off_app ?_ ?_ <;> walk_at "my off")
  | (refine off_cons (by walk_at "my ne") ?_; walk_at "my off"))
local macro_rules | `(tactic| walk_at "exec For") => `(tactic| (k_here; (rename Fr _ _ _ _ => lF'); (with_unfolding_all refine' For_hold lF' ?_); k_whole))
local macro_rules | `(tactic| walk_at "exec For Name Name cons nil") => `(tactic| (k_here; (rename Fr _ _ _ _ => lF'); (with_unfolding_all refine' For_hold lF' ?_); k_whole))
local macro_rules | `(tactic| walk_at "exec For Name Call cons nil") => `(tactic| (k_here; (rename Fr _ _ _ _ => lF'); (with_unfolding_all refine' For_hold lF' ?_); k_whole))
local macro_rules | `(tactic| walk_at "exec For Tuple Name cons nil") => `(tactic| (k_here; (rename Fr _ _ _ _ => lF'); (with_unfolding_all refine' For_hold lF' ?_); k_whole))
local macro_rules | `(tactic| walk_at "exec For Tuple Call cons nil") => `(tactic| (k_here; (rename Fr _ _ _ _ => lF'); (with_unfolding_all refine' For_hold lF' ?_); k_whole))
local macro_rules | `(tactic| walk_at "exec For Name Subscript cons nil") => `(tactic| (k_here; (rename Fr _ _ _ _ => lF'); (with_unfolding_all refine' For_hold lF' ?_); k_whole))
local macro_rules | `(tactic| walk_at "call builtin:list.append") => `(tactic| (k_here; (show wpAny _ _ (call (Value.builtin "list.append") [Value.ref _, _]) _ _ _); k_dflt (refine' append_K ?k1 ?k2 ?k3 ?_ ?z; (case k1 => k_asm); (case k2 => k_asm); (case k3 => k_upd); (case z => first | assumption | size_fits); k_whole); intro h' F' N'; (try k_sweep)))
local macro_rules | `(tactic| walk_at "call builtin:len") => `(tactic| (k_here; (show wpAny _ _ (call (Value.builtin "len") [Value.ref _]) _ _ _); k_dflt (first
  | (refine' len_listN ?k1 ?k2 ?z ?_; (case k1 => k_asm); (case k2 => k_mem); (case z => assumption); k_whole)
  | (refine' len_tupN ?k1 ?k2 ?z ?_; (case k1 => k_asm); (case k2 => k_mem); (case z => assumption); k_whole)); intro t9 tk9; (try dsimp only)))
local macro_rules | `(tactic| walk_at "subscriptTail") => `(tactic| (k_here; (show wpAny _ _ (subscriptTail _ _ (Value.ref _) (Value.int (-1) _)) _ _ _); k_dflt (refine' back_tailN ?k1 ?k2 ?_ ?k3; (case k1 => k_asm); (case k2 => k_mem); (case k3 => with_unfolding_all rfl); k_whole)))
local macro_rules | `(tactic| walk_at "getItem ref int") => `(tactic| (k_here; (show wpAny _ _ (getItem (Value.ref _) (Value.int (-1) _)) _ _ _); k_dflt (refine' back_listN ?k1 ?k2 ?_; (case k1 => k_asm); (case k2 => k_mem); k_whole)))
local macro_rules | `(tactic| walk_at "setItem ref int") => `(tactic| (k_here; (show wpAny _ _ (setItem (Value.ref _) (Value.int (-1) _) _) _ _ _); k_dflt (refine' set_backN ?k1 ?k2 ?k3 ?_; (case k1 => k_asm); (case k2 => k_asm); (case k3 => k_upd); k_whole); intro h' F' N'; (try k_sweep)))
local macro_rules | `(tactic| walk_at "call type:tuple") => `(tactic| (k_here; (show wpAny _ _ (call (Value.type "tuple") [Value.ref _]) _ _ _); k_dflt (refine' tupleN ?k1 ?k2 ?k3 ?z ?_; (case k1 => k_asm); (case k2 => k_asm); (case k3 => k_mem); (case z => assumption); k_whole); intro D' h' F' N' l1; (try k_lt l1); (try k_sweep)))
local macro_rules | `(tactic| walk_at "subscriptTail") => `(tactic| (k_here; (show wpAny _ _ (subscriptTail _ _ (Value.ref _) (Value.int _ _)) _ _ _); k_dflt (refine' at_tupN ?k1 ?k2 ?k3 ?k4 ?k5 ?_ ?k6; (case k1 => k_asm); (case k2 => k_mem); (case k5 => assumption); (case k3 => omega); (case k4 => omega); (case k6 => with_unfolding_all rfl); k_whole)))
local macro_rules | `(tactic| k_mem) => `(tactic| exact mem_use (by assumption) (by walk_at "my sub"))
def lessT : Deed (List (Int × Int) × List (Int × Int)) where
  Rel := fun news vs d => ∃ v u, vs = [v, u] ∧ SetIn news v d.1 ∧ SetIn news u d.2
  Ok := fun d => Pos2 d.1 ∧ Pos2 d.2 ∧ d.1.length + d.2.length < 64
  deep := 4
  Out := fun tl r d => SetIn tl r (ls d.1 d.2)
local macro_rules | `(tactic| walk_at "my set") => `(tactic| first
  | assumption
  | (refine' DatIn.mono ?setS ?setH; (case setH => assumption); (case setS => walk_at "my sub")))
local macro_rules | `(tactic| walk_at "call ref") => `(tactic| (k_here; (with_reducible show wpAny _ _ (call (Value.ref 82) _) _ _ _); k_dflt (
  refine' does_use (settled_does _ _ _ _) ?k1 ?k2 ?k3 ?k4 ?k5 ?kK ?kR ?ko ?kd ?ku ?_; (case k1 => k_asm); (case k2 => k_asm); (case k3 => k_asm); (case k4 => k_asm); (case k5 => k_asm); (case kK => exact rfl); (case kd => dsimp only [settledT]; ktr_room); (case ku => dsimp only [settledT]; ktr_units);
  (case kR => (refine ⟨_, rfl, ?setG⟩; (case setG => walk_at "my set"))); (case ko => (dsimp only [settledT]; exact ⟨by assumption, by omega⟩));
  intro r9 tl9 h9 tk9 F9 N9 hl9 ho9; (try simp only [List.cons_append, List.append_assoc] at N9); (dsimp only [settledT] at ho9); (obtain ⟨a9, ws9, n9, e9, hm9, hd9⟩ := set_open ho9); subst e9; (try dsimp only); (try k_fold))))
theorem less_does (w : World) (mean : ExcName → Option Value) (mg mb : Str → Option Value) : Does w mean mg mb 110 lessT := by
  w_on
  unfold Does
  k_fill
  intro d dp un gd cn cs a ccd cl outer A₀ base h₀ L m news s vs Q E B F X N T hk hR hok hd hu hret
  obtain ⟨d1, d2⟩ := d
  obtain ⟨v, u, rfl, hv, hv2⟩ := hR
  obtain ⟨ok1, ok2, ok3⟩ := hok
  dsimp only at ok1 ok2 ok3 hv hv2
  dsimp only [lessT] at hd hu hret
  obtain ⟨a1, ws1, n1, rfl, hm1, hds1⟩ := set_open hv
  obtain ⟨a2, ws2, n2, rfl, hm2, hds2⟩ := set_open hv2
  have p1 := plain_length d1
  have p2 := plain_length d2
  unfold Pos2 at ok1 ok2
  clear hm1 hm2 hds1 hds2
  refine wpAny_call ?_
  k_dflt ktr_enter
  k_steps
  unfold Hold
  rename_i tlB hpB tkB hlB aB wsB nB hmB hdB hoB hpO O hp1 lO hp2 F0 N0 tlA hpA tkA F1 hlA N1 aA wsA nA hmA hdA hoA
  clear F0 N0
  have hA : (aA, tupO wsA nA) ∈ news ++ (tlB ++ tlA) := List.mem_append.mpr (.inr (List.mem_append.mpr (.inr hmA)))
  have hB : (aB, tupO wsB nB) ∈ news ++ (tlB ++ tlA) := List.mem_append.mpr (.inr (List.mem_append.mpr (.inl hmB)))
  have hAd : DatAll (news ++ (tlB ++ tlA)) wsA ((plain d1).map pd) := hdA.mono fun p hp => List.mem_append.mpr (.inr (List.mem_append.mpr (.inr hp)))
  have hBd : DatAll (news ++ (tlB ++ tlA)) wsB ((plain d2).map pd) := hdB.mono fun p hp => List.mem_append.mpr (.inr (List.mem_append.mpr (.inl hp)))
  have hsubN : ∀ p ∈ news, p ∈ news ++ (tlB ++ tlA) := fun p hp => List.mem_append.mpr (.inl hp)
  have hneO : ∀ p ∈ news ++ (tlB ++ tlA), p.1 ≠ O := by
    rw [← List.append_assoc]
    exact ne_app (fun p hp => Nat.ne_of_lt (lO p hp)) (ne_lt hlA (.head _))
  clear hlA hlB hmA hmB hdA hdB hoA hoB lO
  have hls : ls d1 d2 = lessS (plain d1) (plain d2) := rfl
  generalize plain d1 = A at *
  generalize plain d2 = B at *
  generalize news ++ (tlB ++ tlA) = base9 at *
  have hlenA := hAd.length
  have hlenB := hBd.length
  rw [List.length_map] at hlenA hlenB
  refine loopX_tup [Str.ofString "low", Str.ofString "high", Str.ofString "begin", Str.ofString "hole_low", Str.ofString "hole_high"] (JL O base9 fun i => (A.take i).foldl (lessO B) []) ?_ (.tail _ hA) F1 N1 ?_ ?_ ?_ ?_
  · exact rfl
  · exact JL.start rfl hneO
  · rintro i m nx ⟨us, k, tl, rfl, -⟩
    exact .tail _ (List.mem_append.mpr (.inl hA))
  · rintro i v u nx h tk own hi hv hoff ⟨us, k, tl, rfl, hne, hab, hus⟩ F₁ N₁
    clear F1 N1
    have hne1 := ne_left hne
    have hne2 := ne_right hne
    dsimp only at hus
    dsimp only [envOf] at F₁ N₁
    simp only [List.cons_append, List.append_assoc] at N₁
    have hi' : i < A.length := by omega
    obtain ⟨v', hv', hdv⟩ := hAd.get (k := i) (by rw [List.length_map]; exact hi')
    rw [hv] at hv'
    cases hv'
    rw [List.getElem_map] at hdv
    obtain ⟨b1, m1, t1, s1, rfl, hb1⟩ := pd_open hdv
    have hstep : (A.take (i + 1)).foldl (lessO B) [] = lessO B ((A.take i).foldl (lessO B) []) A[i] := foldl_snoc _ _ _ _ hi'
    have hlenU := hus.length
    rw [List.length_map] at hlenU
    have hlenO := lessS_length B (A.take i) []
    rw [List.length_take] at hlenO
    generalize A[i] = p at *
    generalize (A.take i).foldl (lessO B) [] = out at *
    obtain ⟨x1, y1⟩ := p
    dsimp only at hb1
    clear hdv
    k_steps
    rename Fr _ _ _ _ => F1
    rename News _ _ _ _ => N1
    have hprod : min i A.length * (B.length + 1) ≤ 64 * 65 := Nat.mul_le_mul (by omega) (by omega)
    have hmB : (aB, tupO wsB nB) ∈ (O, listOf (List.toArray us) k) :: (base9 ++ (tl ++ own)) := .tail _ (List.mem_append.mpr (.inl hB))
    have hneo : ∀ p ∈ base9 ++ (tl ++ own), p.1 ≠ O := ne_app hne1 (ne_app hne2 (ne_own hoff (.head _)))
    have hneo3 : ∀ p ∈ own, p.1 ≠ O := ne_own hoff (.head _)
    unfold Hold
    refine loopX_tup [Str.ofString "hole_low", Str.ofString "hole_high", Str.ofString "begin"] (JI (Str.ofString "begin") O (base9 ++ (tl ++ own)) tl (fun j => ((B.take j).foldl (lessI y1) (x1, out)).2) fun j => ((B.take j).foldl (lessI y1) (x1, out)).1) ?_ hmB F1 N1 ?_ ?_ ?_ ?_
    · exact rfl
    · exact ⟨⟨_, rfl⟩, us, k, [], by rw [List.append_nil], by rw [List.append_nil]; exact hneo, above_nil, by rw [List.append_nil]; exact hus⟩
    · rintro j m nx ⟨-, us2, k2, tl2, rfl, -⟩
      exact .tail _ (List.mem_append.mpr (.inl (List.mem_append.mpr (.inl hB))))
    · rintro j v u2 nx h2 tk2 own2 hj hv2' hoff2 ⟨⟨tb, hub⟩, us2, k2, tl2, rfl, hne3, hab3, hus2⟩ F₂ N₂
      clear F1 N1
      have hne4 := ne_right hne3
      have hj' : j < B.length := by omega
      obtain ⟨v2, hv3, hdv⟩ := hBd.get (k := j) (by rw [List.length_map]; exact hj')
      rw [hv2'] at hv3
      cases hv3
      rw [List.getElem_map] at hdv
      obtain ⟨b2, m2, t2, s2, rfl, hb2⟩ := pd_open hdv
      have hstep2 : (B.take (j + 1)).foldl (lessI y1) (x1, out) = lessI y1 ((B.take j).foldl (lessI y1) (x1, out)) B[j] := foldl_snoc _ _ _ _ hj'
      have hlenI := lessI_length y1 (B.take j) (x1, out)
      rw [List.length_take] at hlenI
      have hlenU2 := hus2.length
      rw [List.length_map] at hlenU2
      dsimp only at hub hus2 hlenI hlenU2
      generalize B[j] = q at *
      generalize (B.take j).foldl (lessI y1) (x1, out) = st at *
      obtain ⟨x2, y2⟩ := q
      obtain ⟨bg, o2⟩ := st
      dsimp only at hb2 hub hus2 hlenI hlenU2
      dsimp only [envOf] at F₂ N₂
      simp only [List.cons_append, List.append_assoc] at N₂
      replace F₂ := fr_name (x := Str.ofString "begin") (v := .int bg tb) F₂ hub
      have hsz : us2.toArray.size ≤ sizeLine := by rw [List.size_toArray, sizeLine_eq]; simp only [List.length_nil] at hlenO; omega
      clear hdv
      k_steps
      · rename y2 < bg => g1
        rename Fr _ _ _ _ => F3
        rename News _ _ _ _ => N3
        rw [lessI_skip1 g1] at hstep2
        refine endI (add := []) us2 k2 F3 N3 ?_ ?_ hoff2 hne3 hab3 above_nil ?_ ?_ ?_
        · walk_at "my sub"
        · walk_at "my sub"
        · walk_at "my same"
        · rw [hstep2]
          exact ⟨_, rfl⟩
        · rw [hstep2]
          rw [List.append_nil]
          exact hus2
      · rename ¬ y2 < bg => g1
        rename y1 < x2 => g2
        rename Fr _ _ _ _ => F3
        rename News _ _ _ _ => N3
        rw [lessI_skip2 g2] at hstep2
        refine endI (add := []) us2 k2 F3 N3 ?_ ?_ hoff2 hne3 hab3 above_nil ?_ ?_ ?_
        · walk_at "my sub"
        · walk_at "my sub"
        · walk_at "my same"
        · rw [hstep2]
          exact ⟨_, rfl⟩
        · rw [hstep2]
          rw [List.append_nil]
          exact hus2
      · rename ¬ y2 < bg => g1
        rename ¬ y1 < x2 => g2
        rename bg < x2 => g3
        rename Fr _ _ _ _ => F3
        rename News _ _ _ _ => N3
        rw [lessI_cut g1 g2 g3] at hstep2
        rename_i D5 h5 l5 hC hD
        obtain ⟨l5, l6⟩ := l5
        rw [List.push_toArray] at N3
        refine endI1 (us2 ++ [Value.ref D5]) (k2 + 1) F3 N3 ?_ hoff2 hne3 hab3 (by walk_at "my lt") ?_ ?_ ?_
        · walk_at "my sub"
        · walk_at "my same"
        · rw [hstep2]
          exact ⟨_, rfl⟩
        · rw [hstep2]
          rw [List.map_append]
          exact (hus2.mono fun p hp => (List.mem_append.mp hp).elim (fun h => List.mem_append.mpr (.inl h)) fun h => List.mem_append.mpr (.inr (List.mem_append.mpr (.inl h)))).append (.one (pd_in (List.mem_append.mpr (.inr (List.mem_append.mpr (.inr (.head _)))))))
      · rename ¬ y2 < bg => g1
        rename ¬ y1 < x2 => g2
        rename ¬ bg < x2 => g3
        rename Fr _ _ _ _ => F3
        rename News _ _ _ _ => N3
        rw [lessI_move g1 g2 g3] at hstep2
        refine endI (add := []) us2 k2 F3 N3 ?_ ?_ hoff2 hne3 hab3 above_nil ?_ ?_ ?_
        · walk_at "my sub"
        · walk_at "my sub"
        · walk_at "my same"
        · rw [hstep2]
          exact ⟨_, rfl⟩
        · rw [hstep2]
          rw [List.append_nil]
          exact hus2
    · rintro u2 nx h2 tk2 ⟨⟨tb, hub⟩, us2, k2, tl2, rfl, hne3, hab3, hus2⟩ F₂ N₂
      clear F1 N1
      have hne4 := ne_right hne3
      dsimp only at hub hus2
      rw [hlenB, List.take_length] at hub hus2
      have hlenI := lessI_length y1 B (x1, out)
      have hlenU2 := hus2.length
      rw [List.length_map] at hlenU2
      rw [lessO_eq B out (x1, y1)] at hstep
      dsimp only at hstep hlenI
      generalize B.foldl (lessI y1) (x1, out) = st at *
      obtain ⟨bg, o2⟩ := st
      dsimp only at hub hus2 hstep hlenI hlenU2
      dsimp only [envOf] at F₂ N₂
      simp only [List.cons_append, List.append_assoc] at N₂
      replace F₂ := fr_name (x := Str.ofString "begin") (v := .int bg tb) F₂ hub
      have hsz : us2.toArray.size ≤ sizeLine := by rw [List.size_toArray, sizeLine_eq]; simp only [List.length_nil] at hlenO; omega
      dsimp only
      k_steps
      · rename bg ≤ y1 => g1
        rename Fr _ _ _ _ => F3
        rename News _ _ _ _ => N3
        rw [if_pos g1] at hstep
        rename_i D5 h5 l5 hC
        obtain ⟨l5, l6⟩ := l5
        rw [List.push_toArray] at N3
        refine endJ3 (us2 ++ [Value.ref D5]) (k2 + 1) F3 N3 ?_ hoff hne hab hne4 hab3 l5 (by walk_at "my lt") ?_ ?_
        · walk_at "my sub"
        · walk_at "my same"
        · rw [hstep, List.map_append]
          exact (hus2.mono fun p hp => (List.mem_append.mp hp).elim (fun h => List.mem_append.mpr (.inl h)) fun h => List.mem_append.mpr (.inr (List.mem_append.mpr (.inl h)))).append (.one (pd_in (List.mem_append.mpr (.inr (List.mem_append.mpr (.inr (.head _)))))))
      · rename ¬ bg ≤ y1 => g1
        rename Fr _ _ _ _ => F3
        rename News _ _ _ _ => N3
        rw [if_neg g1] at hstep
        refine endJ2 us2 k2 F3 N3 ?_ ?_ hoff hne hab hne4 hab3 ?_ ?_
        · walk_at "my sub"
        · walk_at "my sub"
        · walk_at "my same"
        · rw [hstep]
          exact hus2
  · rintro u nx h tk ⟨us, k, tl, rfl, hne, hab, hus⟩ F₁ N₁
    clear F1 N1
    dsimp only at hus
    rw [hlenA, List.take_length] at hus
    dsimp only [envOf] at F₁ N₁
    have hlenU := hus.length
    rw [List.length_map] at hlenU
    have hlenO := lessS_length B A []
    have hprod : A.length * (B.length + 1) ≤ 64 * 65 := Nat.mul_le_mul (by omega) (by omega)
    have hz16 : us.length ≤ 16384 := by simp only [List.length_nil] at hlenO; omega
    dsimp only
    k_steps
    rename Fr h₀ L _ m => F2
    rename News h₀ L _ _ => N2
    rename_i D5 h5 F5 N5 l5 T5 X5
    obtain ⟨l5, l6⟩ := l5
    refine hret _ ((D5, tupO us 0) :: tl) _ _ F2 (fun p hp => N2 p ?_) (above_cons (fun q hq => lt_all l6 (by walk_at "my sub") q (hsubN q hq)) (above_sub hab hsubN)) (.tuple (.head _) (by rw [hls]; exact hus.mono fun p hp => .tail _ hp))
    rcases List.mem_append.mp hp with hp | hp
    · exact .tail _ (.tail _ (List.mem_append.mpr (.inl (hsubN p hp))))
    · rcases List.mem_cons.mp hp with rfl | hp
      · exact .head _
      · exact .tail _ (.tail _ (List.mem_append.mpr (.inr hp)))

end Mine
end

/-! ## Eqs -/
section
open PySem PySem.W PyProof.Rows PySem.Calls PySem.Spec
namespace Mine
theorem pd_ok (l : List (Int × Int)) : ∀ d ∈ l.map pd, kqdOk 8 d = true := by
  intro d hd
  obtain ⟨x, _, rfl⟩ := List.mem_map.mp hd
  rfl
theorem tup_ok (l : List (Int × Int)) : kqdOk 9 (.tuple (l.map pd)) = true := by
  simpa [kqdOk] using pd_ok l
theorem list_ok (l : List (Int × Int)) : kqdOk 9 (.list (l.map pd)) = true := by
  simpa [kqdOk] using pd_ok l
theorem pd_inj {l r : List (Int × Int)} (h : l.map pd = r.map pd) : l = r := by
  refine (List.map_inj_right fun x y h => ?_).mp h
  obtain ⟨x1, x2⟩ := x
  obtain ⟨y1, y2⟩ := y
  simpa using h
section
variable {prog : Program} {w : World} {A : Around} {E : Value → Shared → Prop} {s : Shared} {h₀ : Heap} {L : Addr} {news n₁ n₂ : List (Addr × Obj)} {v u : Value} {d e : Dat} {l r : List (Int × Int)} {Q : Value → Shared → Prop}
theorem ne_dats (N : News h₀ L s.heap news) (Da : DatIn n₁ v d) (sa : ∀ p ∈ n₁, p ∈ news) (Db : DatIn n₂ u e) (sb : ∀ p ∈ n₂, p ∈ news) (ha : kqdOk 9 d = true) (hb : kqdOk 9 e = true) (hu : A.units + 64 < cLine)
    (h : ∀ b : Bool, (b = true ↔ d = e) → Q (.bool (!b)) s) : wpAny (model prog w) A (compareOp .NotEq v u) Q E s := by
  obtain ⟨as, ra⟩ := kqd_in N 9 (Da.mono sa) ha
  obtain ⟨bs, rb⟩ := kqd_in N 9 (Db.mono sb) hb
  have la := kqd_lay 9 d ha
  have lb := kqd_lay 9 e hb
  refine ne_dataH ra rb ?_ ?_ hu (h _ (kqd_eqv 9 d e 9 ha hb))
  · unfold SeqAt.shaped; rw [la.1, Bool.true_and]; exact decide_eq_true (Nat.le_trans la.2 (by decide))
  · unfold SeqAt.shaped; rw [lb.1, Bool.true_and]; exact decide_eq_true (Nat.le_trans lb.2 (by decide))
theorem ne_setsEq (N : News h₀ L s.heap news) (Da : SetIn news v l) (Db : SetIn news u r) (hu : A.units + 64 < cLine) (he : l = r) (h : Q (.bool false) s) : wpAny (model prog w) A (compareOp .NotEq v u) Q E s := by
  refine ne_dats N Da (fun _ h => h) Db (fun _ h => h) (tup_ok l) (tup_ok r) hu fun b hb => ?_
  rw [hb.mpr (by rw [he])]
  exact h
theorem ne_listNil {O P : Addr} {k n : Nat} {us : List Value} {tl : List (Addr × Obj)} (N : News h₀ L s.heap news) (mO : (O, listOf (List.toArray us) k) ∈ news) (D : DatAll tl us (l.map pd)) (sub : ∀ p ∈ tl, p ∈ news) (mP : (P, listOf #[] n) ∈ news) (hu : A.units + 64 < cLine)
    (h1 : us = [] → l = [] → Q (.bool false) s) (h2 : l ≠ [] → Q (.bool true) s) : wpAny (model prog w) A (compareOp .NotEq (.ref O) (.ref P)) Q E s := by
  refine ne_dats N (.list mO (D.mono sub)) (fun _ h => h) (.list (vs := []) mP .nil) (fun _ h => h) (list_ok l) (list_ok []) hu fun b hb => ?_
  have hlen := D.length
  rw [List.length_map] at hlen
  by_cases e : l = []
  · rw [hb.mpr (by rw [e]; rfl)]
    refine h1 (List.eq_nil_of_length_eq_zero ?_) e
    rw [hlen, e]; rfl
  · have hb9 : b = false := Bool.eq_false_iff.mpr fun hx => e (by simpa using hb.mp hx)
    rw [hb9]
    exact h2 e
end

end Mine
end

/-! ## Lawset -/
section
open PySem PySem.W PyProof.Rows PySem.Calls PySem.Spec
namespace Mine
local macro_rules | `(tactic| walk_at "my sub") => `(tactic| (intro p9 h9; (simp only [List.mem_append, List.mem_cons, List.not_mem_nil, or_false, false_or] at h9 ⊢); (repeat' (refine Or.elim h9 ?_ ?_ <;> clear h9 <;> intro h9)) <;> (simp only [h9, true_or, or_true]; done)))
local macro_rules | `(tactic| walk_at "my same") => `(tactic| (intro z9 h9; (try dsimp only); (simp only [List.contains_cons, List.contains_nil, Bool.or_false, Bool.or_eq_false_iff, beq_eq_false_iff_ne, ne_eq] at h9); (simp [h9]; done)))
local macro_rules | `(tactic| walk_at "my mem") => `(tactic| first | exact List.Mem.head _ | (refine List.Mem.tail _ ?_; walk_at "my mem"))
local macro_rules | `(tactic| walk_at "my ne") => `(tactic| first
  | assumption
  | exact ne_nil
  | exact ne_all (by assumption)
  | exact ne_allSub (And.right (by assumption)) (by walk_at "my sub")
  | exact ne_own (by assumption) (by walk_at "my mem")
  | exact ne_lt (by assumption) (by walk_at "my mem")
  | (refine ne_app ?_ ?_ <;> walk_at "my ne")
  | (refine ne_cons (by (refine neN ?_; (try dsimp only); omega)) ?_; walk_at "my ne"))
local macro_rules | `(tactic| walk_at "my lt") => `(tactic| first
  | assumption
  | exact lt_nil
  | exact lt_all (by assumption) (by walk_at "my sub")
  | (refine lt_cons (by (try dsimp only); omega) ?_; walk_at "my lt")
  | (refine lt_app ?_ ?_ <;> walk_at "my lt"))
local macro_rules | `(tactic| k_all) => `(tactic| walk_at "my ne")
local macro_rules | `(tactic| walk_at "my off") => `(tactic| first
  | assumption
  | exact off_nil
  | exact off_lt (by assumption) (by walk_at "my sub")
  | exact off_tail (by assumption)
  | (refine off_app ?_ ?_ <;> walk_at "my off")
  | (refine off_cons (by walk_at "my ne") ?_; walk_at "my off"))
local macro_rules | `(tactic| walk_at "exec For") => `(tactic| (k_here; (rename Fr _ _ _ _ => lF'); (with_unfolding_all refine' For_hold lF' ?_); k_whole))
local macro_rules | `(tactic| walk_at "exec For Name Name cons nil") => `(tactic| (k_here; (rename Fr _ _ _ _ => lF'); (with_unfolding_all refine' For_hold lF' ?_); k_whole))
local macro_rules | `(tactic| walk_at "exec For Name Call cons nil") => `(tactic| (k_here; (rename Fr _ _ _ _ => lF'); (with_unfolding_all refine' For_hold lF' ?_); k_whole))
local macro_rules | `(tactic| walk_at "exec For Tuple Name cons nil") => `(tactic| (k_here; (rename Fr _ _ _ _ => lF'); (with_unfolding_all refine' For_hold lF' ?_); k_whole))
local macro_rules | `(tactic| walk_at "exec For Tuple Call cons nil") => `(tactic| (k_here; (rename Fr _ _ _ _ => lF'); (with_unfolding_all refine' For_hold lF' ?_); k_whole))
local macro_rules | `(tactic| walk_at "exec For Name Subscript cons nil") => `(tactic| (k_here; (rename Fr _ _ _ _ => lF'); (with_unfolding_all refine' For_hold lF' ?_); k_whole))
local macro_rules | `(tactic| walk_at "call builtin:list.append") => `(tactic| (k_here; (show wpAny _ _ (call (Value.builtin "list.append") [Value.ref _, _]) _ _ _); k_dflt (refine' append_K ?k1 ?k2 ?k3 ?_ ?z; (case k1 => k_asm); (case k2 => k_asm); (case k3 => k_upd); (case z => first | assumption | size_fits); k_whole); intro h' F' N'; (try k_sweep)))
local macro_rules | `(tactic| walk_at "call builtin:len") => `(tactic| (k_here; (show wpAny _ _ (call (Value.builtin "len") [Value.ref _]) _ _ _); k_dflt (first
  | (refine' len_listN ?k1 ?k2 ?z ?_; (case k1 => k_asm); (case k2 => k_mem); (case z => assumption); k_whole)
  | (refine' len_tupN ?k1 ?k2 ?z ?_; (case k1 => k_asm); (case k2 => k_mem); (case z => assumption); k_whole)); intro t9 tk9; (try dsimp only)))
local macro_rules | `(tactic| walk_at "subscriptTail") => `(tactic| (k_here; (show wpAny _ _ (subscriptTail _ _ (Value.ref _) (Value.int (-1) _)) _ _ _); k_dflt (refine' back_tailN ?k1 ?k2 ?_ ?k3; (case k1 => k_asm); (case k2 => k_mem); (case k3 => with_unfolding_all rfl); k_whole)))
local macro_rules | `(tactic| walk_at "getItem ref int") => `(tactic| (k_here; (show wpAny _ _ (getItem (Value.ref _) (Value.int (-1) _)) _ _ _); k_dflt (refine' back_listN ?k1 ?k2 ?_; (case k1 => k_asm); (case k2 => k_mem); k_whole)))
local macro_rules | `(tactic| walk_at "setItem ref int") => `(tactic| (k_here; (show wpAny _ _ (setItem (Value.ref _) (Value.int (-1) _) _) _ _ _); k_dflt (refine' set_backN ?k1 ?k2 ?k3 ?_; (case k1 => k_asm); (case k2 => k_asm); (case k3 => k_upd); k_whole); intro h' F' N'; (try k_sweep)))
local macro_rules | `(tactic| walk_at "call type:tuple") => `(tactic| (k_here; (show wpAny _ _ (call (Value.type "tuple") [Value.ref _]) _ _ _); k_dflt (refine' tupleN ?k1 ?k2 ?k3 ?z ?_; (case k1 => k_asm); (case k2 => k_asm); (case k3 => k_mem); (case z => assumption); k_whole); intro D' h' F' N' l1; (try k_lt l1); (try k_sweep)))
local macro_rules | `(tactic| walk_at "subscriptTail") => `(tactic| (k_here; (show wpAny _ _ (subscriptTail _ _ (Value.ref _) (Value.int _ _)) _ _ _); k_dflt (refine' at_tupN ?k1 ?k2 ?k3 ?k4 ?k5 ?_ ?k6; (case k1 => k_asm); (case k2 => k_mem); (case k5 => assumption); (case k3 => omega); (case k4 => omega); (case k6 => with_unfolding_all rfl); k_whole)))
local macro_rules | `(tactic| k_mem) => `(tactic| exact mem_use (by assumption) (by walk_at "my sub"))
def cellP (c : Int) : Int × Int := ((if (c.fdiv 4096).fmod 2 = 0 then 0 else 4294967235) + 1 + c.fmod 60, (if (c.fdiv 4096).fmod 2 = 0 then 0 else 4294967235) + 1 + (c.fdiv 60 + c).fmod 60)
theorem cellP_pos (c : Int) : 0 < (cellP c).1 ∧ 0 < (cellP c).2 := by
  unfold cellP
  have h1 : 0 ≤ c.fmod 60 := by rw [Int.fmod_eq_emod_of_nonneg _ (by decide)]; omega
  have h2 : 0 ≤ (c.fdiv 60 + c).fmod 60 := by rw [Int.fmod_eq_emod_of_nonneg _ (by decide)]; omega
  constructor <;> dsimp only <;> split <;> omega
theorem three_in {h₀ h' : Heap} {L : Addr} {q3 q2 q1 : Addr × Obj} {news X : List (Addr × Obj)} (N : News h₀ L h' (q3 :: q2 :: q1 :: X)) (hX : ∀ p ∈ news, p ∈ X) : News h₀ L h' (news ++ [q3, q2, q1]) := by
  intro p hp
  rcases List.mem_append.mp hp with hp | hp
  · exact N p (.tail _ (.tail _ (.tail _ (hX p hp))))
  · simp only [List.mem_cons, List.not_mem_nil, or_false] at hp
    rcases hp with rfl | rfl | rfl
    · exact N _ (.head _)
    · exact N _ (.tail _ (.head _))
    · exact N _ (.tail _ (.tail _ (.head _)))
theorem endP {h₀ h' : Heap} {L O D : Addr} {m₀ m' : Str → Option Value} {base tl own X : List (Addr × Obj)} {f : Nat → List (Int × Int)} {i : Nat} {xs : List Str} {s₁ : Shared} {tk n : Nat} {o : Obj} {x y : Int} {t u : Tok} (us : List Value) (k : Nat) (F : Fr h₀ L h' m')
    (N : News h₀ L h' ((D, ({ cls := .type "tuple", data := .seq #[.int x t, .int y u] n } : Obj)) :: (O, listOf (us.toArray.push (.ref D)) (k + 1)) :: X))
    (hX : ∀ p ∈ base ++ (tl ++ own), p ∈ X) (hoff : OwnOff own (((O, o) :: (base ++ tl)).map (·.1)))
    (hne : ∀ p ∈ base ++ tl, p.1 ≠ O) (hab : Above base tl) (hD1 : O < D) (hlt : AllLt D (base ++ (tl ++ own))) (hm : ∀ z, xs.contains z = false → m' z = m₀ z)
    (hus : DatAll tl us ((f i).map pd)) (hf : f (i + 1) = f i ++ [(x, y)]) :
    InvEndG h₀ L (fun m' nx => (∀ z, xs.contains z = false → m' z = m₀ z) ∧ JL O base f (i + 1) m' nx) own s₁ { s₁ with heap := h', toks := tk } := by
  rw [List.push_toArray] at N
  refine endJ3 (add := []) (us ++ [Value.ref D]) (k + 1) F N (by rw [List.append_nil]; exact hX) hoff hne hab ne_nil above_nil hD1 (lt_all hlt fun _ h => h) hm ?_
  rw [hf, List.map_append]
  exact (hus.mono fun p hp => List.mem_append.mpr (.inl hp)).append (.one (pd_in (List.mem_append.mpr (.inr (.head _)))))
local macro_rules | `(tactic| walk_at "eval BinOp") => `(tactic| (k_here; (dsimp only)))
local macro_rules | `(tactic| walk_at "exec Assign") => `(tactic| (k_here; (dsimp only)))
local macro_rules | `(tactic| walk_at "eval Tuple") => `(tactic| (k_here; (dsimp only)))
theorem lawset_does (w : World) (mean : ExcName → Option Value) (mg mb : Str → Option Value) :
  ∀ (ns : List Int) (sv : List Value) (sa : Addr) (k : Nat) (t : Tok) (dp un : Nat) (gd : Option (List Code)) (cn : Str) (cs : Scope) (a : Addr) (ccd : Value) (cl : List (Str × Addr)) (outer : List Env) (A₀ : Around) (base h₀ : Heap) (L : Addr) (m : Str → Option Value) (news : List (Addr × Obj)) (s : Shared)
    (Q E : Value → Shared → Prop),
    Below A₀ base outer h₀ → Fr h₀ L s.heap m → (hd.heap_39 w.params).In h₀ → News h₀ L s.heap news → Top hd.view_39 (looseW hd.view_39 [Str.ofString "PostError"]) mean mg mb h₀ → cs.kind = .function → h₀.IsList sa sv.toArray → IntsAre sv ns → ns.length ≤ 63 → k < 3 → dp + 2 < recursionLimit → un + 80 < cLine →
    (∀ r tl h' tk' l, Fr h₀ L h' m → News h₀ L h' (news ++ tl) → Above news tl → SetIn tl r l → Pos2 l → l.length ≤ 4 → Q r { s with heap := h', toks := tk' }) →
    wpAny (model (PySem.Challenge.rw_nz0276_01.row.prog) w) (ktrTop dp un gd cn cs L a ccd cl outer) (call (.ref 117) [.ref sa, .int k t]) Q E s := by
  w_on
  k_fill
  intro ns sv sa k t dp un gd cn cs a ccd cl outer A₀ base h₀ L m news s Q E B F X N T hk hS hI hn hk3 hd hu hret
  refine wpAny_call ?_
  k_dflt ktr_enter
  rename Fr h₀ L _ m => FG
  have hS' := Fr.lst FG hS
  k_steps
  unfold Hold
  rename_i g0 L0 h1 B1 X1 T1 O h2 lO h3 D ws h4 F1 N1 hW hC1 hL1 l1
  clear hC1 hL1
  obtain ⟨l1, l2⟩ := l1
  have hc4 : (List.take (min (4 * (k : Int) + 4).toNat ns.length - (4 * (k : Int)).toNat) (List.drop (4 * (k : Int)).toNat ns)).length ≤ 4 := by
    rw [List.length_take]; omega
  generalize List.take (min (4 * (k : Int) + 4).toNat ns.length - (4 * (k : Int)).toNat) (List.drop (4 * (k : Int)).toNat ns) = cs9 at *
  have hlenW := hW.length
  have hneO : ∀ p ∈ (D, listOf (List.toArray ws) 0) :: news, p.1 ≠ O := ne_cons (Nat.ne_of_gt l1) fun p hp => Nat.ne_of_lt (lO p hp)
  replace N1 : News g0 L0 h4 ((O, listOf #[] 0) :: (D, listOf (List.toArray ws) 0) :: news) := fun p hp => N1 p (by revert p; walk_at "my sub")
  have hD9 : (D, listOf (List.toArray ws) 0) ∈ (D, listOf (List.toArray ws) 0) :: news := .head _
  have hsub9 : ∀ p ∈ news, p ∈ (D, listOf (List.toArray ws) 0) :: news := fun p hp => .tail _ hp
  generalize hb9 : (D, listOf (List.toArray ws) 0) :: news = base9 at *
  refine loopX_list [Str.ofString "cell", Str.ofString "base"] (JL O base9 fun i => (cs9.take i).map cellP) ?_ (.tail _ hD9) F1 N1 ?_ ?_ ?_ ?_
  · exact rfl
  · exact JL.start rfl hneO
  · rintro i m nx ⟨us, k, tl, rfl, -⟩
    exact .tail _ (List.mem_append.mpr (.inl hD9))
  · rintro i v u nx h tk own hi hv hoff ⟨us, k9, tl, rfl, hne, hab, hus⟩ F₁ N₁
    clear F1 N1
    have hne1 := ne_left hne
    have hne2 := ne_right hne
    dsimp only at hus
    dsimp only [envOf] at F₁ N₁
    simp only [List.cons_append, List.append_assoc] at N₁
    obtain ⟨c, tc, rfl, hci⟩ := hW.at i v hv
    have hlenU := hus.length
    rw [List.length_map, List.length_map, List.length_take] at hlenU
    have hsz : us.toArray.size ≤ sizeLine := by rw [List.size_toArray, sizeLine_eq]; omega
    clear hv
    k_steps
    · rename (c.fdiv 4096).fmod 2 = 0 => g1
      rename Fr _ _ _ _ => F3
      rename News _ _ _ _ => N3
      rename_i D5 h5 l5 h6
      obtain ⟨l5, l6⟩ := l5
      refine endP us k9 F3 N3 ?_ hoff hne hab l5 l6 ?_ hus ?_
      · walk_at "my sub"
      · walk_at "my same"
      · show (cs9.take (i + 1)).map cellP = (cs9.take i).map cellP ++ _
        rw [List.take_add_one, hci, List.map_append]
        congr 1
        simp only [Option.toList, List.map_cons, List.map_nil, cellP, if_pos g1]
    · rename (c.fdiv 4096).fmod 2 ≠ 0 => g1
      rename Fr _ _ _ _ => F3
      rename News _ _ _ _ => N3
      rename_i D5 h5 l5 h6
      obtain ⟨l5, l6⟩ := l5
      refine endP us k9 F3 N3 ?_ hoff hne hab l5 l6 ?_ hus ?_
      · walk_at "my sub"
      · walk_at "my same"
      · show (cs9.take (i + 1)).map cellP = (cs9.take i).map cellP ++ _
        rw [List.take_add_one, hci, List.map_append]
        congr 1
        simp only [Option.toList, List.map_cons, List.map_nil, cellP, if_neg g1]
  · rintro u nx h tk ⟨us, k9, tl, rfl, hne, hab, hus⟩ F₁ N₁
    clear F1 N1
    dsimp only at hus
    rw [hlenW, List.take_length] at hus
    dsimp only [envOf] at F₁ N₁
    have hlenU := hus.length
    rw [List.length_map, List.length_map] at hlenU
    have hz16 : us.length ≤ 16384 := by omega
    dsimp only
    k_steps
    · rename Fr h₀ L _ m => F2
      rename News h₀ L _ _ => N2
      dsimp only at N2
      rename_i D1 q1 l1 D2 q2 l2 D5 h5 F5 N5 l5 T5 X5
      obtain ⟨l11, l12, l13⟩ := l1
      obtain ⟨l21, l22, l23, l24⟩ := l2
      obtain ⟨l51, l52, l53, l54, l55⟩ := l5
      refine hret _ [_, _, _] _ _ [(5 + (k : Int), 20), (9 * (k : Int) + 1, 9 * (k : Int) + 1)] F2 (three_in N2 (fun p hp => .tail _ (.tail _ (List.mem_append.mpr (.inl (hsub9 p hp)))))) (above_cons (lt_all l55 (fun p hp => List.mem_append.mpr (.inl (hsub9 p hp)))) (above_cons (lt_all l24 (fun p hp => List.mem_append.mpr (.inl (hsub9 p hp)))) (above_lt (lt_all l13 (fun p hp => List.mem_append.mpr (.inl (hsub9 p hp))))))) ?_ ?_ (by simp)
      · exact .tuple (vs := [_, _]) (.head _) (.cons (pd_in (.tail _ (.tail _ (.head _)))) (.cons (pd_in (.tail _ (.head _))) .nil))
      · intro p hp
        simp only [List.mem_cons, List.not_mem_nil, or_false] at hp
        rcases hp with rfl | rfl <;> constructor <;> dsimp only <;> omega
    · rename Fr h₀ L _ m => F2
      rename News h₀ L _ _ => N2
      rename_i D5 h5 F5 N5 l5 T5 X5
      obtain ⟨l51, l52, l53⟩ := l5
      refine hret _ ((D5, tupO us 0) :: tl) _ _ (cs9.map cellP) F2 (fun p hp => N2 p ?_) (above_cons (lt_all l53 (fun p hp => List.mem_append.mpr (.inl (hsub9 p hp)))) (above_sub hab hsub9)) (.tuple (.head _) (hus.mono fun p hp => .tail _ hp)) ?_ ?_
      · rcases List.mem_append.mp hp with hp | hp
        · exact .tail _ (.tail _ (.tail _ (List.mem_append.mpr (.inl (hsub9 p hp)))))
        · rcases List.mem_cons.mp hp with rfl | hp
          · exact .head _
          · exact .tail _ (.tail _ (.tail _ (List.mem_append.mpr (.inr hp))))
      · intro p hp
        obtain ⟨c, _, rfl⟩ := List.mem_map.mp hp
        exact cellP_pos c
      · rw [List.length_map]; exact hc4

end Mine
end

/-! ## Lawuse -/
section
open PySem PySem.W PyProof.Rows PySem.Calls PySem.Spec
namespace Mine
section
variable {w : World} {mean : ExcName → Option Value} {mg mb : Str → Option Value} {ns : List Int} {sv : List Value} {sa : Addr} {kk : Int} {t : Tok} {dp un : Nat} {gd : Option (List Code)} {cn : Str} {cs : Scope} {a : Addr} {ccd : Value} {cl : List (Str × Addr)} {outer : List Env} {A₀ : Around} {base h₀ : Heap} {L : Addr} {m : Str → Option Value} {news : List (Addr × Obj)} {s : Shared}
    {Q E : Value → Shared → Prop}
theorem lawset_use (B : Below A₀ base outer h₀) (F : Fr h₀ L s.heap m) (X : (hd.heap_39 w.params).In h₀) (N : News h₀ L s.heap news) (T : Top hd.view_39 (looseW hd.view_39 [Str.ofString "PostError"]) mean mg mb h₀) (hk : cs.kind = .function) (hS : h₀.IsList sa sv.toArray) (hI : IntsAre sv ns) (hn : ns.length ≤ 63) (hkk : ∃ k : Nat, k < 3 ∧ kk = (k : Int))
    (hd : dp + 2 < recursionLimit) (hu : un + 80 < cLine)
    (ret : ∀ r tl h' tk' l, Fr h₀ L h' m → News h₀ L h' (news ++ tl) → Above news tl → SetIn tl r l → Pos2 l → l.length ≤ 4 → Q r { s with heap := h', toks := tk' }) :
    wpAny (model (PySem.Challenge.rw_nz0276_01.row.prog) w) (ktrTop dp un gd cn cs L a ccd cl outer) (call (.ref 117) [.ref sa, .int kk t]) Q E s := by
  obtain ⟨k, hk3, rfl⟩ := hkk
  exact lawset_does w mean mg mb ns sv sa k t dp un gd cn cs a ccd cl outer A₀ base h₀ L m news s Q E B F X N T hk hS hI hn hk3 hd hu ret
end
section
open LCg
theorem compEnd_app {h₀ : Heap} {L I C D : Addr} {m : Str → Option Value} {s₁ : Shared} {oI oC oD : Obj} {S : List (Addr × Obj) → Prop} {rest : Value → List (Addr × Obj) → Prop} {y : Value} {h' : Heap} {tk : Nat} {news tl nw : List (Addr × Obj)}
    (F : Fr h₀ L h' m) (N : News h₀ L h' (((I, oI) :: (C, oC) :: (D, oD) :: news) ++ tl)) (hab : Above ((I, oI) :: (C, oC) :: (D, oD) :: news) tl) (off : Off3 I C D news) (hS : S (news ++ tl)) (e : news ++ tl = nw) (r : rest y nw) :
    CompEnd h₀ L m s₁ I oI C oC D oD S rest y { s₁ with heap := h', toks := tk } := by
  refine CompEnd.intro F N (news ++ tl) (fun _ h => h) (Off3.of fun p hp => ?_) hS (e ▸ r)
  rcases List.mem_append.mp hp with hp | hp
  · exact off.mem p hp
  · exact ⟨Nat.ne_of_gt (hab _ (.head _) p hp), Nat.ne_of_gt (hab _ (.tail _ (.head _)) p hp), Nat.ne_of_gt (hab _ (.tail _ (.tail _ (.head _))) p hp)⟩
end

/-- one turn's tuple of law's loop -/
def LawT (base : List (Addr × Obj)) (v : Value) : Prop := ∃ T n x y z A B C, v = .ref T ∧ (T, tupO [x, y, z] n) ∈ base ∧ SetIn base x A ∧ SetIn base y B ∧ SetIn base z C ∧ Pos2 A ∧ Pos2 B ∧ Pos2 C ∧ A.length ≤ 4 ∧ B.length ≤ 4 ∧ C.length ≤ 4
theorem LawT.mk {base : List (Addr × Obj)} {T : Addr} {n : Nat} {x y z : Value} {A B C : List (Int × Int)} (h : (T, tupO [x, y, z] n) ∈ base) (sA : SetIn base x A) (sB : SetIn base y B) (sC : SetIn base z C) (a1 : Pos2 A) (b1 : Pos2 B) (c1 : Pos2 C) (a2 : A.length ≤ 4) (b2 : B.length ≤ 4) (c2 : C.length ≤ 4) : LawT base (.ref T) :=
  ⟨T, n, x, y, z, A, B, C, rfl, h, sA, sB, sC, a1, b1, c1, a2, b2, c2⟩

theorem law_base {h₀ h : Heap} {L lL : Addr} {m : Str → Option Value} {vs : List Value} {n : Nat} {led : List (Addr × Obj)} {P : Prop} (F : Fr h₀ L h m) (N : News h₀ L h led) (hm : (lL, listOf (List.toArray vs) n) ∈ led) (ha : ∀ v ∈ vs, LawT led v)
    (k : ∀ m₀ base9, Fr h₀ L h m₀ → News h₀ L h base9 → (lL, listOf (List.toArray vs) n) ∈ base9 → (∀ v ∈ vs, LawT base9 v) → P) : P := k m led F N hm ha

end Mine
end

/-! ## Law -/
section
open PySem PySem.W PyProof.Rows PySem.Calls PySem.Spec
namespace Mine
local macro_rules | `(tactic| walk_at "my sub") => `(tactic| (intro p9 h9; (simp only [List.mem_append, List.mem_cons, List.not_mem_nil, or_false, false_or] at h9 ⊢); (repeat' (refine Or.elim h9 ?_ ?_ <;> clear h9 <;> intro h9)) <;> (simp only [h9, true_or, or_true]; done)))
local macro_rules | `(tactic| walk_at "my same") => `(tactic| (intro z9 h9; (try dsimp only); (simp only [List.contains_cons, List.contains_nil, Bool.or_false, Bool.or_eq_false_iff, beq_eq_false_iff_ne, ne_eq] at h9); (simp [h9]; done)))
local macro_rules | `(tactic| walk_at "my mem") => `(tactic| first | exact List.Mem.head _ | (refine List.Mem.tail _ ?_; walk_at "my mem"))
local macro_rules | `(tactic| walk_at "my ne") => `(tactic| first
  | assumption
  | exact ne_nil
  | exact ne_all (by assumption)
  | exact ne_allSub (And.right (by assumption)) (by walk_at "my sub")
  | exact ne_own (by assumption) (by walk_at "my mem")
  | exact ne_lt (by assumption) (by walk_at "my mem")
  | (refine ne_app ?_ ?_ <;> walk_at "my ne")
  | (refine ne_cons (by (refine neN ?_; (try dsimp only); omega)) ?_; walk_at "my ne"))
local macro_rules | `(tactic| walk_at "my lt") => `(tactic| first
  | assumption
  | exact lt_nil
  | exact lt_all (by assumption) (by walk_at "my sub")
  | (refine lt_cons (by (try dsimp only); omega) ?_; walk_at "my lt")
  | (refine lt_app ?_ ?_ <;> walk_at "my lt"))
local macro_rules | `(tactic| k_all) => `(tactic| walk_at "my ne")
local macro_rules | `(tactic| walk_at "my off") => `(tactic| first
  | assumption
  | exact off_nil
  | exact off_lt (by assumption) (by walk_at "my sub")
  | exact off_tail (by assumption)
  | (refine off_app ?_ ?_ <;> walk_at "my off")
  | (refine off_cons (by walk_at "my ne") ?_; walk_at "my off"))
local macro_rules | `(tactic| walk_at "exec For") => `(tactic| (k_here; (rename Fr _ _ _ _ => lF'); (with_unfolding_all refine' For_hold lF' ?_); k_whole))
local macro_rules | `(tactic| walk_at "exec For Name Name cons nil") => `(tactic| (k_here; (rename Fr _ _ _ _ => lF'); (with_unfolding_all refine' For_hold lF' ?_); k_whole))
local macro_rules | `(tactic| walk_at "exec For Name Call cons nil") => `(tactic| (k_here; (rename Fr _ _ _ _ => lF'); (with_unfolding_all refine' For_hold lF' ?_); k_whole))
local macro_rules | `(tactic| walk_at "exec For Tuple Name cons nil") => `(tactic| (k_here; (rename Fr _ _ _ _ => lF'); (with_unfolding_all refine' For_hold lF' ?_); k_whole))
local macro_rules | `(tactic| walk_at "exec For Tuple Call cons nil") => `(tactic| (k_here; (rename Fr _ _ _ _ => lF'); (with_unfolding_all refine' For_hold lF' ?_); k_whole))
local macro_rules | `(tactic| walk_at "exec For Name Subscript cons nil") => `(tactic| (k_here; (rename Fr _ _ _ _ => lF'); (with_unfolding_all refine' For_hold lF' ?_); k_whole))
local macro_rules | `(tactic| walk_at "call builtin:list.append") => `(tactic| (k_here; (show wpAny _ _ (call (Value.builtin "list.append") [Value.ref _, _]) _ _ _); k_dflt (refine' append_K ?k1 ?k2 ?k3 ?_ ?z; (case k1 => k_asm); (case k2 => k_asm); (case k3 => k_upd); (case z => first | assumption | size_fits); k_whole); intro h' F' N'; (try k_sweep)))
local macro_rules | `(tactic| walk_at "call builtin:len") => `(tactic| (k_here; (show wpAny _ _ (call (Value.builtin "len") [Value.ref _]) _ _ _); k_dflt (first
  | (refine' len_listN ?k1 ?k2 ?z ?_; (case k1 => k_asm); (case k2 => k_mem); (case z => assumption); k_whole)
  | (refine' len_tupN ?k1 ?k2 ?z ?_; (case k1 => k_asm); (case k2 => k_mem); (case z => assumption); k_whole)); intro t9 tk9; (try dsimp only)))
local macro_rules | `(tactic| walk_at "subscriptTail") => `(tactic| (k_here; (show wpAny _ _ (subscriptTail _ _ (Value.ref _) (Value.int (-1) _)) _ _ _); k_dflt (refine' back_tailN ?k1 ?k2 ?_ ?k3; (case k1 => k_asm); (case k2 => k_mem); (case k3 => with_unfolding_all rfl); k_whole)))
local macro_rules | `(tactic| walk_at "getItem ref int") => `(tactic| (k_here; (show wpAny _ _ (getItem (Value.ref _) (Value.int (-1) _)) _ _ _); k_dflt (refine' back_listN ?k1 ?k2 ?_; (case k1 => k_asm); (case k2 => k_mem); k_whole)))
local macro_rules | `(tactic| walk_at "setItem ref int") => `(tactic| (k_here; (show wpAny _ _ (setItem (Value.ref _) (Value.int (-1) _) _) _ _ _); k_dflt (refine' set_backN ?k1 ?k2 ?k3 ?_; (case k1 => k_asm); (case k2 => k_asm); (case k3 => k_upd); k_whole); intro h' F' N'; (try k_sweep)))
local macro_rules | `(tactic| walk_at "call type:tuple") => `(tactic| (k_here; (show wpAny _ _ (call (Value.type "tuple") [Value.ref _]) _ _ _); k_dflt (refine' tupleN ?k1 ?k2 ?k3 ?z ?_; (case k1 => k_asm); (case k2 => k_asm); (case k3 => k_mem); (case z => assumption); k_whole); intro D' h' F' N' l1; (try k_lt l1); (try k_sweep)))
local macro_rules | `(tactic| walk_at "subscriptTail") => `(tactic| (k_here; (show wpAny _ _ (subscriptTail _ _ (Value.ref _) (Value.int _ _)) _ _ _); k_dflt (refine' at_tupN ?k1 ?k2 ?k3 ?k4 ?k5 ?_ ?k6; (case k1 => k_asm); (case k2 => k_mem); (case k5 => assumption); (case k3 => omega); (case k4 => omega); (case k6 => with_unfolding_all rfl); k_whole)))
local macro_rules | `(tactic| k_mem) => `(tactic| exact mem_use (by assumption) (by walk_at "my sub"))
local macro_rules | `(tactic| walk_at "call ref") => `(tactic| (k_here; (with_reducible show wpAny _ _ (call (Value.ref 117) _) _ _ _); (with_unfolding_all (
  refine' lawset_use ?k1 ?k2 ?k3 ?k4 ?k5 ?kK ?kS ?kI ?kL ?kk ?kd ?ku ?_; (case k1 => k_asm); (case k2 => k_asm); (case k3 => k_asm); (case k4 => k_asm); (case k5 => k_asm); (case kK => exact rfl);
  (case kS => k_asm); (case kI => k_asm); (case kL => omega); (case kk => first | exact ⟨0, by decide, rfl⟩ | exact ⟨1, by decide, rfl⟩ | exact ⟨2, by decide, rfl⟩); (case kd => decide); (case ku => decide);
  intro r9 tl9 h9 tk9 l9 F9 N9 hl9 ho9 hp9 hz9))))
local macro_rules | `(tactic| walk_at "eval ListComp") => `(tactic| (k_here; lcf_look; k_dflt (refine LCg.ListComp_U (F₀ := by k_asm) (by with_unfolding_all rfl) (by decide) (by rfl) (by decide) (by rfl) ?_); k_dflt lcg_toSrc))
local macro_rules | `(tactic| walk_at "CompSrc") => `(tactic| (k_here; k_dflt (refine LCg.CompSrc.range (by rfl) (by k_asm) (by k_asm) (by assumption) (by first | decide | rfl) (by first | rfl | decide) (by first | size_fits | exact Nat.le_of_ble_eq_true rfl) ?_; intro g'; lcg_lit)))
local macro_rules | `(tactic| walk_at "CompEnd") => `(tactic| (refine' compEnd_app ?k1 ?k2 ?k3 ?k4 ?k5 ?k6 ?_; (case k1 => assumption); (case k2 => assumption); (case k3 => assumption); (case k4 => ((try simp only [LCg.Off3, and_true]); assumption)); (case k5 => exact True.intro); (case k6 => ((try simp only [List.cons_append, List.nil_append, List.append_assoc]); rfl))))
local macro_rules | `(tactic| walk_at "my set") => `(tactic| first
  | assumption
  | (refine' DatIn.mono ?setS ?setH; (case setH => assumption); (case setS => walk_at "my sub")))
local macro_rules | `(tactic| walk_at "call ref") => `(tactic| (k_here; (with_reducible show wpAny _ _ (call (Value.ref 110) _) _ _ _); (with_unfolding_all (
  refine' does_use (d := (_, _)) (less_does _ _ _ _) ?k1 ?k2 ?k3 ?k4 ?k5 ?kK ?kR ?ko ?kd ?ku ?_; (case k1 => k_asm); (case k2 => k_asm); (case k3 => k_asm); (case k4 => k_asm); (case k5 => k_asm); (case kK => exact rfl);
  (case kR => (refine ⟨_, _, rfl, ?sA, ?sB⟩; (case sA => ((try dsimp only); walk_at "my set")); (case sB => ((try dsimp only); walk_at "my set")))); (case ko => exact ⟨by assumption, by assumption, by dsimp only; omega⟩); (case kd => (dsimp only [lessT]; decide)); (case ku => (dsimp only [lessT]; decide));
  intro r9 tl9 h9 tk9 F9 N9 hl9 ho9; (try simp only [List.cons_append, List.append_assoc, List.nil_append] at N9); (dsimp only [lessT] at ho9); (obtain ⟨a9, ws9, n9, e9, hm9, hd9⟩ := set_open ho9); subst e9; clear hm9 hd9; (try dsimp only); (try k_fold)))))
local macro_rules | `(tactic| walk_at "call ref") => `(tactic| (k_here; (with_reducible show wpAny _ _ (call (Value.ref 103) _) _ _ _); (with_unfolding_all (
  refine' does_use (d := (_, _)) (cut_does _ _ _ _) ?k1 ?k2 ?k3 ?k4 ?k5 ?kK ?kR ?ko ?kd ?ku ?_; (case k1 => k_asm); (case k2 => k_asm); (case k3 => k_asm); (case k4 => k_asm); (case k5 => k_asm); (case kK => exact rfl);
  (case kR => (refine ⟨_, _, rfl, ?sA, ?sB⟩; (case sA => ((try dsimp only); walk_at "my set")); (case sB => ((try dsimp only); walk_at "my set")))); (case ko => exact ⟨by assumption, by assumption, by dsimp only; omega⟩); (case kd => (dsimp only [cutT]; decide)); (case ku => (dsimp only [cutT]; decide));
  intro r9 tl9 h9 tk9 F9 N9 hl9 ho9; (try simp only [List.cons_append, List.append_assoc, List.nil_append] at N9); (dsimp only [cutT] at ho9); (obtain ⟨a9, ws9, n9, e9, hm9, hd9⟩ := set_open ho9); subst e9; clear hm9 hd9; (try dsimp only); (try k_fold)))))
local macro_rules | `(tactic| walk_at "call ref") => `(tactic| (k_here; (with_reducible show wpAny _ _ (call (Value.ref 96) _) _ _ _); (with_unfolding_all (
  refine' does_use (d := (_, _)) (join_does _ _ _ _) ?k1 ?k2 ?k3 ?k4 ?k5 ?kK ?kR ?ko ?kd ?ku ?_; (case k1 => k_asm); (case k2 => k_asm); (case k3 => k_asm); (case k4 => k_asm); (case k5 => k_asm); (case kK => exact rfl);
  (case kR => (refine ⟨_, _, rfl, ?sA, ?sB⟩; (case sA => ((try dsimp only); walk_at "my set")); (case sB => ((try dsimp only); walk_at "my set")))); (case ko => exact ⟨by assumption, by assumption, by dsimp only; omega⟩); (case kd => (dsimp only [joinT]; decide)); (case ku => (dsimp only [joinT]; decide));
  intro r9 tl9 h9 tk9 F9 N9 hl9 ho9; (try simp only [List.cons_append, List.append_assoc, List.nil_append] at N9); (dsimp only [joinT] at ho9); (obtain ⟨a9, ws9, n9, e9, hm9, hd9⟩ := set_open ho9); subst e9; clear hm9 hd9; (try dsimp only); (try k_fold)))))
local macro_rules | `(tactic| walk_at "call ref") => `(tactic| (k_here; (with_reducible show wpAny _ _ (call (Value.ref 75) _) _ _ _); (with_unfolding_all (
  refine' does_use (plain_does _ _ _ _) ?k1 ?k2 ?k3 ?k4 ?k5 ?kK ?kR ?ko ?kd ?ku ?_; (case k1 => k_asm); (case k2 => k_asm); (case k3 => k_asm); (case k4 => k_asm); (case k5 => k_asm); (case kK => exact rfl);
  (case kR => (refine ⟨_, _, rfl, ?sA⟩; (case sA => ((try dsimp only); walk_at "my set")))); (case ko => exact ⟨by assumption, by omega⟩); (case kd => (dsimp only [plainT]; decide)); (case ku => (dsimp only [plainT]; decide));
  intro r9 tl9 h9 tk9 F9 N9 hl9 ho9; (try simp only [List.cons_append, List.append_assoc, List.nil_append] at N9); (dsimp only [plainT] at ho9); (obtain ⟨a9, ws9, n9, e9, hm9, hd9⟩ := set_open ho9); subst e9; clear hm9 hd9; (try dsimp only); (try k_fold)))))
local macro_rules | `(tactic| walk_at "call ref") => `(tactic| (k_here; (with_reducible show wpAny _ _ (call (Value.ref 89) _) _ _ _); (with_unfolding_all (
  refine' does_use (size_does _ _ _ _) ?k1 ?k2 ?k3 ?k4 ?k5 ?kK ?kR ?ko ?kd ?ku ?_; (case k1 => k_asm); (case k2 => k_asm); (case k3 => k_asm); (case k4 => k_asm); (case k5 => k_asm); (case kK => exact rfl);
  (case kR => (refine ⟨_, rfl, ?sA⟩; (case sA => ((try dsimp only); walk_at "my set")))); (case ko => exact ⟨by assumption, by omega⟩); (case kd => (dsimp only [sizeT]; decide)); (case ku => (dsimp only [sizeT]; decide));
  intro r9 tl9 h9 tk9 F9 N9 hl9 ho9; (try simp only [List.cons_append, List.append_assoc, List.nil_append] at N9); (dsimp only [sizeT] at ho9); (obtain ⟨t9, e9⟩ := ho9); subst e9; (try dsimp only); (try k_fold)))))
local macro_rules | `(tactic| walk_at "compareOp NotEq ref ref") => `(tactic| (k_here; (with_reducible show wpAny _ _ (compareOp CmpOp.NotEq (Value.ref _) (Value.ref _)) _ _ _); (with_unfolding_all (refine' ne_setsEq ?k1 ?k2 ?k3 ?k4 ?k5 ?_; (case k1 => k_asm); (case k2 => walk_at "my set"); (case k3 => first | (walk_at "my set") | (refine (?set0 : SetIn _ _ []); (case set0 => (refine DatIn.tuple (n := 0) (vs := []) ?setM .nil; (case setM => k_mem))))); (case k4 => ((show callerA.units + 3 + 64 < cLine); decide)); (case k5 => with_reducible (first | assumption | exact Eq.symm (by assumption)))))))
local macro_rules | `(tactic| walk_at "newTuple") => `(tactic| (k_here; k_dflt (refine' kup_newTuple ?F ?N ?_ ?z; (case F => k_asm); (case N => k_asm); (case z => kmk_size)); intro D' h' F' N' l1; (try k_lt l1); (try k_sweep); (try k_unmd)))
theorem law_walk : PySem.Challenge.rw_nz0276_01.Holds := hd (by
  k_go0
  (all_goals try k_fold)
  k_steps
  rename_i r9a tl9a h9a tk9a l9a F9a N9a hl9a ho9a hp9a hz9a i1 i2 i3 i4 i5 i6 i7 i8 i9 i10 i11 i12 i13 i14 i15 i16 i17 r9b tl9b h9b tk9b l9b F9b N9b hl9b ho9b hp9b hz9b j1 j2 j3 j4 j5 j6 j7 j8 j9 j10 j11 j12 j13 j14 j15 r9c tl9c h9c tk9c l9c F9c N9c hl9c ho9c hp9c hz9c d1 d2 d3 d4 e1 e2 e3 e4 T1 f1 f2 T2 f3 f4 T3 f5 f6 lL f7 F1 N1 f8
  clear f2 f4 f6 f8 hl9a hl9b hl9c N9a N9b N9c F9a F9b F9c
  refine law_base (vs := [Value.ref T1, Value.ref T2, Value.ref T3]) F1 N1 (.head _) ?_ ?_
  · intro v hv
    simp only [List.mem_cons, List.not_mem_nil, or_false] at hv
    rcases hv with rfl | rfl | rfl
    · exact LawT.mk (x := r9a) (y := r9b) (z := r9c) (n := 0) (by walk_at "my mem") (ho9a.mono (by walk_at "my sub")) (ho9b.mono (by walk_at "my sub")) (ho9c.mono (by walk_at "my sub")) hp9a hp9b hp9c hz9a hz9b hz9c
    · exact LawT.mk (x := r9b) (y := r9c) (z := r9a) (n := 0) (by walk_at "my mem") (ho9b.mono (by walk_at "my sub")) (ho9c.mono (by walk_at "my sub")) (ho9a.mono (by walk_at "my sub")) hp9b hp9c hp9a hz9b hz9c hz9a
    · exact LawT.mk (x := r9c) (y := r9a) (z := r9b) (n := 0) (by walk_at "my mem") (ho9c.mono (by walk_at "my sub")) (ho9a.mono (by walk_at "my sub")) (ho9b.mono (by walk_at "my sub")) hp9c hp9a hp9b hz9c hz9a hz9b
  · clear N1 F1
    intro m9 base9 F1 N1 hm9 hall
    refine loopX_list [Str.ofString "a", Str.ofString "b", Str.ofString "c", Str.ofString "left", Str.ofString "common"] (fun _ _ nx => nx = base9) ?_ hm9 F1 N1 rfl (fun i m nx h => h ▸ hm9) ?_ ?_
    · exact rfl
    · rintro i v u nx h tk own hi hv hoff rfl F₁ N₁
      clear F1 N1
      obtain ⟨T, n, x, y, z, A, B, C, rfl, hT, sA, sB, sC, pA, pB, pC, kA, kB, kC⟩ := hall v (List.mem_of_getElem? hv)
      have pL := pos_ls pA pB
      have pK := pos_ct pA pB
      have pK2 := pos_ct pA pC
      have pJ := pos_jn pB pC
      have pAB := pos_jn pA pB
      have kL := len_ls kA kB
      have kK := len_ct kA kB
      have kK2 := len_ct kA kC
      have kJ := len_jn kB kC
      have kAB := len_jn kA kB
      have q1 := law1 pA pB
      have q2 := law2 pA pB
      have q3 := law3 pA pB
      have q4 := law4 pA pB pC
      have q5 := law5 pA pB
      have q6 := law6 pA pB pC
      have q7 := law7 pA
      have q8 := law8 pA
      have q9 := law9 pA
      have q10 := law10 pA pB
      have q11 := law11 pA pB
      unfold Pos2 at *
      k_steps
      all_goals (try (refine absurd q10 ?_; assumption))
      all_goals (try (refine absurd q11 ?_; assumption))
      rename Fr _ _ _ _ => F3
      rename News _ _ _ _ => N3
      refine endX nx F3 N3 ?_ ?_ hoff ?_ rfl
      · (intro p9 h9; clear N3 F3; (repeat refine List.Mem.tail _ ?_); exact List.mem_append_left _ h9)
      · (intro p9 h9; clear N3 F3; (repeat refine List.Mem.tail _ ?_); exact List.mem_append_right _ (List.mem_append_left _ h9))
      · walk_at "my same"
    · rintro u nx h tk rfl F₁ N₁
      k_steps)

end Mine
end

theorem PySem.Challenge.cw_nz0276_01_holds : PySem.Challenge.rw_nz0276_01.Holds := by
  exact Mine.law_walk
